import PyProof.Rows.All
import Wide.All
import OpenK.AllK
import Wide.FinOn
import HandS.ForMost
import HandS.ForExc
import HandS.ExcInit
import HandS.ExcField
import HandS.IsInst
import HandS.Wide
import HandS.EndBits
import HandS.Defaults
import HandS.Flow
import HandS.Head2
import HandS.HeadHook4
import HandS.HotCalls
import HandS.ExcCtx
import HandS.Evl
import HandS.ExcInitHot
import HandS.ExcIs
import KE.KExcIs
import HandS.ClsMeth
import HandS.Text
import HandS.StrMore
import HandS.Iter
import HandS.Codes
import KE.KEqNest
import PySem.Challenge.RW_slopesback_k04_terms_read
import HandS.ReplaceLit
import HandS.ReplaceList
import HandS.RaiseMore
import PyProof.StrReplace2
set_option Elab.async false
set_option linter.all false
set_option maxRecDepth 100000
set_option maxHeartbeats 4000000
/-! words of our own over the hand layer: a callee by its name, readings in steps -/
namespace Fw
open PySem PySem.Spec PyProof.Rows L2

/-! ### the end of a law: K from the head, the script's bits -/
theorem walk_ofEB {l : PySem.W.OpenLaw} {n k : Nat} {q : Program} {loose : List Str} {XP : (Str → Option Value) → Heap → Prop} {YP : World → Heap → Prop} {d : DefRec} {CX : World → CXT} {x : Str}
    (hn : l.most = some n) (hn2 : n ≤ sizeLine) (hdf : d.params.defaults = []) (hr : Room k callerA)
    (F : ∀ (w : World) (mg : Str → Option Value) (fa : Addr) (h : Heap), YP w h → h.Ns mainGlobals mg → mg d.name = some (.ref fa) →
      ∃ (K : PySem.W.Frag) (fd : FuncData) (sp : Sp), K.In h ∧ (∀ (s : Shared) (u : Value), BindsTo s fd ⟨[u], []⟩ [(x, u)]) ∧
        (∀ (H : Hp) (a : Addr) (ns : List Int), ns.length ≤ n → (∀ z ∈ ns, Builtin.Int.intBits z ≤ 1048576) → Only H → SqL K H a (ns.map V.int) → sp [.ref a] H (fun v _ => v = .bl true) fun _ _ _ => False) ∧
        ∀ base : Heap, K.In base → base.Ns mainGlobals mg → FnOk l.prog w K mg base (CX w) k fa fd [x] sp)
    (hCX : ∀ (w : World) (H : Hp) (s : Shared) (e : Value) (s' : Shared), CX w [] H s (fun _ _ _ => False) e s' → False) :
    PySem.W.WalkO q loose XP YP l.row.toRowW d [] (fun f vs => PySem.call f vs) := by
  refine Att.attach_callB hn hdf fun w s₀ s₁ mg mb fa o pm cd doc a vs ns G Y ho hd hcd hmg hobj hints hlen hbits hg => ?_
  obtain ⟨K, fd, sp, KX, hb, hsp, hF⟩ := F w mg fa _ Y G.T.g hmg
  exact law_call KX G.T.g G.T.b G.T.builtins G.T.nolimit hg hobj hints (Nat.le_trans hlen hn2) hr hF hb (fun H hO hS => hsp H a ns hlen hbits hO hS) fun H e s' => hCX w H s₁ e s'

/-! ### a def of the top, by its name -/
structure Cal (P : Program) (w : World) (K : PySem.W.Frag) (mg : Str → Option Value) (base : Heap) (k : Nat) (x : Str) (ps : List Str) (sp : Sp) : Prop where
  ex : ∃ f fd, FnOk P w K mg base (L2N.CX P w) k f fd ps sp ∧ Binds K fd ps [] ∧ mg x = some (.ref f) ∧ PySem.W.keepIn K (.ref f) = true
/-- what stands of a def behind the top -/
def Def (K : PySem.W.Frag) (mg : Str → Option Value) (x : Str) (st : Stmt) : Prop :=
  (∃ fd, FunD K x x (defArgs st) (defBody st) (defScope st) [] [] (He.ga K x) fd) ∧ mg x = some (.ref (He.ga K x))
def BindsOk (x q : Str) (ps : List Str) (st : Stmt) : Prop := ∀ (kV doc pm : Value) (an : Option Addr) (cdv ct : Value) (us : List Value), us.length = ps.length → bindArgs (PySem.W.fnOf x q (defArgs st) (defBody st) (defScope st) .none kV doc pm an cdv ct) ⟨us, []⟩ = pure (ps.zip us)
section
variable {P : Program} {w : World} {K : PySem.W.Frag} {mg : Str → Option Value} {base : Heap}
theorem cal_of {x : Str} {st : Stmt} {N ps : List Str} {k : Nat} {sp : Sp} (F : Def K mg x st) (S : FnScope N ps (defScope st)) (b : BindsOk x x ps st) (len : ∀ vs H Q E, sp vs H Q E → vs.length = ps.length)
    (hbody : ∀ (cdv : Value) (A : Around) (outer : List Env) (s : Shared) (H : Hp) (vs : List V) (Q : VK) (E : XK), Room k (A.deeper (envOfC x (defScope st) s.heap.objs.size (He.ga K x) cdv)) → sp vs H Q E →
      ∃ t, PSs (cxOf (L2N.CX P w) P w K mg base N x (defScope st) (He.ga K x) cdv A outer s H E) (defBody st) t ∧ t { nx := fun _ H' => Q .non H', rt := Q } (start N vs) H) : Cal P w K mg base (k + 1) x ps sp := by
  obtain ⟨⟨fd, F⟩, g⟩ := F
  exact ⟨_, fd, F.ok S len hbody, F.bindsN b, g, F.kp⟩
theorem Cal.mono {x : Str} {ps : List Str} {j k : Nat} {sp : Sp} (c : Cal P w K mg base j x ps sp) (h : j ≤ k) : Cal P w K mg base k x ps sp := by
  obtain ⟨f, fd, F, r⟩ := c.ex
  exact ⟨f, fd, F.mono h, r⟩
theorem Cal.imp {x : Str} {ps : List Str} {k : Nat} {sp sp' : Sp} (c : Cal P w K mg base k x ps sp) (h : ∀ vs H Q E, sp' vs H Q E → sp vs H Q E) : Cal P w K mg base k x ps sp' := by
  obtain ⟨f, fd, F, r⟩ := c.ex
  exact ⟨f, fd, F.imp h, r⟩
end
def tCal (sp : Sp) (E : XK) (t : TA) : TE := fun σ H Q => t σ H fun vs H1 => sp vs H1 Q E
section
variable {X : Cx} {k j : Nat} {x : Str} {ps : List Str} {sp : Sp} {E : XK} {p pos : Pos} {e : Expr} {es : List Expr} {t : TA}
theorem pe_cal (c : Cal X.prog X.w X.K X.mg X.base j x ps sp) (hr : Room k X.A) (hj : j ≤ k) (hx : Passes (L2N.CX X.prog X.w) X E) (ha : PA X (e :: es) t) (hg : Gl X x := by rfl)
    (hdb : (x == ("__debug__" : Str)) = false := by decide) (he : starEach (e :: es) X.env = (false, eval e X.env) :: starEach es X.env := by rfl) (hpl : (backTo pos (starEach es X.env)).any (·.1) = false := by rfl) :
    PE X (.Call (.Name x p) (e :: es) [] pos) (tCal sp E t) := by
  obtain ⟨f, fd, F, b, g, kp⟩ := c.ex
  have h := pe_call (p := p) (pos := pos) (F.mono hj) hr hg g kp b .nil hx ha hdb he hpl
  have e1 : tCall sp [] E t = tCal sp E t := by
    funext σ H Q
    show t σ H (fun vs H1 => sp (vs ++ []) H1 Q E) = t σ H fun vs H1 => sp vs H1 Q E
    congr 1
    funext vs H1
    rw [List.append_nil]
  rw [← e1]
  exact h
end

/-! ### operators -/
section
variable {X : Cx}
def rMul : R2 := rI CMulW fun i j => .int (i * j)
/-- // by a divisor that is not nought -/
def CFdiv (_ j : Int) : Prop := j ≠ 0 ∧ j.natAbs.log2 < 9000
def rFdiv : R2 := rI CFdiv fun i j => .int (i.fdiv j)
def rMod : R2 := rI (fun _ j => j ≠ 0) fun i j => .int (i.fmod j)
def rPow : R2 := rI CPow fun i j => .int (i ^ j.toNat)
def rPlus : R2 := rI0 fun i j => .int (i + j)
def rMinus : R2 := rI0 fun i j => .int (i - j)
def rLt : R2 := rI0 fun i j => .bl (decide (i < j))
def rLe : R2 := rI0 fun i j => .bl (decide (i ≤ j))
def rGt : R2 := rI0 fun i j => .bl (decide (j < i))
def rGe : R2 := rI0 fun i j => .bl (decide (j ≤ i))
theorem o_mul : OpR X (binaryOp .Mult) rMul := op_mulW
theorem o_fdiv : OpR X (binaryOp .FloorDiv) rFdiv := opI fun i j _ _ _ _ _ hc q => floordiv_int hc.1 q (.inl (PyProof.noPylong_of_log2 hc.2))
theorem o_mod : OpR X (binaryOp .Mod) rMod := op_modN
theorem o_pow : OpR X (binaryOp .Pow) rPow := op_pow
theorem o_add : OpR X (binaryOp .Add) rPlus := op_add
theorem o_sub : OpR X (binaryOp .Sub) rMinus := op_sub
theorem o_lt : OpR X (compareOp .Lt) rLt := op_lt
theorem o_le : OpR X (compareOp .LtE) rLe := op_le
theorem o_gt : OpR X (compareOp .Gt) rGt := op_gt
theorem o_ge : OpR X (compareOp .GtE) rGe := op_ge
def rAbs : List V → Hp → VK → Prop := fun xs H Q => ∃ i, xs = [.int i] ∧ Q (.int (if i < 0 then -i else i)) H
theorem c_abs : CallR X (.builtin "abs") rAbs := call_abs
def rStrI : List V → Hp → VK → Prop := fun xs H Q => ∃ i, xs = [.int i] ∧ i.natAbs.log2 < 1920 ∧ Q (.str (toString i)) H
theorem c_strI : CallR X (.type "str") rStrI := call_str_int
def rIntB : List V → Hp → VK → Prop := fun xs H Q => (∃ i, xs = [.int i] ∧ Q (.int i) H) ∨ ∃ k, xs = [.bl k] ∧ Q (.int (if k then 1 else 0)) H
theorem c_intB : CallR X (.type "int") rIntB := call_int1
def rLenS (K : PySem.W.Frag) : List V → Hp → VK → Prop := fun xs H Q => ∃ p ys, xs = [.ref p] ∧ (SqL K H p ys ∨ SqT K H p ys) ∧ Q (.int ys.length) H
theorem c_len : CallR X (.builtin "len") (rLenS X.K) := call_len_seq
theorem ixL {K : PySem.W.Frag} (h : X.K = K) : IxR X (rIxL K) := h ▸ ix_list
theorem ixT {K : PySem.W.Frag} (h : X.K = K) : IxR X (rIxT K) := h ▸ ix_tup
theorem c_lenK {K : PySem.W.Frag} (h : X.K = K) : CallR X (.builtin "len") (rLenS K) := h ▸ c_len
theorem c_isiK {K : PySem.W.Frag} (h : X.K = K) : CallR X (.builtin "isinstance") (rIsi K) := h ▸ call_isi
def rCatL : R2 := fun x y H Q => ∃ l b xs zs, x = .ref l ∧ y = .ref b ∧ H l = some (.lst xs) ∧ H b = some (.lst zs) ∧ xs.length + zs.length ≤ sizeLine ∧ ∀ p, H p = none → Q (.ref p) (upd H p (.lst (xs ++ zs)))
theorem o_catL : OpR X (binaryOp .Add) rCatL := op_cat
def rNeg : V → Hp → VK → Prop := rU fun i => .int (-i)
theorem u_neg : UnR X (unaryOp .USub) rNeg := un_neg
def rCatS : R2 := fun x y H Q => ∃ i j, x = .str i ∧ y = .str j ∧ i.length + j.length ≤ sizeLine ∧ Q (.str (i ++ j)) H
theorem o_catS : OpR X (binaryOp .Add) rCatS := op_add_str
end

/-! ### heaps -/
/-- all but what stands at d is as it was -/
def Keep (d : Addr) (H H' : Hp) : Prop := ∀ b o, b ≠ d → H b = some o → H' b = some o
theorem Keep.refl {d : Addr} {H : Hp} : Keep d H H := fun _ _ _ h => h
theorem Keep.trans {d : Addr} {H H1 H2 : Hp} (a : Keep d H H1) (b : Keep d H1 H2) : Keep d H H2 := fun c o hc h => b c o hc (a c o hc h)
theorem Keep.same {d : Addr} {H H1 H2 : Hp} (a : Keep d H H1) (b : Same H1 H2) : Keep d H H2 := fun c o hc h => b c o (a c o hc h)
theorem _root_.L2.Same.keep {d : Addr} {H H1 H2 : Hp} (a : Same H H1) (b : Keep d H1 H2) : Keep d H H2 := fun c o hc h => b c o hc (a c o h)
theorem _root_.L2.Same.toKeep {d : Addr} {H H1 : Hp} (a : Same H H1) : Keep d H H1 := fun c o _ h => a c o h
/-- what was not there at H may change -/
theorem Keep.toSame {d : Addr} {H H1 H2 : Hp} (a : Same H H1) (b : Keep d H1 H2) (h : H d = none) : Same H H2 := fun c o hc => b c o (ne_of_none hc h) (a c o hc)
theorem at_same {H H' : Hp} {b : Addr} {o : HO} (k : Same H H') (h : H b = some o) : H' b = some o := k _ _ h
theorem at_keep {d : Addr} {H H' : Hp} {b : Addr} {o : HO} (k : Keep d H H') (h : H b = some o) (n : b ≠ d) : H' b = some o := k _ _ n h
theorem at_keepT {d : Addr} {H H' : Hp} {b : Addr} {xs ys : List V} (k : Keep d H H') (h : H b = some (.tup xs)) (hd : H d = some (.lst ys)) : H' b = some (.tup xs) := k _ _ (ne_of h hd (by intro z; cases z)) h
theorem sql_same {K : PySem.W.Frag} {a : Addr} {H H' : Hp} {xs : List V} (k : Same H H') (h : SqL K H a xs) : SqL K H' a xs := k.seq h
theorem sqt_same {K : PySem.W.Frag} {a : Addr} {H H' : Hp} {xs : List V} (k : Same H H') (h : SqT K H a xs) : SqT K H' a xs := by
  rcases h with (h | ⟨o, h⟩) | h
  · exact .inl (.inl (k _ _ h))
  · exact .inl (.inr ⟨o, k _ _ h⟩)
  · exact .inr h
theorem sql_keep {K : PySem.W.Frag} {d a : Addr} {H H' : Hp} {xs : List V} (k : Keep d H H') (h : SqL K H a xs) (ne : a ≠ d) : SqL K H' a xs := by
  rcases h with (h | ⟨o, h⟩) | h
  · exact .inl (.inl (k _ _ ne h))
  · exact .inl (.inr ⟨o, k _ _ ne h⟩)
  · exact .inr h
theorem atI_ints {ns : List Int} {z : Int} (h0 : 0 ≤ z) (h1 : z < (ns.length : Int)) : ∃ y ∈ ns, atI (ns.map V.int) z = some (.int y) := by
  have hj : z.toNat < ns.length := by omega
  refine ⟨ns[z.toNat], List.getElem_mem hj, ?_⟩
  refine at_of (j := z.toNat) (by omega) ?_
  rw [List.getElem?_map, List.getElem?_eq_getElem hj]
  rfl
theorem same_upd {H : Hp} {p : Addr} {o : HO} (h : H p = none) : Same H (upd H p o) := fun b x e => by
  rw [upd_ne (ne_of_none e h)]
  exact e
theorem keep_upd {H : Hp} {p : Addr} {o : HO} : Keep p H (upd H p o) := fun b x n e => by
  rw [upd_ne n]
  exact e

/-! ### readings in steps -/
/-- a for over what J yields -/
def ForR (J : It) (g : TG) (tb : TS) (D : Ends) (σ : L2.St) (H : Hp) : Prop := ∃ W : Nat → Nat → L2.St → Hp → Prop, (∃ m, W 0 m σ H) ∧ ∀ i m σ H, W i m σ H →
  (J.stop i H ∧ D.nx σ H) ∨ (J.go i H ∧ ∃ N : L2.St → Hp → Prop, (∀ σ' H', N σ' H' → ∃ m', m' < m ∧ W (i + 1) m' σ' H') ∧ ∀ x H', J.yld i H x H' → g x σ H' fun σ2 H2 => tb { D with nx := N, ct := N, bk := D.nx } σ2 H2)
def ItL (K : PySem.W.Frag) (R : It → Hp → Prop) (x : V) (H : Hp) : Prop := ∃ a, x = .ref a ∧ (∃ xs, SqL K H a xs) ∧ R (Itl K a) H
def ItT (K : PySem.W.Frag) (R : It → Hp → Prop) (x : V) (H : Hp) : Prop := ∃ a, x = .ref a ∧ (∃ xs, SqT K H a xs) ∧ R (Itt K a) H
def ItR1 (R : It → Hp → Prop) (vs : List V) (H : Hp) : Prop := ∃ j : Int, vs = [.int j] ∧ -(2 ^ 62) ≤ j ∧ j < 2 ^ 62 ∧ R (Itr 0 j.toNat) H
def ItR2 (R : It → Hp → Prop) (vs : List V) (H : Hp) : Prop := ∃ i j : Int, vs = [.int i, .int j] ∧ (-(2 ^ 62) ≤ i ∧ i < 2 ^ 62 ∧ -(2 ^ 62) ≤ j ∧ j < 2 ^ 62) ∧ R (Itr i (j - i).toNat) H
/-- a list comprehension over what J yields -/
def LcR (J : It) (g : TG) (tt : TT) (te : TE) (vs : List Nat) (σ : L2.St) (Q : VK) (H1 : Hp) : Prop := ∀ D, H1 D = none → ∃ W : Nat → Nat → Hp → Prop, (∃ m, W 0 m (upd H1 D (.lst []))) ∧ ∀ i m H, W i m H →
  (J.stop i H ∧ Q (.ref D) H) ∨ (J.go i H ∧ ∃ Nx : Hp → Prop, (∀ H', Nx H' → ∃ m', m' < m ∧ W (i + 1) m' H') ∧ ∀ x H', J.yld i H x H' → g x (wipe σ vs) H' fun σ2 H2 => wipe σ2 vs = wipe σ vs ∧ tt σ2 H2 fun b H3 =>
    if b = true then te σ2 H3 fun y H4 => ∃ acc, H4 D = some (.lst acc) ∧ acc.length < sizeLine ∧ Nx (upd H4 D (.lst (acc ++ [y]))) else Nx H3)
def rMinL (K : PySem.W.Frag) : List V → Hp → VK → Prop := rMin K
theorem c_minL {X : Cx} (hc : X.calm = true) : CallR X (.builtin "min") (rMinL X.K) := cr_min hc
def rMin2 : List V → Hp → VK → Prop := fun xs H Q => ∃ i j, xs = [.int i, .int j] ∧ Q (.int (if j < i then j else i)) H
def rMax2 : List V → Hp → VK → Prop := fun xs H Q => ∃ i j, xs = [.int i, .int j] ∧ Q (.int (if j > i then j else i)) H
theorem c_min2 {X : Cx} (hc : X.calm = true) : CallR X (.builtin "min") rMin2 := call_min2 hc
theorem c_max2 {X : Cx} (hc : X.calm = true) : CallR X (.builtin "max") rMax2 := call_max2 hc
theorem loc_of {sc : Scope} {x : Str} (h : (sc.names.lookup x == some .local || sc.names.lookup x == some .cell) = true) : Loc sc x := by
  rcases Bool.or_eq_true_iff.mp h with h | h
  · exact .inl (eq_of_beq h)
  · exact .inr (eq_of_beq h)
def NewT (Q : VK) (xs : List V) (H : Hp) : Prop := xs.length ≤ sizeLine ∧ ∀ p, H p = none → Q (.ref p) (upd H p (.tup xs))
def NewL (Q : VK) (xs : List V) (H : Hp) : Prop := xs.length ≤ sizeLine ∧ ∀ p, H p = none → Q (.ref p) (upd H p (.lst xs))
section
variable {K : PySem.W.Frag} {σ : L2.St} {H H' : Hp} {ta tb tc te : TE} {tt tu : TT} {tas : TA} {D : Ends} {t u : TS} {x y v : V} {Q : VK} {R : Bool → Hp → Prop} {S : List V → Hp → Prop} {Z : L2.St → Hp → Prop} {i j : Int} {g : TG} {gs : TGs}
theorem w_start {N : List Str} {vs : List V} (σ : L2.St) (e : start N vs = σ) (h : t D σ H) : t D (start N vs) H := e ▸ h
theorem w_seq (h : t { nx := u D, rt := D.rt, bk := D.bk, ct := D.ct } σ H) : tSeq t u D σ H := h
theorem w_next (h : D.nx σ H) : tNext D σ H := h
theorem w_set {n : Nat} (h : te σ H fun v H1 => D.nx (σ.set n (some v)) H1) : tAsg te (gName n) D σ H := h
theorem w_asg (h : te σ H fun v H1 => g v σ H1 D.nx) : tAsg te g D σ H := h
theorem w_gname {n : Nat} (h : Z (σ.set n (some v)) H) : gName n v σ H Z := h
theorem w_gtup {a : Addr} {xs : List V} {n : Nat} (h : SqT K H a xs) (hn : xs.length = n) (q : gs xs σ H Z) : gTup K n gs (.ref a) σ H Z := ⟨a, xs, rfl, h, hn, q⟩
theorem w_gcons {r : List V} (h : g v σ H fun σ' H' => gs r σ' H' Z) : gCons g gs (v :: r) σ H Z := ⟨v, r, rfl, h⟩
theorem w_gnil (h : Z σ H) : gNil [] σ H Z := ⟨rfl, h⟩
theorem w_gsub {st : TSet} (h : ta σ H fun o H1 => tb σ H1 fun i H2 => st o i v H2 fun H3 => Z σ H3) : gSub ta tb st v σ H Z := h
theorem w_setL0 {p : Addr} {xs : List V} {n : Nat} {F : Hp → Prop} (h : H p = some (.lst xs)) (hn : ixN xs.length i = some n) (q : F (upd H p (.lst (xs.set n v)))) : rSetL (.ref p) (.int i) v H F := ⟨p, xs, i, n, rfl, rfl, h, hn, q⟩
theorem w_setL {p : Addr} {xs : List V} {n : Nat} {F : Hp → Prop} (h : H p = some (.lst xs)) (hn : ixN xs.length i = some n) (q : ∀ H1, H1 p = some (.lst (xs.set n v)) → Keep p H H1 → F H1) : rSetL (.ref p) (.int i) v H F := ⟨p, xs, i, n, rfl, rfl, h, hn, q _ upd_same keep_upd⟩
theorem w_drop (h : te σ H fun _ H1 => D.nx σ H1) : tDrop te D σ H := h
theorem w_ret (h : te σ H D.rt) : tRet te D σ H := h
theorem w_var {n : Nat} (h : σ[n]? = some (some v)) (q : Q v H) : tVar n σ H Q := ⟨v, h, q⟩
theorem w_c (q : Q v H) : tC v σ H Q := q
theorem w_op {r : R2} (h : ta σ H fun x H1 => tb σ H1 fun y H2 => r x y H2 Q) : tOp r ta tb σ H Q := h
theorem w_un {r : V → Hp → VK → Prop} (h : ta σ H fun x H1 => r x H1 Q) : tUn r ta σ H Q := h
theorem w_cb {r : List V → Hp → VK → Prop} (h : tas σ H fun vs H1 => r vs H1 Q) : tCB r tas σ H Q := h
theorem w_cal {sp : Sp} {E : XK} (h : tas σ H fun vs H1 => sp vs H1 Q E) : tCal sp E tas σ H Q := h
theorem w_nil (q : S [] H) : tNil σ H S := q
theorem w_cons (h : ta σ H fun x H1 => tas σ H1 fun xs H2 => S (x :: xs) H2) : tCons ta tas σ H S := h
theorem w_plus (q : Q (.int (i + j)) H) : rPlus (.int i) (.int j) H Q := ⟨i, j, rfl, rfl, q⟩
theorem w_minus (q : Q (.int (i - j)) H) : rMinus (.int i) (.int j) H Q := ⟨i, j, rfl, rfl, q⟩
theorem w_mul (c : CMulW i j) (q : Q (.int (i * j)) H) : rMul (.int i) (.int j) H Q := ⟨i, j, rfl, rfl, c, q⟩
theorem w_fdiv (c : CFdiv i j) (q : Q (.int (i.fdiv j)) H) : rFdiv (.int i) (.int j) H Q := ⟨i, j, rfl, rfl, c, q⟩
theorem w_mod (c : j ≠ 0) (q : Q (.int (i.fmod j)) H) : rMod (.int i) (.int j) H Q := ⟨i, j, rfl, rfl, c, q⟩
theorem w_pow (c : CPow i j) (q : Q (.int (i ^ j.toNat)) H) : rPow (.int i) (.int j) H Q := ⟨i, j, rfl, rfl, c, q⟩
theorem w_lt (q : Q (.bl (decide (i < j))) H) : rLt (.int i) (.int j) H Q := ⟨i, j, rfl, rfl, q⟩
theorem w_le (q : Q (.bl (decide (i ≤ j))) H) : rLe (.int i) (.int j) H Q := ⟨i, j, rfl, rfl, q⟩
theorem w_gt (q : Q (.bl (decide (j < i))) H) : rGt (.int i) (.int j) H Q := ⟨i, j, rfl, rfl, q⟩
theorem w_ge (q : Q (.bl (decide (j ≤ i))) H) : rGe (.int i) (.int j) H Q := ⟨i, j, rfl, rfl, q⟩
theorem w_eqI (q : Q (.bl (decide (i = j))) H) : rEq (.int i) (.int j) H Q := ⟨rfl, by
  have e : decide (V.int i = V.int j) = decide (i = j) := by simp
  rw [e]; exact q⟩
theorem w_neI (q : Q (.bl (!decide (i = j))) H) : rNe (.int i) (.int j) H Q := ⟨rfl, by
  have e : decide (V.int i = V.int j) = decide (i = j) := by simp
  rw [e]; exact q⟩
theorem w_eqB {b c : Bool} (q : Q (.bl (decide (b = c))) H) : rEq (.bl b) (.bl c) H Q := ⟨rfl, by
  have e : decide (V.bl b = V.bl c) = decide (b = c) := by simp
  rw [e]; exact q⟩
theorem w_neB {b c : Bool} (q : Q (.bl (!decide (b = c))) H) : rNe (.bl b) (.bl c) H Q := ⟨rfl, by
  have e : decide (V.bl b = V.bl c) = decide (b = c) := by simp
  rw [e]; exact q⟩
theorem w_eqS {b c : Str} (q : Q (.bl (decide (b = c))) H) : rEq (.str b) (.str c) H Q := ⟨rfl, by
  have e : decide (V.str b = V.str c) = decide (b = c) := by simp
  rw [e]; exact q⟩
theorem w_neS {b c : Str} (q : Q (.bl (!decide (b = c))) H) : rNe (.str b) (.str c) H Q := ⟨rfl, by
  have e : decide (V.str b = V.str c) = decide (b = c) := by simp
  rw [e]; exact q⟩
theorem w_neg (q : Q (.int (-i)) H) : rNeg (.int i) H Q := ⟨i, rfl, q⟩
theorem w_abs (q : Q (.int (if i < 0 then -i else i)) H) : rAbs [.int i] H Q := ⟨i, rfl, q⟩
theorem w_strI (c : i.natAbs.log2 < 1920) (q : Q (.str (toString i)) H) : rStrI [.int i] H Q := ⟨i, rfl, c, q⟩
theorem w_intB {b : Bool} (q : Q (.int (if b then 1 else 0)) H) : rIntB [.bl b] H Q := .inr ⟨b, rfl, q⟩
theorem w_intI (q : Q (.int i) H) : rIntB [.int i] H Q := .inl ⟨i, rfl, q⟩
theorem w_catS {a b : Str} (c : a.length + b.length ≤ sizeLine) (q : Q (.str (a ++ b)) H) : rCatS (.str a) (.str b) H Q := ⟨a, b, rfl, rfl, c, q⟩
theorem cdiv_small {i j : Int} (h0 : j ≠ 0) (h : j.natAbs < 2 ^ 64) : CFdiv i j := ⟨h0, Nat.lt_trans (PySem.Flt.log2_lt_of (by decide) h) (by decide)⟩
theorem cpow_mk {i j : Int} (h0 : 0 ≤ j) (h1 : j ≤ 1000000) (h2 : i.natAbs < 2 ^ 64) : CPow i j := ⟨h0, h1, h2⟩
theorem cmul_small {i j : Int} (h : i.natAbs < 2 ^ 64) (h2 : j.natAbs < 2 ^ 64) : CMulW i j := wide_mul h h2 (by decide) (by decide) (by decide)
theorem w_lenL {p : Addr} {xs : List V} (h : SqL K H p xs) (q : Q (.int xs.length) H) : rLenS K [.ref p] H Q := ⟨p, xs, rfl, .inl h, q⟩
theorem w_lenT {p : Addr} {xs : List V} (h : SqT K H p xs) (q : Q (.int xs.length) H) : rLenS K [.ref p] H Q := ⟨p, xs, rfl, .inr h, q⟩
theorem w_ixL {p : Addr} {xs : List V} (h : SqL K H p xs) (e : atI xs i = some v) (q : Q v H) : rIxL K (.ref p) (.int i) H Q := ⟨p, xs, i, v, rfl, rfl, h, e, q⟩
theorem w_ixT {p : Addr} {xs : List V} (h : SqT K H p xs) (e : atI xs i = some v) (q : Q v H) : rIxT K (.ref p) (.int i) H Q := ⟨p, xs, i, v, rfl, rfl, h, e, q⟩
theorem w_tup0 (h : tas σ H fun xs H1 => xs.length ≤ sizeLine ∧ ∀ p, H1 p = none → Q (.ref p) (upd H1 p (.tup xs))) : tTup tas σ H Q := h
theorem w_lst0 (h : tas σ H fun xs H1 => xs.length ≤ sizeLine ∧ ∀ p, H1 p = none → Q (.ref p) (upd H1 p (.lst xs))) : tLst tas σ H Q := h
theorem w_tup (h : tas σ H fun xs H1 => NewT Q xs H1) : tTup tas σ H Q := h
theorem w_lst (h : tas σ H fun xs H1 => NewL Q xs H1) : tLst tas σ H Q := h
theorem newT {xs : List V} (q : ∀ p H2, H p = none → H2 p = some (.tup xs) → Same H H2 → Q (.ref p) H2) (hn : Nat.ble xs.length 1000 = true := by rfl) : NewT Q xs H := ⟨Nat.le_of_lt (small1000 (Nat.le_of_ble_eq_true hn)), fun p np => q p _ np upd_same (same_upd np)⟩
theorem newL {xs : List V} (q : ∀ p H2, H p = none → H2 p = some (.lst xs) → Same H H2 → Q (.ref p) H2) (hn : Nat.ble xs.length 1000 = true := by rfl) : NewL Q xs H := ⟨Nat.le_of_lt (small1000 (Nat.le_of_ble_eq_true hn)), fun p np => q p _ np upd_same (same_upd np)⟩
theorem w_for {wi : TI} (h : wi σ H fun J H1 => ForR J g t D σ H1) : tFor wi g t D σ H := h
theorem w_iL {R : It → Hp → Prop} (h : te σ H fun x H1 => ItL K R x H1) : iList K te σ H R := h
theorem w_iT {R : It → Hp → Prop} (h : te σ H fun x H1 => ItT K R x H1) : iTup K te σ H R := h
theorem w_iR1 {R : It → Hp → Prop} (h : tas σ H fun x H1 => ItR1 R x H1) : iRng1 tas σ H R := h
theorem w_iR2 {R : It → Hp → Prop} (h : tas σ H fun x H1 => ItR2 R x H1) : iRng2 tas σ H R := h
theorem forL {a : Addr} {xs : List V} (hx : SqL K H a xs) (Pv : Nat → L2.St → Hp → Prop) (h0 : Pv 0 σ H) (hl : ∀ i σ H, i ≤ xs.length → Pv i σ H → SqL K H a xs)
    (hs : ∀ i x σ H, xs[i]? = some x → Pv i σ H → g x σ H fun σ2 H2 => t { nx := Pv (i + 1), rt := D.rt, ct := Pv (i + 1), bk := D.nx } σ2 H2) (hd : ∀ σ H, Pv xs.length σ H → D.nx σ H) :
    ItL K (fun J H1 => ForR J g t D σ H1) (.ref a) H := ⟨a, rfl, ⟨xs, hx⟩, for_list (xs := xs) Pv h0 hl hs hd⟩
theorem forR1 {n : Int} (hn : n < 2 ^ 62) (h0' : 0 ≤ n) (Pv : Nat → L2.St → Hp → Prop) (h0 : Pv 0 σ H)
    (hs : ∀ (i : Nat) σ H, (i : Int) < n → Pv i σ H → g (.int (i : Int)) σ H fun σ2 H2 => t { nx := Pv (i + 1), rt := D.rt, ct := Pv (i + 1), bk := D.nx } σ2 H2) (hd : ∀ σ H, Pv n.toNat σ H → D.nx σ H) :
    ItR1 (fun J H1 => ForR J g t D σ H1) [.int n] H := ⟨n, rfl, by omega, hn, for_range (lo := 0) (n := n.toNat) Pv h0 (fun i σ H hi p => by
      have e : (0 : Int) + (i : Int) = (i : Int) := Int.zero_add _
      rw [e]
      exact hs i σ H (by omega) p) hd⟩
theorem forR2 {lo n : Int} (hn : n < 2 ^ 62) (hl : -(2 ^ 62) ≤ lo ∧ lo < 2 ^ 62 ∧ -(2 ^ 62) ≤ n) (Pv : Nat → L2.St → Hp → Prop) (h0 : Pv 0 σ H)
    (hs : ∀ (i : Nat) σ H, lo + (i : Int) < n → Pv i σ H → g (.int (lo + (i : Int))) σ H fun σ2 H2 => t { nx := Pv (i + 1), rt := D.rt, ct := Pv (i + 1), bk := D.nx } σ2 H2) (hd : ∀ σ H, Pv (n - lo).toNat σ H → D.nx σ H) :
    ItR2 (fun J H1 => ForR J g t D σ H1) [.int lo, .int n] H := ⟨lo, n, rfl, ⟨hl.1, hl.2.1, hl.2.2, hn⟩, for_range (lo := lo) (n := (n - lo).toNat) Pv h0 (fun i σ H hi p => hs i σ H (by omega) p) hd⟩
theorem w_while (W : Nat → L2.St → Hp → Prop) (m0 : Nat) (h0 : W m0 σ H) (h : ∀ m σ H, W m σ H → tt σ H fun b H1 => if b = true then ∃ N : L2.St → Hp → Prop, (∀ σ' H', N σ' H' → ∃ m', m' < m ∧ W m' σ' H') ∧ t { D with nx := N, ct := N, bk := D.nx } σ H1 else D.nx σ H1) : tWhile tt t D σ H := ⟨W, ⟨m0, h0⟩, h⟩
theorem w_turn {W : Nat → L2.St → Hp → Prop} {m : Nat} {C : (L2.St → Hp → Prop) → Prop} (h : C fun σ' H' => ∃ m', m' < m ∧ W m' σ' H') : ∃ N : L2.St → Hp → Prop, (∀ σ' H', N σ' H' → ∃ m', m' < m ∧ W m' σ' H') ∧ C N := ⟨_, fun _ _ x => x, h⟩
theorem w_par {a b : Nat} (h : tas σ H fun vs H1 => ∃ v w, vs = [v, w] ∧ D.nx ((σ.set a (some v)).set b (some w)) H1) : tPar a b tas D σ H := h
theorem w_par2 {C : V → V → Prop} (h : C x y) : ∃ v w, [x, y] = [v, w] ∧ C v w := ⟨x, y, rfl, h⟩
theorem isi_ii (q : Q (.bl true) H) : rIsi K [.int i, .ty "int"] H Q := ⟨_, _, _, _, true, rfl, .ty _, .base (.int _), kit_ty (by decide +kernel), q⟩
theorem isi_ib (q : Q (.bl false) H) : rIsi K [.int i, .ty "bool"] H Q := ⟨_, _, _, _, false, rfl, .ty _, .base (.int _), kit_ty (by decide +kernel), q⟩
theorem isi_bb {b : Bool} (q : Q (.bl true) H) : rIsi K [.bl b, .ty "bool"] H Q := ⟨_, _, _, _, true, rfl, .ty _, .base (.bl _), kit_ty (by decide +kernel), q⟩
theorem isi_ss {b : Str} (q : Q (.bl true) H) : rIsi K [.str b, .ty "str"] H Q := ⟨_, _, _, _, true, rfl, .ty _, .base (.str _), kit_ty (by decide +kernel), q⟩
theorem isi_tt {p : Addr} {xs : List V} (h : H p = some (.tup xs)) (q : Q (.bl true) H) : rIsi K [.ref p, .ty "tuple"] H Q := ⟨_, _, _, _, true, rfl, .ty _, .base (.tup h), kit_ty (by decide +kernel), q⟩
theorem isi_ll {p : Addr} {xs : List V} (h : H p = some (.lst xs)) (q : Q (.bl true) H) : rIsi K [.ref p, .ty "list"] H Q := ⟨_, _, _, _, true, rfl, .ty _, .base (.lst h), kit_ty (by decide +kernel), q⟩
theorem w_cut (M : L2.St → Hp → Prop) (h : t { D with nx := M } σ H) (k : ∀ σ' H', M σ' H' → u D σ' H') : Evl.tCut t u D σ H := ⟨M, h, k⟩
theorem w_min2 (q : Q (.int (if j < i then j else i)) H) : rMin2 [.int i, .int j] H Q := ⟨i, j, rfl, q⟩
theorem w_max2 (q : Q (.int (if j > i then j else i)) H) : rMax2 [.int i, .int j] H Q := ⟨i, j, rfl, q⟩
theorem w_minL {p : Addr} {ns : List Int} (h : SqL K H p (ns.map V.int)) (h0 : 0 < ns.length) (q : ∀ m, m ∈ ns → (∀ y, y ∈ ns → m ≤ y) → Q (.int m) H) : rMinL K [.ref p] H Q := ⟨p, ns, rfl, h, h0, q⟩
/-- a built-in's method -/
theorem w_bm {T : String} {r : V → List V → Hp → VK → Prop} (h : ta σ H fun x H1 => tyV K T x H1 ∧ tas σ H1 fun xs H2 => r x xs H2 Q) : tBM K T r ta tas σ H Q := h
theorem w_tyL {p : Addr} {xs : List V} {C : Prop} (h : H p = some (.lst xs)) (q : C) : tyV K "list" (.ref p) H ∧ C := ⟨.inl ⟨rfl, xs, SqL.of h⟩, q⟩
theorem w_app {l : Addr} {xs : List V} (h : H l = some (.lst xs)) (hl : xs.length < 100000) (q : ∀ H1, H1 l = some (.lst (xs ++ [y])) → Keep l H H1 → Q .non H1) : rAppend (.ref l) [y] H Q := ⟨l, xs, y, rfl, rfl, h, Nat.lt_of_lt_of_le hl (by decide), q _ upd_same keep_upd⟩
theorem w_lc {wi : TI} {vs : List Nat} (h : wi σ H fun J H1 => LcR J g tt te vs σ Q H1) : tLc wi g tt te vs σ H Q := h
theorem lcR2 {lo n : Int} {m : Nat} {vs : List Nat} (f : Nat → V) (hn : n < 100000) (hl : -100000 ≤ lo ∧ lo < 100000 ∧ -100000 ≤ n)
    (hv : ∀ (i : Nat) H2 (Q' : VK), lo + (i : Int) < n → Same H H2 → Q' (f i) H2 → te ((wipe σ vs).set m (some (.int (lo + (i : Int))))) H2 Q') (hw : ∀ x, wipe ((wipe σ vs).set m (some x)) vs = wipe σ vs)
    (q : ∀ D H2, H D = none → H2 D = some (.lst ((List.range (n - lo).toNat).map f)) → Same H H2 → Q (.ref D) H2) : ItR2 (fun J H1 => LcR J (gName m) tYes te vs σ Q H1) [.int lo, .int n] H := by
  refine ⟨lo, n, rfl, by omega, fun D nD => ?_⟩
  refine lc_range (lo := lo) (n := (n - lo).toNat) (fun i H' => Same H H' ∧ H' D = some (.lst ((List.range i).map f))) ⟨same_upd nD, upd_same⟩ (fun i H' hi ⟨s1, e1⟩ => ?_) (fun H' ⟨s1, e1⟩ => q D H' nD e1 s1)
  refine ⟨hw _, hv i H' _ (by omega) s1 ?_⟩
  refine ⟨_, e1, by rw [List.length_map, List.length_range]; exact Nat.lt_of_lt_of_le (show i < 300000 by omega) (by decide), fun b o hb => ?_, ?_⟩
  · rw [upd_ne (ne_of_none hb nD)]
    exact s1 b o hb
  · rw [upd_same, List.range_succ, List.map_append]
    rfl
theorem lcR1 {n : Int} {m : Nat} {vs : List Nat} (f : Nat → V) (hn : n < 100000) (hl : -100000 ≤ n)
    (hv : ∀ (i : Nat) H2 (Q' : VK), (i : Int) < n → Same H H2 → Q' (f i) H2 → te ((wipe σ vs).set m (some (.int (i : Int)))) H2 Q') (hw : ∀ x, wipe ((wipe σ vs).set m (some x)) vs = wipe σ vs)
    (q : ∀ D H2, H D = none → H2 D = some (.lst ((List.range n.toNat).map f)) → Same H H2 → Q (.ref D) H2) : ItR1 (fun J H1 => LcR J (gName m) tYes te vs σ Q H1) [.int n] H := by
  refine ⟨n, rfl, by omega, by omega, fun D nD => ?_⟩
  refine lc_range (lo := 0) (n := n.toNat) (fun i H' => Same H H' ∧ H' D = some (.lst ((List.range i).map f))) ⟨same_upd nD, upd_same⟩ (fun i H' hi ⟨s1, e1⟩ => ?_) (fun H' ⟨s1, e1⟩ => q D H' nD e1 s1)
  have e0 : (0 : Int) + (i : Int) = (i : Int) := Int.zero_add _
  rw [e0]
  refine ⟨hw _, hv i H' _ (by omega) s1 ?_⟩
  refine ⟨_, e1, by rw [List.length_map, List.length_range]; exact Nat.lt_of_lt_of_le (show i < 300000 by omega) (by decide), fun b o hb => ?_, ?_⟩
  · rw [upd_ne (ne_of_none hb nD)]
    exact s1 b o hb
  · rw [upd_same, List.range_succ, List.map_append]
    rfl
theorem w_catL {l b : Addr} {xs zs : List V} (h1 : H l = some (.lst xs)) (h2 : H b = some (.lst zs)) (hn : xs.length + zs.length ≤ 100000) (q : ∀ p H2, H p = none → H2 p = some (.lst (xs ++ zs)) → Same H H2 → Q (.ref p) H2) : rCatL (.ref l) (.ref b) H Q := ⟨l, b, xs, zs, rfl, rfl, h1, h2, Nat.le_trans hn (by decide), fun p np => q p _ np upd_same (same_upd np)⟩
theorem lcL {a : Addr} {xs : List V} {m : Nat} {vs : List Nat} (f : V → V) (hx : SqL K H a xs) (hn : xs.length ≤ 100000) (hv : ∀ (x : V) H2 (Q' : VK), x ∈ xs → Same H H2 → Q' (f x) H2 → te ((wipe σ vs).set m (some x)) H2 Q') (hw : ∀ x, wipe ((wipe σ vs).set m (some x)) vs = wipe σ vs)
    (q : ∀ D H2, H D = none → H2 D = some (.lst (xs.map f)) → Same H H2 → Q (.ref D) H2) : ItL K (fun J H1 => LcR J (gName m) tYes te vs σ Q H1) (.ref a) H := by
  refine ⟨a, rfl, ⟨xs, hx⟩, fun D nD => ?_⟩
  refine lc_list (xs := xs) (fun i H' => Same H H' ∧ H' D = some (.lst ((xs.take i).map f))) ⟨same_upd nD, upd_same⟩ (fun i H' _ ⟨s1, _⟩ => s1.seq hx) (fun i x H' hi ⟨s1, e1⟩ => ?_) (fun H' ⟨s1, e1⟩ => q D H' nD (by rw [e1, List.take_length]) s1)
  refine ⟨hw _, hv x H' _ (List.mem_of_getElem? hi) s1 ?_⟩
  have hlt := (List.getElem?_eq_some_iff.mp hi).1
  refine ⟨_, e1, by rw [List.length_map, List.length_take]; exact Nat.lt_of_lt_of_le (show min i xs.length < 300000 by omega) (by decide), fun b o hb => ?_, ?_⟩
  · rw [upd_ne (ne_of_none hb nD)]
    exact s1 b o hb
  · rw [upd_same, List.take_add_one, hi, List.map_append]
    rfl
theorem w_test (h : te σ H fun x H' => ∃ k, x = .bl k ∧ R k H') : tTest te σ H R := h
theorem w_tB (h : te σ H fun x H' => ∃ k, x = .bl k ∧ R k H') : tB te σ H R := h
theorem w_bl {b : Bool} {C : Bool → Prop} (h : C b) : ∃ k, V.bl b = .bl k ∧ C k := ⟨b, rfl, h⟩
theorem w_and (h : tt σ H fun c H1 => if c = true then tu σ H1 R else R false H1) : tAnd tt tu σ H R := h
theorem w_or (h : tt σ H fun c H1 => if c = true then R true H1 else tu σ H1 R) : tOr tt tu σ H R := h
theorem w_not (h : tt σ H fun c H1 => R (!c) H1) : tNot tt σ H R := h
theorem w_andV (h : ta σ H fun x H1 => ∃ c, x = .bl c ∧ if c = true then tb σ H1 Q else Q (.bl false) H1) : tAndV ta tb σ H Q := h
theorem w_orV (h : ta σ H fun x H1 => ∃ c, x = .bl c ∧ if c = true then Q (.bl true) H1 else tb σ H1 Q) : tOrV ta tb σ H Q := h
theorem w_notV (h : ta σ H fun x H1 => ∃ c, x = .bl c ∧ Q (.bl (!c)) H1) : tNotV ta σ H Q := h
theorem w_ifE (h : tt σ H fun c H1 => if c = true then ta σ H1 Q else tb σ H1 Q) : tIf tt ta tb σ H Q := h
theorem w_ifS (h : tt σ H fun b H1 => if b = true then t D σ H1 else u D σ H1) : tIfS tt t u D σ H := h
theorem w_dec {c : Prop} [Decidable c] {A B : Prop} (h1 : c → A) (h2 : ¬ c → B) : if decide c = true then A else B := by
  by_cases h : c
  · rw [if_pos (decide_eq_true h)]; exact h1 h
  · rw [if_neg (by simpa using h)]; exact h2 h
theorem w_decN {c : Prop} [Decidable c] {A B : Prop} (h1 : ¬ c → A) (h2 : c → B) : if (!decide c) = true then A else B := by
  by_cases h : c
  · rw [if_neg (by simpa using h)]; exact h2 h
  · rw [if_pos (by simpa using h)]; exact h1 h
theorem w_decY {c : Prop} [Decidable c] {A B : Prop} (hc : c) (h : A) : if decide c = true then A else B := by rw [if_pos (decide_eq_true hc)]; exact h
theorem w_decO {c : Prop} [Decidable c] {A B : Prop} (hc : ¬ c) (h : B) : if decide c = true then A else B := by rw [if_neg (by simpa using hc)]; exact h
theorem w_decNY {c : Prop} [Decidable c] {A B : Prop} (hc : ¬ c) (h : A) : if (!decide c) = true then A else B := by rw [if_pos (by simpa using hc)]; exact h
theorem w_decNO {c : Prop} [Decidable c] {A B : Prop} (hc : c) (h : B) : if (!decide c) = true then A else B := by rw [if_neg (by simpa using hc)]; exact h
theorem w_new {xs : List V} {C : Prop} (q : C) (hn : Nat.ble xs.length 1000 = true := by rfl) : xs.length ≤ sizeLine ∧ C := ⟨Nat.le_of_lt (small1000 (Nat.le_of_ble_eq_true hn)), q⟩
theorem w_nyes {A B : Prop} (h : B) : if (!true) = true then A else B := by rw [if_neg (by decide)]; exact h
theorem w_nno {A B : Prop} (h : A) : if (!false) = true then A else B := by rw [if_pos (by decide)]; exact h
theorem w_yes {A B : Prop} (h : A) : if true = true then A else B := by rw [if_pos rfl]; exact h
theorem w_no {A B : Prop} (h : B) : if false = true then A else B := by rw [if_neg Bool.false_ne_true]; exact h
end
end Fw

/-! fractions in lowest terms, as made and _law_cut reckon them: plain Lean -/
namespace Mth
/-- the greatest common divisor, with the bottom's sign -/
def sg (t b : Int) : Int := if b < 0 then -(Nat.gcd t.natAbs b.natAbs : Int) else (Nat.gcd t.natAbs b.natAbs : Int)
def cT (t b : Int) : Int := t.fdiv (sg t b)
def cB (t b : Int) : Int := b.fdiv (sg t b)
theorem g_pos {t b : Int} (h : b ≠ 0) : 0 < Nat.gcd t.natAbs b.natAbs := Nat.gcd_pos_of_pos_right _ (by omega)
theorem sg_ne {t b : Int} (h : b ≠ 0) : sg t b ≠ 0 := by
  have := g_pos (t := t) h
  unfold sg
  split <;> omega
theorem sg_abs {t b : Int} : (sg t b).natAbs = Nat.gcd t.natAbs b.natAbs := by
  unfold sg
  split <;> omega
theorem sg_dvdT {t b : Int} : sg t b ∣ t := by
  rw [← Int.natAbs_dvd_natAbs, sg_abs]
  exact Nat.gcd_dvd_left _ _
theorem sg_dvdB {t b : Int} : sg t b ∣ b := by
  rw [← Int.natAbs_dvd_natAbs, sg_abs]
  exact Nat.gcd_dvd_right _ _
theorem cT_mul {t b : Int} : sg t b * cT t b = t := Int.mul_fdiv_cancel' sg_dvdT
theorem cB_mul {t b : Int} : sg t b * cB t b = b := Int.mul_fdiv_cancel' sg_dvdB
theorem sg_le {t b : Int} (h : b ≠ 0) : (sg t b).natAbs ≤ b.natAbs := by
  rw [sg_abs]
  exact Nat.gcd_le_right _ (by omega)
theorem cB_pos {t b : Int} (h : b ≠ 0) : 0 < cB t b := by
  have e := cB_mul (t := t) (b := b)
  have g := g_pos (t := t) h
  rcases Int.lt_trichotomy (cB t b) 0 with z | z | z
  · exfalso
    unfold sg at e
    split at e
    · have : 0 < (-(Nat.gcd t.natAbs b.natAbs : Int)) * cB t b := Int.mul_pos_of_neg_of_neg (by omega) z
      omega
    · have : (Nat.gcd t.natAbs b.natAbs : Int) * cB t b < 0 := Int.mul_neg_of_pos_of_neg (by omega) z
      omega
  · rw [z, Int.mul_zero] at e
    omega
  · exact z
theorem cT_le {t b : Int} (h : b ≠ 0) : (cT t b).natAbs ≤ t.natAbs := by
  have e := congrArg Int.natAbs (cT_mul (t := t) (b := b))
  rw [Int.natAbs_mul, sg_abs] at e
  rw [← e]
  exact Nat.le_mul_of_pos_left _ (g_pos h)
theorem cB_le {t b : Int} (h : b ≠ 0) : (cB t b).natAbs ≤ b.natAbs := by
  have e := congrArg Int.natAbs (cB_mul (t := t) (b := b))
  rw [Int.natAbs_mul, sg_abs] at e
  rw [← e]
  exact Nat.le_mul_of_pos_left _ (g_pos h)
theorem c_cross {t b : Int} : cT t b * b = cB t b * t := by
  have e1 := cT_mul (t := t) (b := b)
  have e2 := cB_mul (t := t) (b := b)
  calc cT t b * b = cT t b * (sg t b * cB t b) := by rw [e2]
    _ = cB t b * (sg t b * cT t b) := by rw [Int.mul_left_comm, Int.mul_comm (cT t b), Int.mul_left_comm]
    _ = cB t b * t := by rw [e1]
theorem c_gcd {t b : Int} (h : b ≠ 0) : Nat.gcd (cT t b).natAbs (cB t b).natAbs = 1 := by
  have e1 := congrArg Int.natAbs (cT_mul (t := t) (b := b))
  have e2 := congrArg Int.natAbs (cB_mul (t := t) (b := b))
  rw [Int.natAbs_mul, sg_abs] at e1 e2
  have g := g_pos (t := t) h
  have k : Nat.gcd (Nat.gcd t.natAbs b.natAbs * (cT t b).natAbs) (Nat.gcd t.natAbs b.natAbs * (cB t b).natAbs) = Nat.gcd t.natAbs b.natAbs := by rw [e1, e2]
  rw [Nat.gcd_mul_left] at k
  exact Nat.eq_of_mul_eq_mul_left g (by omega)
theorem gcd_step {x y : Int} (hx : 0 ≤ x) (hy : 0 < y) : 0 ≤ x.fmod y ∧ x.fmod y < y ∧ Nat.gcd y.natAbs (x.fmod y).natAbs = Nat.gcd x.natAbs y.natAbs := by
  rw [Int.fmod_eq_emod_of_nonneg x (by omega)]
  refine ⟨Int.emod_nonneg _ (by omega), Int.emod_lt_of_pos _ hy, ?_⟩
  have e : (x % y).natAbs = x.natAbs % y.natAbs := by
    obtain ⟨n, rfl⟩ := Int.eq_ofNat_of_zero_le hx
    obtain ⟨k, rfl⟩ := Int.eq_ofNat_of_zero_le (Int.le_of_lt hy)
    rfl
  rw [e, Nat.gcd_comm x.natAbs, Nat.gcd_rec y.natAbs x.natAbs, Nat.gcd_comm]
end Mth

/-! while an exception is handled: a list comprehension over a list, isinstance of that exception; an own exception with __init__ whose context is None -/
namespace Htx
open PySem PySem.Spec PyProof.Rows L2 HotX
/-! ### a list's iterator at its end -/
section
variable {prog : Program} {w : World} {A : Around} {E : Value → Shared → Prop} {s : Shared}
theorem iter_ne {x1 it l : Addr} {i : Nat} {h : Heap} (hot : HotAt A x1 h) (hit : h.IsListIter it l i) : x1 ≠ it := by
  rintro rfl
  obtain ⟨_, o1, vs1, h1, d1, c1⟩ := hot
  obtain ⟨o, ho, _, hd⟩ := hit
  rw [h1] at ho
  cases ho
  rw [d1] at hd
  injection hd with hd
  subst hd
  cases c1
theorem list_end_hot {it l x1 : Addr} {i : Nat} {items : Array Value} {Q : Option Value → Shared → Prop} (hot : HotAt A x1 s.heap) (hit : s.heap.IsListIter it l i) (hl : s.heap.IsList l items) (hx : items[i]? = none)
    (hQ : ∀ h', Heap.ExtBut it s.heap h' → Q none { s with heap := h' }) : wpAny (model prog w) A (pyNext (.ref it)) Q E s := by
  have nxi : x1 ≠ it := iter_ne hot hit
  obtain ⟨hh, o1, vs1, h1, d1, c1⟩ := hot
  obtain ⟨o, ho, hc, hd⟩ := id hit
  obtain ⟨ol, hol, _, nl, hdl⟩ := hl
  unfold pyNext
  refine wpAny_bind (wpAny_attempt (wpAny_callSpecial?_slot (name := Str.ofString "__next__") hit.typeIs slot_listiter_next (wpAny_call_entry slot_listiter_next hit.typeIs entry_listiter_next ?_ (args_listiter_next _))))
  show wpAny _ _ (field (.ref it) 0 >>= _) _ _ s
  refine wpAny_bind (wpAny_field ho hd (x := .ref l) rfl ?_)
  show wpAny _ _ (if (Value.ref l == Value.none) = true then _ else _) _ _ s
  rw [if_neg (show ¬ ((Value.ref l == Value.none) = true) from Bool.false_ne_true)]
  show wpAny _ _ (field (.ref it) 1 >>= _) _ _ s
  refine wpAny_bind (wpAny_field ho hd (x := .int i 0) rfl ?_)
  show wpAny _ _ (seqItems? (.ref l) >>= _) _ _ s
  refine wpAny_bind (wpAny_seqItems hol hdl ?_)
  simp only [Int.toNat_natCast, hx]
  refine wpAny_bind (wpAny_rule (wpAny_bind (wpAny_setField ho hd (by simp) ?_)))
  show wpAny _ _ (newExc (.type "StopIteration") [] >>= _) _ _ _
  refine wpAny_bind ?_
  simp only [newExc, newTuple]
  refine wpAny_bind (wpAny_newObj_type ?_ (by size_fits))
  refine wpAny_bind (m := firstArgMember _ _) (wpAny_of_eq (a := Value.none) (by first | rfl | (simp only [firstArgMember]; rfl)) ?_)
  refine wpAny_newObj_type ?_ (by size_fits)
  have h1' := (Heap.get?_update_other s.heap (Obj.mapFields (·.setIfInBounds 0 Value.none)) (Ne.symm nxi)).trans h1
  refine raiseNew_hot (x1 := x1) ⟨hh, o1, vs1, Heap.get?_push_of_some _ (Heap.get?_push_of_some _ h1'), d1, c1⟩ (Nat.ne_of_lt (Heap.lt_size (Heap.get?_push_of_some _ h1'))) (Heap.get?_push_size _ rfl) rfl (by first | (simp; done) | (simp; omega) | (simp only [Array.size_append]; simp; omega)) ?_
  refine wpAny_bind (wpAny_isInstance (T := "StopIteration") (b := true) ⟨_, Heap.get?_update_self _ (Heap.get?_push_size _ rfl) rfl, rfl⟩ isSubtype_stop ?_)
  refine wpAny_pure (hQ _ fun b o hb e => ?_)
  rw [Heap.get?_update_other _ _ (Nat.ne_of_gt (Heap.lt_size (Heap.get?_push_of_some _ ((Heap.get?_update_other s.heap (Obj.mapFields (·.setIfInBounds 0 Value.none)) (Ne.symm hb)).trans e))))]
  exact Heap.get?_push_of_some _ (Heap.get?_push_of_some _ ((Heap.get?_update_other s.heap (Obj.mapFields (·.setIfInBounds 0 Value.none)) (Ne.symm hb)).trans e))
end
/-! ### a list comprehension over a list, in the hot -/
section
variable {X : Cx}
theorem list_item {pins : List (Addr × Obj)} {s : Shared} {σ : L2.St} {H : Hp} {E : Value → Shared → Prop} {tg : Expr} {a it : Addr} {i : Nat} (I : Inv X pins σ H s) (hf : FpOk X pins H it) (st : s.heap.IsListIter it a i) (hg : (Itl X.K a).go i H) :
    wpAny (model X.prog X.w) X.A (pyNext (.ref it)) (fun r s1 => ∃ u, r = some u ∧
      wpAny (model X.prog X.w) X.A (letOwnedTupleGo tg (.ref it) u) (fun _ s2 => ∃ x H', Inv X pins σ H' s2 ∧ RelV x u ∧ (Itl X.K a).yld i H x H' ∧ s2.heap.IsListIter it a (i + 1) ∧ H' it = none) E s1) E s := by
  obtain ⟨xs, x, hq, hx⟩ := hg
  obtain ⟨its, rv, p, hz⟩ := I.list hq
  obtain ⟨u, hu, ru⟩ := rv.get hx
  obtain ⟨f0, f1, f2, f3, f4, f5⟩ := hf
  refine wpAny_pyNext_list_item st p.isList (x := u) (by simpa using hu) fun h' st' sb => ?_
  have I1 : Inv X pins σ H { s with heap := h' } := I.turned (t' := s.toks) (fun b o hb e => (sb.2 b hb).trans e) f0 f1 f3 f4 f5
  obtain ⟨o, e, c, d⟩ := id st'
  exact ⟨u, rfl, go_of (s := { s with heap := h' }) e c d (by decide) ⟨x, H, I1, ru, ⟨rfl, fun ys hy => by rw [I.list_inj hy hq]; exact hx⟩, st', f0⟩⟩
theorem list_done {pins : List (Addr × Obj)} {s : Shared} {σ : L2.St} {H : Hp} {E : Value → Shared → Prop} {a it x1 : Addr} {i : Nat} (hot : HotAt X.A x1 s.heap) (I : Inv X pins σ H s) (hf : FpOk X pins H it) (st : s.heap.IsListIter it a i) (hg : (Itl X.K a).stop i H) :
    wpAny (model X.prog X.w) X.A (pyNext (.ref it)) (fun r s1 => r = none ∧ Inv X pins σ H s1) E s := by
  obtain ⟨xs, hq, hx⟩ := hg
  obtain ⟨its, rv, p, hz⟩ := I.list hq
  obtain ⟨f0, f1, f2, f3, f4, f5⟩ := hf
  have hl := rv.length
  exact list_end_hot hot st p.isList (by simp; omega) fun h' eb => ⟨rfl, I.turned (t' := s.toks) (fun b o hb e => eb b o hb e) f0 f1 f3 f4 f5⟩
theorem pe_lcH {elt tg l : Expr} {ifs : List Expr} {scope : Scope} {own : List (Str × Nat)} {pos : Pos} {tl : TE} {g : TG} {tt : TT} {te : TE} (hc : L2H.HotC X) (hN : X.N.Nodup) (hl : PE X l tl) (ok : BlkOk X.N X.env.scope scope own)
    (hg : ∀ (s : Shared) (H : Hp) (C : Addr) (cl : List (Str × Addr)) (fp : List Addr), PG (X.blk s H scope (compEnvC scope cl C X.env) fp) tg g) (ht : ∀ (s : Shared) (H : Hp) (C : Addr) (cl : List (Str × Addr)) (fp : List Addr), PTs (X.blk s H scope (compEnvC scope cl C X.env) fp) ifs tt)
    (he : ∀ (s : Shared) (H : Hp) (C : Addr) (cl : List (Str × Addr)) (fp : List Addr), PE (X.blk s H scope (compEnvC scope cl C X.env) fp) elt te) (hs : ∀ x, foldedSetIterable l X.env x = pure x := by intro _; rfl) :
    PE X (.ListComp elt [⟨tg, l, ifs, 0⟩] scope pos) (tLc (iList X.K tl) g tt te (own.map (·.2))) := by
  refine ⟨fun pins s σ H Q I h => ?_⟩
  rw [eval_ListComp]
  have hfree : ∀ y ∈ scope.names, y.2 = .free → ∃ c, X.env.cells.lookup y.1 = some c := fun y hy e => by
    rcases ok.free y hy e with k | k
    · exact I.ok.has _ (.inl k)
    · exact I.ok.has _ (.inr k)
  refine wpAny_comprehension_free rfl hs (closure_ok hfree) ok.kind (fun y hy e => by rw [ok.uniq y hy, e]) (thn (hl.run pins s σ H _ I h) fun v s1 hv => ?_)
  obtain ⟨x, H1, I1, r1, a, ex, ⟨xs, hq⟩, q⟩ := hv
  subst ex
  cases r1
  obtain ⟨its, rv, p, hz⟩ := I1.list hq
  refine wpAny_pyIter_list p.isList ?_
  -- the iterator
  generalize hit : s1.heap.objs.size = it
  generalize hs2 : ({ s1 with heap := s1.heap.push { cls := .type "list_iterator", data := .fields #[.ref a, .int 0 0] } } : Shared) = s2
  have I2 : Inv X pins σ H1 s2 := by
    rw [← hs2]
    exact I1.kept (t' := s1.toks) fun b o e => Heap.get?_push_of_some _ e
  have st2 : s2.heap.IsListIter it a 0 := by
    rw [← hs2, ← hit]
    exact ⟨_, Heap.get?_push_size _ rfl, rfl, rfl⟩
  have f2 : FpOk X pins H1 it := by
    rw [← hit]
    exact I1.fpOk (Nat.le_refl _) (I1.hok.fresh (Nat.le_refl _))
  refine wpAny_newObj_type (newEnv_comp ?_) (by show 0 ≤ sizeLine; decide)
  generalize hD : s2.heap.objs.size = D
  have hDn : H1 D = none := I2.hok.fresh (Nat.le_of_eq hD)
  obtain ⟨W, ⟨m0, w0⟩, turn⟩ := q D hDn
  -- the new list
  generalize hs3 : ({ s2 with heap := s2.heap.push { cls := .type "list", data := .seq ([] : List Value).toArray } } : Shared) = s3
  have I3 : Inv X pins σ (upd H1 D (.lst [])) s3 := by
    rw [← hs3]
    refine I2.laid (t' := s2.toks) (fun b o e => Heap.get?_push_of_some _ e) (Nat.le_of_eq hD) ⟨Nat.zero_le _, [], 0, .nil, ?_⟩
    rw [← hD]
    exact Heap.get?_push_size _ rfl
  have h3 : s3.heap = s2.heap.push { cls := .type "list", data := .seq ([] : List Value).toArray } := by rw [← hs3]
  have hlt : it < s2.heap.objs.size := by
    obtain ⟨o, e, _⟩ := st2
    exact Heap.lt_size e
  have f3 : ∀ b ∈ [it], FpOk X pins (upd H1 D (.lst [])) b ∧ b < s3.heap.objs.size := fun b hb => by
    have eb : b = it := by simpa using hb
    subst eb
    refine ⟨⟨?_, f2.2⟩, by rw [h3, Heap.size_push]; exact Nat.lt_succ_of_lt hlt⟩
    rw [upd_ne (by rw [← hD]; exact Nat.ne_of_lt hlt)]
    exact f2.1
  have kp3 : ∀ b o, s2.heap.get? b = some o → s3.heap.get? b = some o := fun b o e => by rw [h3]; exact Heap.get?_push_of_some _ e
  have st3 : s3.heap.IsListIter it a 0 := st2.at fun o e => kp3 it o e
  have I4 := block_start I3 ok hN f3
  have pg := hg s3 (upd H1 D (.lst [])) s3.heap.objs.size (cellsFrom (s3.heap.objs.size + 1) scope.names (cloFrom X.env.cells scope.names [])) [it]
  have pt := ht s3 (upd H1 D (.lst [])) s3.heap.objs.size (cellsFrom (s3.heap.objs.size + 1) scope.names (cloFrom X.env.cells scope.names [])) [it]
  have pe := he s3 (upd H1 D (.lst [])) s3.heap.objs.size (cellsFrom (s3.heap.objs.size + 1) scope.names (cloFrom X.env.cells scope.names [])) [it]
  show codeAny _ _ (.compStart (.ListComp elt [⟨tg, l, ifs, 0⟩] scope pos) 0 (.ref it) (.ref D) (compEnvC scope (cellsFrom (s3.heap.objs.size + 1) scope.names (cloFrom X.env.cells scope.names [])) s3.heap.objs.size X.env)) (compPost (model X.prog X.w) X.A X.xe none (EP X pins σ Q) (.ref D) s3.heap.objs.size) { s3 with heap := pushCells (s3.heap.push { cls := .type "dict", data := .dict #[] }) scope.names }
  have nfp : (upd H1 D (.lst [])) it = none := (f3 it (by simp)).1.1
  generalize hce : compEnvC scope (cellsFrom (s3.heap.objs.size + 1) scope.names (cloFrom X.env.cells scope.names [])) s3.heap.objs.size X.env = ce at I4 pg pt pe ⊢
  have cL : ce.locals = s3.heap.objs.size := by subst hce; rfl
  generalize hH3 : upd H1 D (.lst []) = H3 at I3 I4 pg pt pe w0 nfp f3
  generalize hs4 : ({ s3 with heap := pushCells (s3.heap.push { cls := .type "dict", data := .dict #[] }) scope.names } : Shared) = s4 at I4 ⊢
  have st4 : s4.heap.IsListIter it a 0 := st3.at fun o e => by rw [← hs4]; exact pushCells_keeps _ _ _ _ (Heap.get?_push_of_some _ e)
  have stat : ∀ {σ' : L2.St} {H' : Hp} {s' : Shared}, Inv (X.blk s3 H3 scope ce [it]) [] σ' H' s' → H' it = none → FpOk (X.blk s3 H3 scope ce [it]) [] H' it := fun {σ' H' s'} I' hn =>
    ⟨hn, (I'.ok.exf it (by simp)).1, I'.ok.exfs it (by simp), .inl (by simp), fun x c e => (I'.ok.exf it (by simp)).2 x c e, fun p hp => absurd (show p ∈ ([] : List (Addr × Obj)) ++ [] from hp) (by simp)⟩
  -- the handled exception stands in the block, too
  have hotB : ∀ {σ' : L2.St} {H' : Hp} {s' : Shared}, Inv (X.blk s3 H3 scope ce [it]) [] σ' H' s' → ∃ x1, HotAt (X.blk s3 H3 scope ce [it]).A x1 s'.heap := fun {σ' H' s'} I' => by
    obtain ⟨pp, ⟨hh, v1, e1, c1⟩, hp⟩ := hc
    obtain ⟨g1, g2, g3, g4, _⟩ := I3.pin pp (List.mem_append_left _ hp)
    have hot3 : HotAt X.A pp.1 s3.heap := ⟨hh, pp.2, v1, g1, e1, c1⟩
    have nit : pp.1 ∉ ([it] : List Addr) := fun z => iter_ne hot3 st3 (by simpa using z)
    have nst : pp.1 ∉ frs X.stack := fun hm => (List.mem_cons.mp (I3.stkSub pp.1 hm)).elim g3 g4
    exact ⟨pp.1, hh, pp.2, v1, I'.base.keep pp.1 pp.2 g1 g2 nst nit, e1, c1⟩
  have loop : codeAny (model X.prog X.w) X.A (.compLoop (.ListComp elt [⟨tg, l, ifs, 0⟩] scope pos) 0 (.ref it) (.ref D) ce) (compPost (model X.prog X.w) X.A X.xe none (EP X pins σ Q) (.ref D) s3.heap.objs.size) s4 := by
    refine compLoop_any (fun n s' => ∃ i H', Inv (X.blk s3 H3 scope ce [it]) [] (wipe σ (own.map (·.2))) H' s' ∧ s'.heap.IsListIter it a i ∧ H' it = none ∧ W i n H') ?_ m0 ⟨0, H3, I4, st4, nfp, w0⟩
    rintro n s5 ⟨i, H5, I5, st5, n5, w5⟩
    rcases turn i n H5 w5 with ⟨stop, qq⟩ | ⟨go, Nx, hNx, step⟩
    · obtain ⟨x1, hot5⟩ := hotB I5
      have td := list_done (X := X.blk s3 H3 scope ce [it]) (E := fun _ _ => False) hot5 I5 (stat I5 n5) st5 stop
      refine thnF td fun r s6 ⟨hr, I6⟩ => ?_
      subst hr
      have I7 : Inv X pins σ H5 s6 := I3.call' (ch := [it]) I6.os I6.base I6.hok I6.bare fun b hb => ⟨(f3 b hb).1.2.2.2.1, (f3 b hb).1.2.1, (f3 b hb).1.2.2.2.2.1, (f3 b hb).1.2.2.2.2.2⟩
      have nC : H5 s3.heap.objs.size = none := by
        have z : H5 ce.locals = none := I6.free
        rw [cL] at z
        exact z
      obtain ⟨m, hn, _⟩ := I6.loc
      have hn : s6.heap.Ns ce.locals m := hn
      rw [cL] at hn
      refine ⟨m, hn, fun h'' sb => ?_⟩
      obtain ⟨z0, z1, z2, z3, z4, z5⟩ := I3.fpOk (H' := H5) (Nat.le_refl _) nC
      exact ⟨.ref D, H5, I7.turned (t' := s6.toks) (fun b o hb e => (sb.2 b hb).trans e) z0 z1 z3 z4 z5, rfl, qq⟩
    · have ti := list_item (X := X.blk s3 H3 scope ce [it]) (E := fun _ _ => False) (tg := tg) I5 (stat I5 n5) st5 go
      refine thnF ti fun r s6 ⟨u, hr, h6⟩ => ?_
      subst hr
      refine thnF h6 fun _ s7 ⟨x, H7, I7, r7, y7, st7, n7⟩ => ?_
      have ob7 : ∀ b ∈ [it], ∃ o, s7.heap.get? b = some o ∧ ∀ v, o.data ≠ .cell v := fun b hb => by
        have eb : b = it := by simpa using hb
        subst eb
        obtain ⟨o, e, c, d⟩ := st7
        exact ⟨o, e, fun v z => by rw [d] at z; cases z⟩
      have I7' := I7.pinned (fp := [it]) (fun b hb => by
        have eb : b = it := by simpa using hb
        subst eb
        exact stat I7 n7) ob7
      refine thnF (pg.run _ s7 _ H7 x u _ I7' r7 (step x H7 y7)) fun _ s8 ⟨σ8, H8, I8, hw8, q8⟩ => ?_
      refine thnF (pt.run _ s8 σ8 H8 _ I8 q8) fun b s9 ⟨H9, I9, q9⟩ => ?_
      have fin : ∀ {s' : Shared} {H' : Hp}, Inv (X.blk s3 H3 scope ce [it]) ([] ++ pinsAt [it] s7.heap) σ8 H' s' → Nx H' → ∃ m, m < n ∧ ∃ i H', Inv (X.blk s3 H3 scope ce [it]) [] (wipe σ (own.map (·.2))) H' s' ∧ s'.heap.IsListIter it a i ∧ H' it = none ∧ W i m H' := fun {s' H'} I' nx => by
        obtain ⟨m', hm, w'⟩ := hNx H' nx
        have pin' : ∀ o, s7.heap.get? it = some o → s'.heap.get? it = some o ∧ H' it = none := fun o e =>
          let z := I'.pin (it, o) (List.mem_append_right _ (List.mem_append_right _ (mem_pinsAt (fp := [it]) (by simp) e)))
          ⟨z.1, z.2.1⟩
        have hl : (wipe σ (own.map (·.2))).length = σ8.length := by rw [← hw8, wipe_length]
        refine ⟨m', hm, i + 1, H', (I'.unpinned (pins := [])).weak hl (fun j v e => ?_), st7.at fun o e => (pin' o e).1, ?_, w'⟩
        · rw [← hw8] at e
          exact (wipe_some e).1
        · obtain ⟨o, e, _⟩ := st7
          exact (pin' o e).2
      cases b with
      | false =>
        simp only [Bool.false_eq_true, if_false] at q9 ⊢
        exact fin I9 q9
      | true =>
        simp only [if_true] at q9 ⊢
        refine thnF (pe.run _ s9 σ8 H9 _ I9 q9) fun z s10 ⟨yv, H10, I10, r10, acc, hD10, hz10, nx⟩ => ?_
        exact app_ok (X := X.blk s3 H3 scope ce [it]) I10 hD10 hz10 r10 fun s11 I11 => fin I11 nx
  exact codeAny_compStart_list loop (wpAny_pyIter_listiter st4 loop)
end
/-! ### own exceptions over ValueError: what the written part says -/
def oexB (K : PySem.W.Frag) (C : Addr) : Bool := match K.lookup C with
  | some ⟨.type "type", _, .cls cd, sl⟩ => (match cd.mro, sl.toList with
    | .ref C' :: bm, [_, _, _, _, some (.builtin n), _] => C' == C && n == "ValueError.__new__" && !cd.hasDel && cd.hasDict && PySem.HandSPX.refsVE bm
    | _, _ => false)
  | _ => false
theorem oexB_ok {K : PySem.W.Frag} {C : Addr} (q : oexB K C = true) : ∃ nm q N bs bm sn sub ab col dd k0 k1 k2 k3 k5, K.lookup C = some (excClassObj nm q C N bs bm true sn sub ab col dd k0 k1 k2 k3 k5 "ValueError.__new__") ∧ PySem.HandSPX.refsVE bm = true := by
  unfold oexB at q
  split at q
  · rename_i dd cd sl ho
    split at q
    · rename_i C' bm k0 k1 k2 k3 n k5 hm hs
      simp only [Bool.and_eq_true, beq_iff_eq, Bool.not_eq_true'] at q
      obtain ⟨⟨⟨⟨e1, e2⟩, hdel⟩, hdict⟩, ht⟩ := q
      subst e1 e2
      obtain ⟨nm, bs, mro, ns, qn, hd, sn, sub, ab, col, del⟩ := cd
      dsimp only at hm hdel hdict
      subst hm hdel hdict
      have hsl : sl = #[k0, k1, k2, k3, some (.builtin "ValueError.__new__"), k5] := by
        obtain ⟨l⟩ := sl
        simp only at hs
        rw [hs]
      subst hsl
      exact ⟨nm, qn, ns, bs, bm, sn, sub, ab, col, dd, k0, k1, k2, k3, k5, ho, ht⟩
    · cases q
  · cases q
/-- one class of the program's refusals: all that is asked of it -/
structure Exk (K : PySem.W.Frag) (mg : Str → Option Value) (x : Str) : Prop where
  o : OexC K (He.ga K x)
  e : ExcC K (He.ga K x)
  f : XfC K (He.ga K x)
  row : PySem.W.findIn K (.ref (He.ga K x)) "row" = some none
  ini : PySem.W.findIn K (.ref (He.ga K x)) "__init__" = some (some (.ref (He.ma K (He.ga K "SlopeError") "__init__")))
  sub : PySem.W.exmOne K (.ref (He.ga K x)) (.ref (He.ga K "SlopeError")) = some true
  val : PySem.W.kitOne K (.ref (He.ga K x)) (.type "ValueError") = some true
  g : mg x = some (.ref (He.ga K x))
def exkB (K : PySem.W.Frag) (x : Str) : Bool := oexB K (He.ga K x) &&
  (decide (PySem.W.findIn K (.ref (He.ga K x)) "__setattr__" = some (some (.builtin "object.__setattr__"))) &&
  (decide (PySem.W.subIn K (.ref (He.ga K x)) (.type "BaseException") = some true) &&
  (decide (PySem.W.typeIn K (.ref (He.ga K x)) = some (.type "type")) &&
  (PySem.W.keepIn K (.ref (He.ga K x)) &&
  (decide (PySem.W.findIn K (.ref (He.ga K x)) "__getattribute__" = some (some (.builtin "BaseException.__getattribute__"))) &&
  (decide (PySem.W.findIn K (.ref (He.ga K x)) "__getattr__" = some none) &&
  (PySem.W.hasDictIn K (He.ga K x) &&
  (decide (PySem.W.findIn K (.ref (He.ga K x)) "__class__" = some (some (.builtin "object.__class__"))) &&
  (decide (PySem.W.specialIn K (.builtin "object.__class__") "__get__" = some (some (.builtin "getset_descriptor.__get__"))) &&
  (decide (PySem.W.takesIn K (.builtin "object.__class__") = some true) &&
  (decide (PySem.W.mroIn K (He.ga K x) (.type "object") = some true) &&
  (decide (PySem.W.findIn K (.ref (He.ga K x)) "row" = some none) &&
  (decide (PySem.W.findIn K (.ref (He.ga K x)) "__init__" = some (some (.ref (He.ma K (He.ga K "SlopeError") "__init__")))) &&
  (decide (PySem.W.exmOne K (.ref (He.ga K x)) (.ref (He.ga K "SlopeError")) = some true) &&
  (decide (PySem.W.kitOne K (.ref (He.ga K x)) (.type "ValueError") = some true) &&
  decide (PySem.W.nsIn K mainGlobals x = some (some (.ref (He.ga K x)))))))))))))))))))
theorem exkB_ok {K : PySem.W.Frag} {mg : Str → Option Value} {h : Heap} {x : Str} (X : K.In h) (G : h.Ns mainGlobals mg) (q : exkB K x = true) : Exk K mg x := by
  unfold exkB at q
  simp only [Bool.and_eq_true, decide_eq_true_eq] at q
  obtain ⟨q1, q2, q3, q4, q5, q6, q7, q8, q9, q10, q11, q12, q13, q14, q15, q16, q17⟩ := q
  exact ⟨⟨oexB_ok q1, q2, q3, q4, q5⟩, ⟨q6, q7, q3, q8, q9, q10, q11, q12⟩, ⟨q6, q7, q3, q8⟩, q13, q14, q15, q16, PySem.W.mg_of X G q17⟩
/-! ### isinstance of the exception that is handled -/
section
variable {X : Cx}
def rIsP (K : PySem.W.Frag) (D a dd : Addr) : List V → Hp → VK → Prop := fun xs H Q => ∃ (c : V) (cv : Value) (b : Bool) (fs : List (Str × V)), xs = [.ref a, c] ∧ (∀ u, RelV c u → u = cv) ∧ PySem.W.kitOne K (.ref D) cv = some b ∧ H dd = some (.xd fs) ∧ Q (.bl b) H
theorem call_isP {a D dd : Addr} {oe : Obj} (C : ExcC X.K D) (hz : Zc (.ref D) (some dd) oe) (hf : ∃ vs, oe.data = .fields vs) (hp : (a, oe) ∈ X.pn) : CallR X (.builtin "isinstance") (rIsP X.K D a dd) := by
  intro pins s σ H xs us Q I r h
  obtain ⟨c, cv, b, fs, rfl, hcv, e, hx, q⟩ := h
  cases r with
  | cons rx rr =>
    cases rr with
    | cons rt rr =>
      cases rr
      cases rx
      have ec := hcv _ rt
      subst ec
      obtain ⟨hget, _⟩ := I.pin (a, oe) (List.mem_append_left _ hp)
      obtain ⟨vs, hv⟩ := hf
      have ho : ObjOk X.prog X.w H s.heap dd (.xd fs) := I.hok dd _ hx
      obtain ⟨mA, hns, _⟩ := ho
      obtain ⟨od, hod, _⟩ := lookIn_ns hns
      have J : PySem.W.InstAt s.heap a oe D (some od) := ⟨hget, hz.1, by unfold PySem.W.notCls; rw [hv] <;> rfl, by rw [hz.2]; exact hod⟩
      have hcl : (PySem.W.clsIn X.K D).isSome = true := by
        obtain ⟨cd, hc, _⟩ := PySem.W.any_some C.hd
        rw [hc]
        rfl
      exact PySem.W.kia_one (PySem.W.kitx_exc hcl C.hg C.hk C.hs C.ha C.hn C.ht C.hm) I.kIn J e (fun z => nomatch z) fun tk => ⟨.bl b, H, I.kept (t' := tk) fun _ _ z => z, rfl, q⟩
end
/-! ### raise C(e, ..), C an own class over ValueError with an __init__ that keeps row -/
section
variable {X : Cx}
theorem pmk_oexN {CX : CXT} {x : Str} {e : Expr} {es : List Expr} {ta : TA} {p pos : Pos} {C fI : Addr} {k : Nat} {fd : FuncData} {ps : List Str} {sp : Sp} {ds : List Value} {dvs : List V} (T : OexC X.K C) (iC : PySem.W.findIn X.K (.ref C) "__init__" = some (some (.ref fI))) (tI : PySem.W.typeIn X.K (.ref fI) = some (.type "function"))
    (F1 : FnOk X.prog X.w X.K X.mg X.base CX k fI fd ps sp) (hr : Room (k + 1) X.A) (hb : Binds X.K fd ps ds) (hd : Vals dvs ds) (hx : Passes CX X (fun _ _ _ => False)) (hg : Gl X x) (hm : X.mg x = some (.ref C)) (ha : PA X (e :: es) ta)
    (hdb : (x == ("__debug__" : Str)) = false := by decide) (he : starEach (e :: es) X.env = (false, eval e X.env) :: starEach es X.env := by rfl) (hpl : (backTo pos (starEach es X.env)).any (·.1) = false := by rfl) :
    L2N.PMk X (.Call (.Name x p) (e :: es) [] pos) (tMkO C sp dvs ta) := by
  intro pins s σ H Q I h
  obtain ⟨nm, q, N, bs, bm, sn, sub, ab, col, dd, k0, k1, k2, k3, k5, hC, hbm⟩ := T.cls
  refine wpAny_Call_Name_kw (ld_glob I hg hm ?_ hdb)
  refine PySem.W.callWith_K (h₀ := X.base) I.ok.mod.kin T.kC (thn (ha.run pos pins s σ H _ I h) fun us s1 ⟨vs, H1, I1, r1, hz, q1⟩ => ⟨I1.kIn, ?_⟩) he hpl
  show wpAny _ _ (call (.ref C) us) _ _ _
  obtain ⟨hp, g, dr, tk, os⟩ := s1
  have hsz : hp.objs.size ≤ hp.objs.size + 1 := Nat.le_succ _
  have hq := q1 (hp.objs.size + 1) (I1.hok.fresh hsz)
  have kk : ∀ b o, hp.get? b = some o → ((hp.push (PySem.W.kdv_tup us)).push (PySem.HandSPX.excO C hp.objs.size)).get? b = some o := fun b o e => Heap.get?_push_of_some _ (Heap.get?_push_of_some _ e)
  have hget : ((hp.push (PySem.W.kdv_tup us)).push (PySem.HandSPX.excO C hp.objs.size)).get? (hp.objs.size + 1) = some (PySem.HandSPX.excO C hp.objs.size) := by heap_get
  have I2 : Inv X pins σ (upd H1 (hp.objs.size + 1) (exo (hp.objs.size + 1) C none)) ⟨(hp.push (PySem.W.kdv_tup us)).push (PySem.HandSPX.excO C hp.objs.size), g, dr, tk, os⟩ :=
    I1.laid (t' := tk) (a := hp.objs.size + 1) (o := exo (hp.objs.size + 1) C none) (h' := (hp.push (PySem.W.kdv_tup us)).push (PySem.HandSPX.excO C hp.objs.size)) kk hsz (exo_ok hget)
  have r2 : Vals (V.ref (hp.objs.size + 1) :: (vs ++ dvs)) (Value.ref (hp.objs.size + 1) :: (us ++ ds)) := .cons rfl (r1.append hd)
  have hl : (Value.ref (hp.objs.size + 1) :: us ++ ds).length = ps.length := by
    have e := r2.length
    rw [F1.len _ _ _ _ hq] at e
    exact e.symm
  have hus : us.length ≤ sizeLine := by
    rw [← Paired.length r1, sizeLine_eq]
    omega
  refine wpAny_call (PySem.HandSPX.call_own F.excBase_ValueError (fun Y => PySem.HandSPX.refsVE_contains Y bm hbm) (I1.kIn _ _ hC) (PySem.W.looks_findIn I1.kIn iC) (fun self => PySem.W.bind_fn I1.kIn self tI) hus
    (codeAny_mono (F1.run _ X.stack _ _ ⟨Value.ref (hp.objs.size + 1) :: us, []⟩ (Value.ref (hp.objs.size + 1) :: (us ++ ds)) _ _ (fun _ _ _ => False) (hr.make C us []) (I2.env0.make C us []) (hb _ (Value.ref (hp.objs.size + 1) :: us) I2.kIn hl) r2 hq) fun r s' hq' => ?_))
  cases r with
  | error er => exact hx pins σ _ _ er s' I2 hq'
  | ok fl =>
    cases fl with
    | ret u =>
      obtain ⟨v, H2, os2, bare2, un2, hok2, rv, ev, d, fs, ea, ed, hd1, q2⟩ := hq'
      subst ev
      obtain ⟨h2, g2, d2, t2, os'⟩ := s'
      obtain ⟨t0, G, J, kG, ge, hoe, na⟩ := mk_end0 (d2 := d2) (t2 := t2) I1 hsz kk un2 hok2 os2 bare2 ea ed hd1
      refine ⟨rv, hp.objs.size + 1, _, _, ⟨G, g2, d2, t2, os'⟩, _, .ref C, some d, rfl, J, kG, ge, hoe, ⟨rfl, rfl, fun vs hv => ?_⟩, rfl, rfl, na, rfl, bare2, raises_own T.exC T.tyC, q2⟩
      cases hv
      rfl
    | next => exact False.elim hq'
    | brk => exact False.elim hq'
    | cont => exact False.elim hq'
end
def spInit (K : PySem.W.Frag) : Sp := fun vs H Q _ => ∃ (a C : Addr) (w r : V), vs = [.ref a, w, r] ∧ OexC K C ∧ PySem.W.findIn K (.ref C) "row" = some none ∧ H a = some (exo a C none) ∧ ∀ d, H d = none → d ≠ a → Q .non (upd (upd H d (exd d [("row", r)])) a (exo a C (some d)))
/-- SlopeError.__init__ keeps its promise; dv: the defaults that fill up -/
structure IniOk (P : Program) (w : World) (K : PySem.W.Frag) (mg : Str → Option Value) (base : Heap) (dv : List V) : Prop where
  ex : ∃ fd ds, FnOk P w K mg base (L2N.CX P w) 1 (He.ma K (He.ga K "SlopeError") "__init__") fd ["self", "words", "row"] (spInit K) ∧ Vals dv ds ∧ Binds K fd ["self", "words", "row"] ds
  ty : PySem.W.typeIn K (.ref (He.ma K (He.ga K "SlopeError") "__init__")) = some (.type "function")
def RzL (K : PySem.W.Frag) (C : Addr) (dv : List V) (W : WX) (σ : L2.St) (vs : List V) (H1 : Hp) : Prop := vs.length ≤ 1000 ∧ ∀ a, H1 a = none → spInit K (.ref a :: (vs ++ dv)) (upd H1 a (exo a C none))
  (fun v H2 => v = .non ∧ ∃ (d : Addr) (fs : List (Str × V)), H2 a = some (exo a C (some d)) ∧ H2 d = some (exd d fs) ∧ H1 d = none ∧ W (.ref C) (some d) σ (upd (del H2 a) d (.xd fs))) (fun _ _ _ => False)
def tRz (K : PySem.W.Frag) (C : Addr) (W : WX) (dv : List V) (ta : TA) : TS := fun _ σ H => ta σ H fun vs H1 => RzL K C dv W σ vs H1
theorem w_rz {K : PySem.W.Frag} {C : Addr} {W : WX} {dv : List V} {ta : TA} {D : Ends} {σ : L2.St} {H : Hp} (h : ta σ H fun vs H1 => RzL K C dv W σ vs H1) : tRz K C W dv ta D σ H := h
theorem rzL {K : PySem.W.Frag} {mg : Str → Option Value} {x : Str} {dv vs : List V} {W : WX} {σ : L2.St} {H1 : Hp} (Z : Exk K mg x) (w r : V) (ev : vs ++ dv = [w, r]) (hq : ∀ d H2, H1 d = none → H2 d = some (.xd [("row", r)]) → Same H1 H2 → W (.ref (He.ga K x)) (some d) σ H2) : RzL K (He.ga K x) dv W σ vs H1 := by
  have hl : vs.length ≤ 2 := by
    have := congrArg List.length ev
    rw [List.length_append] at this
    have e2 : ([w, r] : List V).length = 2 := rfl
    omega
  refine ⟨by omega, fun a na => ?_⟩
  refine ⟨a, He.ga K x, w, r, by rw [ev], Z.o, Z.row, upd_same, fun d nd nda => ⟨rfl, d, [("row", r)], ?_, ?_, ?_, ?_⟩⟩
  · rw [upd_same]
  · rw [upd_ne nda, upd_same]
  · rw [upd_ne nda] at nd
    exact nd
  · have nd' : H1 d = none := by
      rw [upd_ne nda] at nd
      exact nd
    refine hq d _ nd' upd_same fun b o hb => ?_
    have n1 : b ≠ d := ne_of_none hb nd'
    have n2 : b ≠ a := ne_of_none hb na
    rw [upd_ne n1, del_ne n2, upd_ne n2, upd_ne n1, upd_ne n2]
    exact hb
theorem passN {X : Cx} : Passes (L2N.CX X.prog X.w) X (fun _ _ _ => False) := fun _ _ _ _ _ _ _ h => by
  obtain ⟨_, _, _, _, _, _, _, _, _, _, _, _, z⟩ := h
  exact z.elim
section
variable {X : Cx}
theorem ps_rz {x : Str} {W : WX} {e : Expr} {es : List Expr} {ta : TA} {dv : List V} {p pos pos2 : Pos} {k : Nat} (Z : Exk X.K X.mg x) (F : IniOk X.prog X.w X.K X.mg X.base dv) (hc : X.calm = true) (hr : Room k X.A) (hk : 2 ≤ k) (tk : L2N.Takes X W) (ha : PA X (e :: es) ta) (hg : Gl X x := by rfl)
    (hdb : (x == ("__debug__" : Str)) = false := by decide) (he : starEach (e :: es) X.env = (false, eval e X.env) :: starEach es X.env := by rfl) (hpl : (backTo pos (starEach es X.env)).any (·.1) = false := by rfl) :
    PS X (.Raise (some (.Call (.Name x p) (e :: es) [] pos)) none pos2) (tRz X.K (He.ga X.K x) W dv ta) := by
  obtain ⟨fd, ds, F1, hd, hb⟩ := F.ex
  exact L2N.ps_raise (pos := pos2) hc tk (pmk_oexN (p := p) (pos := pos) Z.o Z.ini F.ty F1 (hr.mono hk) hb hd passN hg Z.g ha hdb he hpl)
end
/-! ### a def called within an except suite: it knows the exception that is handled (at a, its class cls, its dict d) -/
abbrev SpX := Addr → Value → Option Addr → Sp
structure CalX (P : Program) (w : World) (K : PySem.W.Frag) (mg : Str → Option Value) (base : Heap) (k : Nat) (x : Str) (ps : List Str) (sp : SpX) : Prop where
  ex : ∃ f fd, (∀ a cls d vs H Q E, sp a cls d vs H Q E → vs.length = ps.length) ∧
    (∀ (A : Around) (outer : List Env) (s : Shared) (H : Hp) (args : Args) (us : List Value) (vs : List V) (Q : VK) (E : XK) (p : Addr × Obj) (cls : Value) (d : Option Addr), L2H.RoomH k A → L2H.Hot1 A p → Zc cls d p.2 → L2H.PinOk outer H s p → Env0 P w K mg base A outer s H →
      BindsTo s fd args (ps.zip us) → Vals vs us → sp p.1 cls d vs H Q E → codeAny (model P w) A (.call (.ref f) args) (CR (L2N.CX P w) outer P w H s Q E) s) ∧
    Binds K fd ps [] ∧ mg x = some (.ref f) ∧ PySem.W.keepIn K (.ref f) = true
section
variable {P : Program} {w : World} {K : PySem.W.Frag} {mg : Str → Option Value} {base : Heap}
theorem calX_of {x : Str} {st : Stmt} {N ps : List Str} {k : Nat} {sp : SpX} (F : Fw.Def K mg x st) (S : FnScope N ps (defScope st)) (b : Fw.BindsOk x x ps st) (len : ∀ a cls d vs H Q E, sp a cls d vs H Q E → vs.length = ps.length)
    (hbody : ∀ (cdv : Value) (A : Around) (outer : List Env) (s : Shared) (H : Hp) (vs : List V) (Q : VK) (E : XK) (a : Addr) (oe : Obj) (cls : Value) (d : Option Addr), L2H.Hot1 A (a, oe) → Zc cls d oe → L2H.RoomH k (A.deeper (envOfC x (defScope st) s.heap.objs.size (He.ga K x) cdv)) → sp a cls d vs H Q E →
      ∃ t, PSs (L2H.cxH (L2N.CX P w) P w K mg base N x (defScope st) (He.ga K x) cdv A outer s H E (a, oe)) (defBody st) t ∧ t { nx := fun _ H' => Q .non H', rt := Q } (L2.start N vs) H) : CalX P w K mg base (k + 1) x ps sp := by
  obtain ⟨⟨fd, F⟩, g⟩ := F
  have bN := F.bindsN b
  have kp := F.kp
  obtain ⟨oc, od, dV, kV, doc, pm, an, cdv, ct, osl, rfl, lk, hcd, _, _⟩ := F.ex
  refine ⟨_, _, len, fun A outer s H args us vs Q E p cls d hr hot hz hpin e0 hb r hsp => ?_, bN, g, kp⟩
  have hl := len _ _ _ _ _ _ _ hsp
  have KX : K.In s.heap := e0.mod.kin.keeps fun b o e => (e0.bs b o e).1
  have lim : s.heap.NoLimit := e0.mod.nolimit.keeps fun b o e => (e0.bs b o e).1
  have hkind : ∀ y ∈ ps.zip us, (defScope st).names.lookup y.1 = some .local ∨ ((defScope st).names.lookup y.1 = some .cell ∧ ((cellsFrom (s.heap.objs.size + 1) (defScope st).names []).lookup y.1).isSome = true) := fun ⟨n, v⟩ hy => by
    rcases S.par n (List.of_mem_zip hy).1 with q | q
    · exact .inl q
    · exact .inr ⟨q, PySem.W.cellsFrom_some _ _ _ (.inl q)⟩
  refine codeAny_call_function hr.depth (KX _ _ lk) rfl S.co S.gen rfl (PySem.W.codeRec_of KX hcd) (hb _ _ _ _ ?_)
  refine wpAny_newFunctionEnv_cells S.kind hkind fun env he s1 x1 => ?_
  subst he
  refine ⟨lim.keeps x1.toInCall.keep, codeAny_func ?_⟩
  obtain ⟨t, ht, hq⟩ := hbody cdv A outer s H vs Q E p.1 p.2 cls d hot hz (hr.deeper _) hsp
  have I : Inv (L2H.cxH (L2N.CX P w) P w K mg base N x (defScope st) (He.ga K x) cdv A outer s H E p) [] (L2.start N vs) H s1 := L2H.inv_startH S hpin e0 hl r x1
  refine wpAny_mono (ht.run [] s1 (L2.start N vs) H _ I hq) (fun fl s' hs => ?_) fun e s' hs => hs
  have fin : ∀ {σ' : L2.St} {H' : Hp} {v : V} {u : Value}, Inv (L2H.cxH (L2N.CX P w) P w K mg base N x (defScope st) (He.ga K x) cdv A outer s H E p) [] σ' H' s' → RelV v u → Q v H' → CE outer P w H s Q u s' :=
    fun {σ' H' v u} J rv q => ⟨v, H', J.os, J.bare, J.base, J.hok, rv, q⟩
  cases fl with
  | ret u =>
    obtain ⟨v, σ', H', J, rv, q⟩ := hs
    exact fin J rv q
  | next =>
    obtain ⟨σ', H', J, q⟩ := hs
    exact fin (v := V.non) (u := Value.none) J rfl q
  | brk =>
    obtain ⟨_, _, _, q⟩ := hs
    exact False.elim q
  | cont =>
    obtain ⟨_, _, _, q⟩ := hs
    exact False.elim q
end
def tCalX (sp : Sp) (t : TA) : TE := fun σ H Q => t σ H fun vs H1 => sp vs H1 Q (fun _ _ _ => False)
theorem w_calX {sp : Sp} {t : TA} {σ : L2.St} {H : Hp} {Q : VK} (h : t σ H fun vs H1 => sp vs H1 Q (fun _ _ _ => False)) : tCalX sp t σ H Q := h
section
variable {X : Cx}
theorem pe_calX {k j : Nat} {x : Str} {ps : List Str} {sp : SpX} {e : Expr} {es : List Expr} {t : TA} {q pos : Pos} {a : Addr} {oe : Obj} {cls : Value} {d : Option Addr} {pn : List (Addr × Obj)} (c : CalX X.prog X.w X.K X.mg X.base j x ps sp) (hr : Room k X.A) (hj : j ≤ k)
    (hz : L2N.Zn cls d oe) (hf : ∃ vs, oe.data = .fields vs) (ha : PA (X.suite a ((a, oe) :: pn)) (e :: es) t) (hg : Gl X x := by rfl)
    (hdb : (x == ("__debug__" : Str)) = false := by decide) (he : starEach (e :: es) X.env = (false, eval e X.env) :: starEach es X.env := by rfl) (hpl : (backTo pos (starEach es X.env)).any (·.1) = false := by rfl) :
    PE (X.suite a ((a, oe) :: pn)) (.Call (.Name x q) (e :: es) [] pos) (tCalX (sp a cls d) t) := by
  obtain ⟨f, fd, hlen, hrun, hb, hm, hk⟩ := c.ex
  refine ⟨fun pins s σ H Q I h => ?_⟩
  refine wpAny_Call_Name_kw (ld_glob (X := X.suite a ((a, oe) :: pn)) I hg hm ?_ hdb)
  refine PySem.W.callWith_K (h₀ := X.base) I.ok.mod.kin hk (thn (ha.run pos pins s σ H _ I h) fun us s1 hh => ?_) he hpl
  obtain ⟨vs, H1, I1, r, q1⟩ := hh
  refine ⟨I1.kIn, ?_⟩
  have hl : us.length = ps.length := by rw [← r.length]; exact hlen _ _ _ _ _ _ _ q1
  have b := hb s1 us I1.kIn (by rw [List.append_nil]; exact hl)
  rw [List.append_nil] at b
  have P1 := I1.pin (a, oe) (List.mem_append_left _ List.mem_cons_self)
  have hpin : L2H.PinOk X.stack H1 s1 (a, oe) := ⟨P1.1, P1.2.1, fun hm => (List.mem_cons.mp (I1.stkSub a hm)).elim P1.2.2.1 P1.2.2.2.1, P1.2.2.2.2⟩
  obtain ⟨fv, hfv⟩ := hf
  have hot : L2H.Hot1 (X.suite a ((a, oe) :: pn)).A (a, oe) := ⟨rfl, fv, hfv, hz.2.2 fv hfv⟩
  refine wpAny_call (codeAny_mono (hrun (X.suite a ((a, oe) :: pn)).A X.stack s1 H1 ⟨us, []⟩ us vs Q (fun _ _ _ => False) (a, oe) cls d ((L2H.roomH_mark hr _).mono hj) hot hz.zc hpin I1.env0 b r q1) fun r2 s' hq => ?_)
  cases r2 with
  | error er =>
    obtain ⟨_, _, _, _, _, _, _, _, _, _, _, _, z⟩ := hq
    exact z.elim
  | ok fl =>
    cases fl with
    | ret u => exact I1.after hq
    | next => exact False.elim hq
    | brk => exact False.elim hq
    | cont => exact False.elim hq
/-- e.row, e the exception that the suite holds -/
def tRow (K : PySem.W.Frag) (a : Addr) (cls : Value) (d : Option Addr) (te : TE) : TE := fun σ H Q => te σ H fun x H1 => ∃ (C dd : Addr) (fs : List (Str × V)) (v : V), x = .ref a ∧ cls = .ref C ∧ XfC K C ∧ PySem.W.findIn K (.ref C) "row" = some none ∧ d = some dd ∧ H1 dd = some (.xd fs) ∧ List.lookup ("row" : Str) fs = some v ∧ Q v H1
theorem w_row {K : PySem.W.Frag} {a : Addr} {cls : Value} {d : Option Addr} {te : TE} {σ : L2.St} {H : Hp} {Q : VK} (h : te σ H fun x H1 => ∃ (C dd : Addr) (fs : List (Str × V)) (v : V), x = .ref a ∧ cls = .ref C ∧ XfC K C ∧ PySem.W.findIn K (.ref C) "row" = some none ∧ d = some dd ∧ H1 dd = some (.xd fs) ∧ List.lookup ("row" : Str) fs = some v ∧ Q v H1) : tRow K a cls d te σ H Q := h
theorem pe_row {a : Addr} {oe : Obj} {cls : Value} {d : Option Addr} {pn : List (Addr × Obj)} {e : Expr} {te : TE} {pos : Pos} (hz : L2N.Zn cls d oe) (hf : ∃ vs, oe.data = .fields vs) (he : PE (X.suite a ((a, oe) :: pn)) e te) (hb : attributeBase e "row" X.env (eval e X.env) = eval e X.env := by rfl) :
    PE (X.suite a ((a, oe) :: pn)) (.Attribute e "row" pos) (tRow X.K a cls d te) := by
  refine ⟨fun pins s σ H Q I h => ?_⟩
  refine attr_of hb (thn (he.run pins s σ H _ I h) fun u s1 hh => ?_)
  obtain ⟨x, H1, I1, rx, C, dd, fs, v, ex, ec, T, hno, ed, ea, l, q⟩ := hh
  subst ex ec ed
  obtain rfl : u = Value.ref a := rx
  obtain ⟨ha, _⟩ := I1.pin (a, oe) (List.mem_append_left _ List.mem_cons_self)
  obtain ⟨vs, hd⟩ := hf
  have hx : ObjOk X.prog X.w H1 s1.heap dd (.xd fs) := I1.hok dd _ ea
  obtain ⟨mA, hns, hr⟩ := hx
  obtain ⟨od, ho, hl⟩ := lookIn_ns hns
  obtain ⟨u, hu, ru⟩ := RelO.some_of (v := v) (o := mA "row") (by rw [← l]; exact hr "row")
  have J : PySem.W.InstAt s1.heap a oe C (some od) := ⟨ha, hz.1, by unfold PySem.W.notCls; rw [hd] <;> rfl, by rw [hz.2.1]; exact ho⟩
  exact HandSPX.exc_get I1.kIn J T.ga T.gg T.exC (PySem.W.findObj_own T.hdC hno rfl (by rw [hl, hu])) (handed_of ru) ⟨v, H1, I1.tok _, ru, q⟩
/-- a call in a try's body -/
theorem pe_calS {k j : Nat} {x : Str} {ps : List Str} {sp : Sp} {W : WX} {p pos : Pos} {e : Expr} {es : List Expr} {t : TA} (c : Fw.Cal X.prog X.w X.K X.mg X.base j x ps sp) (hr : Room k X.A) (hj : j ≤ k) (tk : L2N.Takes X W) (ha : PA X (e :: es) t) (hg : Gl X x := by rfl)
    (hdb : (x == ("__debug__" : Str)) = false := by decide) (he : starEach (e :: es) X.env = (false, eval e X.env) :: starEach es X.env := by rfl) (hpl : (backTo pos (starEach es X.env)).any (·.1) = false := by rfl) :
    PE X (.Call (.Name x p) (e :: es) [] pos) (tCallS sp (WE W) t) := by
  obtain ⟨f, fd, F, b, g, kp⟩ := c.ex
  exact pe_callS (F.mono hj) hr hg g kp b (fun σ => L2N.passAt tk σ) ha hdb he hpl
theorem w_calS {sp : Sp} {E : L2.St → XK} {t : TA} {σ : L2.St} {H : Hp} {Q : VK} (h : t σ H fun vs H1 => sp vs H1 Q (E σ)) : tCallS sp E t σ H Q := h
end
theorem isP {X : Cx} {K : PySem.W.Frag} {a D dd : Addr} {oe : Obj} (h : X.K = K) (C : ExcC K D) (hz : Zc (.ref D) (some dd) oe) (hf : ∃ vs, oe.data = .fields vs) (hp : (a, oe) ∈ X.pn) : CallR X (.builtin "isinstance") (rIsP K D a dd) := by
  subst h
  exact call_isP C hz hf hp
theorem w_isP {K : PySem.W.Frag} {D a dd C : Addr} {b : Bool} {fs : List (Str × V)} {H : Hp} {Q : VK} (e : PySem.W.kitOne K (.ref D) (.ref C) = some b) (hx : H dd = some (.xd fs)) (q : Q (.bl b) H) : rIsP K D a dd [.ref a, .ref C] H Q := ⟨.ref C, .ref C, b, fs, rfl, fun _ z => z, e, hx, q⟩
theorem w_isPT {K : PySem.W.Frag} {D a dd : Addr} {n : String} {b : Bool} {fs : List (Str × V)} {H : Hp} {Q : VK} (e : PySem.W.kitOne K (.ref D) (.type n) = some b) (hx : H dd = some (.xd fs)) (q : Q (.bl b) H) : rIsP K D a dd [.ref a, .ty n] H Q := ⟨.ty n, .type n, b, fs, rfl, fun _ z => z, e, hx, q⟩
end Htx

/-! objects of own classes over the hand layer: methods by their promises (also where the class is known at the walk alone), making, base __init__, fields; texts -/
namespace Ob
open PySem PySem.Spec PyProof.Rows L2 Fw

/-! ### methods -/
/-- the method m of the class c -/
structure Met (P : Program) (w : World) (K : PySem.W.Frag) (mg : Str → Option Value) (base : Heap) (k : Nat) (c m : Str) (sp : Sp) : Prop where
  ex : ∃ f fd ps, Cls K (He.ga K c) ∧ Meth K (He.ga K c) m f ∧ FnOk P w K mg base (L2N.CX P w) k f fd ps sp ∧ Binds K fd ps []
def MDef (K : PySem.W.Frag) (c m q : Str) (st : Stmt) : Prop := ∃ fd, FunD K m q (defArgs st) (defBody st) (defScope st) [] [] (He.ma K (He.ga K c) m) fd
section
variable {P : Program} {w : World} {K : PySem.W.Frag} {mg : Str → Option Value} {base : Heap}
theorem met_of {c m q : Str} {st : Stmt} {N ps : List Str} {k : Nat} {sp : Sp} (F : MDef K c m q st) (cl : Cls K (He.ga K c)) (me : Meth K (He.ga K c) m (He.ma K (He.ga K c) m)) (S : FnScope N ps (defScope st)) (b : BindsOk m q ps st)
    (len : ∀ vs H Q E, sp vs H Q E → vs.length = ps.length)
    (hbody : ∀ (cdv : Value) (A : Around) (outer : List Env) (s : Shared) (H : Hp) (vs : List V) (Q : VK) (E : XK), Room k (A.deeper (envOfC q (defScope st) s.heap.objs.size (He.ma K (He.ga K c) m) cdv)) → sp vs H Q E →
      ∃ t, PSs (cxOf (L2N.CX P w) P w K mg base N q (defScope st) (He.ma K (He.ga K c) m) cdv A outer s H E) (defBody st) t ∧ t { nx := fun _ H' => Q .non H', rt := Q } (start N vs) H) : Met P w K mg base (k + 1) c m sp := by
  obtain ⟨fd, F⟩ := F
  exact ⟨_, fd, _, cl, me, F.ok S len hbody, F.bindsN b⟩
theorem Met.mono {c m : Str} {j k : Nat} {sp : Sp} (h : Met P w K mg base j c m sp) (hk : j ≤ k) : Met P w K mg base k c m sp := by
  obtain ⟨f, fd, ps, a, b, F, r⟩ := h.ex
  exact ⟨f, fd, ps, a, b, F.mono hk, r⟩
theorem Met.imp {c m : Str} {k : Nat} {sp sp' : Sp} (h : Met P w K mg base k c m sp) (hs : ∀ vs H Q E, sp' vs H Q E → sp vs H Q E) : Met P w K mg base k c m sp' := by
  obtain ⟨f, fd, ps, a, b, F, r⟩ := h.ex
  exact ⟨f, fd, ps, a, b, F.imp hs, r⟩
/-- .. inherited -/
theorem Met.inh {c c' m : Str} {k : Nat} {sp : Sp} (h : Met P w K mg base k c m sp) (cl : Cls K (He.ga K c')) (e : PySem.W.findIn K (.ref (He.ga K c')) m = PySem.W.findIn K (.ref (He.ga K c)) m) : Met P w K mg base k c' m sp := by
  obtain ⟨f, fd, ps, _, b, F, r⟩ := h.ex
  exact ⟨f, fd, ps, cl, ⟨e.trans b.at_, b.fn, b.kp⟩, F, r⟩
end
def tMt (K : PySem.W.Frag) (c m : Str) (sp : Sp) (E : XK) (ta : TE) (t : TA) : TE := fun σ H Q => ta σ H fun x H1 => ∃ a dx fs, x = .ref a ∧ H1 a = some (.ins (He.ga K c) dx fs) ∧ fs.lookup m = none ∧ t σ H1 fun vs H2 => sp (.ref a :: vs) H2 Q E
def tMtV (P : Program) (w : World) (K : PySem.W.Frag) (mg : Str → Option Value) (base : Heap) (j : Nat) (m : Str) (E : XK) (ta : TE) (t : TA) : TE :=
  fun σ H Q => ta σ H fun x H1 => ∃ a c dx fs sp, x = .ref a ∧ H1 a = some (.ins (He.ga K c) dx fs) ∧ fs.lookup m = none ∧ Met P w K mg base j c m sp ∧ t σ H1 fun vs H2 => sp (.ref a :: vs) H2 Q E
section
variable {X : Cx} {k j : Nat} {c m : Str} {sp : Sp} {E : XK} {pos apos : Pos} {o e : Expr} {es : List Expr} {ta : TE} {t : TA}
theorem pe_mtV {pl : Sem Bool} (he : PE X o ta) (hr : Room k X.A) (hj : j ≤ k) (hx : Passes (L2N.CX X.prog X.w) X E) (ha : PA X (e :: es) t)
    (hst : starEach (e :: es) X.env = (false, eval e X.env) :: starEach es X.env := by rfl) (hpl : (backTo pos (starEach es X.env)).any (·.1) = false := by rfl)
    (ht : eval (.Call (.Attribute o m apos) (e :: es) [] pos) X.env = (do
      let ov ← eval o X.env
      standAt apos.atName
      let (f, first) ← holding [ov] (getMethod ov m pl)
      callWith pos f first (backTo pos (starEach (e :: es) X.env)) (backToKw pos (keywordEach [] X.env))) := by rfl) :
    PE X (.Call (.Attribute o m apos) (e :: es) [] pos) (tMtV X.prog X.w X.K X.mg X.base j m E ta t) := by
  refine ⟨fun pins s σ H Q I h => ?_⟩
  refine PySem.W.methodCall_KW (pl := pl) (thn (he.run pins s σ H _ I h) fun u s1 ⟨x, H1, I1, rx, a, c, dx, fs, sp, ex, ea, l, M, q⟩ => ?_) ht
  subst ex
  obtain rfl : u = Value.ref a := rx
  obtain ⟨f, fd, ps, cl, hm, F, b⟩ := M.ex
  refine getmeth_ok I1 ea cl hm l ?_
  refine PySem.W.callWith_K (first := [.ref a]) (h₀ := X.base) I.ok.mod.kin hm.kp (thn (ha.run pos pins s1 σ H1 _ I1 q) fun us s2 ⟨vs, H2, I2, r, q2⟩ => ⟨I2.kIn, ?_⟩) hst hpl
  exact run_fn (us := .ref a :: us) (vs := .ref a :: vs) (F.mono hj) hr b .nil hx I2 (.cons rfl r) (by rw [List.append_nil]; exact q2)
theorem pe_mtV0 {pl : Sem Bool} (he : PE X o ta) (hr : Room k X.A) (hj : j ≤ k) (hx : Passes (L2N.CX X.prog X.w) X E)
    (ht : eval (.Call (.Attribute o m apos) [] [] pos) X.env = (do
      let ov ← eval o X.env
      standAt apos.atName
      let (f, first) ← holding [ov] (getMethod ov m pl)
      callWith pos f first (backTo pos (starEach [] X.env)) (backToKw pos (keywordEach [] X.env))) := by rfl) :
    PE X (.Call (.Attribute o m apos) [] [] pos) (tMtV X.prog X.w X.K X.mg X.base j m E ta tNil) := by
  refine ⟨fun pins s σ H Q I h => ?_⟩
  refine PySem.W.methodCall_KW (pl := pl) (thn (he.run pins s σ H _ I h) fun u s1 ⟨x, H1, I1, rx, a, c, dx, fs, sp, ex, ea, l, M, q⟩ => ?_) ht
  subst ex
  obtain rfl : u = Value.ref a := rx
  obtain ⟨f, fd, ps, cl, hm, F, b⟩ := M.ex
  refine getmeth_ok I1 ea cl hm l ?_
  exact PySem.W.callWith_K0 (first := [.ref a]) I1.kIn hm.kp (run_fn (us := [.ref a]) (vs := [.ref a]) (F.mono hj) hr b .nil hx I1 (.cons rfl .nil) (by rw [List.append_nil]; exact q))
theorem pe_mt {pl : Sem Bool} (M : Met X.prog X.w X.K X.mg X.base j c m sp) (he : PE X o ta) (hr : Room k X.A) (hj : j ≤ k) (hx : Passes (L2N.CX X.prog X.w) X E) (ha : PA X (e :: es) t)
    (hst : starEach (e :: es) X.env = (false, eval e X.env) :: starEach es X.env := by rfl) (hpl : (backTo pos (starEach es X.env)).any (·.1) = false := by rfl)
    (ht : eval (.Call (.Attribute o m apos) (e :: es) [] pos) X.env = (do
      let ov ← eval o X.env
      standAt apos.atName
      let (f, first) ← holding [ov] (getMethod ov m pl)
      callWith pos f first (backTo pos (starEach (e :: es) X.env)) (backToKw pos (keywordEach [] X.env))) := by rfl) :
    PE X (.Call (.Attribute o m apos) (e :: es) [] pos) (tMt X.K c m sp E ta t) := by
  refine ⟨fun pins s σ H Q I h => ?_⟩
  refine PySem.W.methodCall_KW (pl := pl) (thn (he.run pins s σ H _ I h) fun u s1 ⟨x, H1, I1, rx, a, dx, fs, ex, ea, l, q⟩ => ?_) ht
  subst ex
  obtain rfl : u = Value.ref a := rx
  obtain ⟨f, fd, ps, cl, hm, F, b⟩ := M.ex
  refine getmeth_ok I1 ea cl hm l ?_
  refine PySem.W.callWith_K (first := [.ref a]) (h₀ := X.base) I.ok.mod.kin hm.kp (thn (ha.run pos pins s1 σ H1 _ I1 q) fun us s2 ⟨vs, H2, I2, r, q2⟩ => ⟨I2.kIn, ?_⟩) hst hpl
  exact run_fn (us := .ref a :: us) (vs := .ref a :: vs) (F.mono hj) hr b .nil hx I2 (.cons rfl r) (by rw [List.append_nil]; exact q2)
theorem pe_mt0 {pl : Sem Bool} (M : Met X.prog X.w X.K X.mg X.base j c m sp) (he : PE X o ta) (hr : Room k X.A) (hj : j ≤ k) (hx : Passes (L2N.CX X.prog X.w) X E)
    (ht : eval (.Call (.Attribute o m apos) [] [] pos) X.env = (do
      let ov ← eval o X.env
      standAt apos.atName
      let (f, first) ← holding [ov] (getMethod ov m pl)
      callWith pos f first (backTo pos (starEach [] X.env)) (backToKw pos (keywordEach [] X.env))) := by rfl) :
    PE X (.Call (.Attribute o m apos) [] [] pos) (tMt X.K c m sp E ta tNil) := by
  refine ⟨fun pins s σ H Q I h => ?_⟩
  refine PySem.W.methodCall_KW (pl := pl) (thn (he.run pins s σ H _ I h) fun u s1 ⟨x, H1, I1, rx, a, dx, fs, ex, ea, l, q⟩ => ?_) ht
  subst ex
  obtain rfl : u = Value.ref a := rx
  obtain ⟨f, fd, ps, cl, hm, F, b⟩ := M.ex
  refine getmeth_ok I1 ea cl hm l ?_
  exact PySem.W.callWith_K0 (first := [.ref a]) I1.kIn hm.kp (run_fn (us := [.ref a]) (vs := [.ref a]) (F.mono hj) hr b .nil hx I1 (.cons rfl .nil) (by rw [List.append_nil]; exact q))
end
section
variable {P : Program} {w : World} {K : PySem.W.Frag} {mg : Str → Option Value} {base : Heap} {j : Nat} {c m : Str} {sp : Sp} {E : XK} {ta : TE} {t : TA} {σ : L2.St} {H : Hp} {Q : VK}
theorem w_mt (h : ta σ H fun x H1 => ∃ a dx fs, x = .ref a ∧ H1 a = some (.ins (He.ga K c) dx fs) ∧ fs.lookup m = none ∧ t σ H1 fun vs H2 => sp (.ref a :: vs) H2 Q E) : tMt K c m sp E ta t σ H Q := h
theorem w_mt1 {a dx : Addr} {fs : List (Str × V)} {C : Addr} {R : Addr → Prop} (ha : H a = some (.ins C dx fs)) (hl : fs.lookup m = none) (h : R a) :
    ∃ a' dx fs, V.ref a = .ref a' ∧ H a' = some (.ins C dx fs) ∧ fs.lookup m = none ∧ R a' := ⟨a, dx, fs, rfl, ha, hl, h⟩
theorem w_mtV (h : ta σ H fun x H1 => ∃ a c dx fs sp, x = .ref a ∧ H1 a = some (.ins (He.ga K c) dx fs) ∧ fs.lookup m = none ∧ Met P w K mg base j c m sp ∧ t σ H1 fun vs H2 => sp (.ref a :: vs) H2 Q E) : tMtV P w K mg base j m E ta t σ H Q := h
end

/-! ### making -/
def spIni (C : Addr) (pre : List (Str × V)) (ns : List Str) : Sp := fun vs H Q _ => ∃ x dx args, vs = .ref x :: args ∧ args.length = ns.length ∧ H x = some (.ins C dx []) ∧ ∀ H', H' x = some (.ins C dx (pre ++ ns.zip args)) → Keep x H H' → Q .non H'
/-- a class that is made by its name, by its own __init__ that keeps sp -/
structure Mak (P : Program) (w : World) (K : PySem.W.Frag) (mg : Str → Option Value) (base : Heap) (k : Nat) (x : Str) (sp : Sp) : Prop where
  ex : ∃ f fd ps, Mk K (He.ga K x) f ∧ FnOk P w K mg base (L2N.CX P w) k f fd ps sp ∧ Binds K fd ps [] ∧ mg x = some (.ref (He.ga K x))
def tMkS (C : Addr) (pre : List (Str × V)) (ns : List Str) (t : TA) : TE := fun σ H Q => t σ H fun vs H1 => vs.length = ns.length ∧ ∀ x dx H', H1 x = none → H' x = some (.ins C dx (pre ++ ns.zip vs)) → Same H1 H' → Q (.ref x) H'
def tMk (K : PySem.W.Frag) (c : Str) (sp : Sp) (E : XK) (t : TA) : TE := fun σ H Q => t σ H fun vs H1 => ∀ x dx H', H1 x = none → H' x = some (.ins (He.ga K c) dx []) → Same H1 H' → sp (.ref x :: vs) H' (fun v H2 => v = .non ∧ Q (.ref x) H2) E
theorem same_made {H : Hp} {C x dx : Addr} (hx : H x = none) (hd : H dx = none) (hn : dx ≠ x) : (upd (upd H dx (.own x)) x (.ins C dx [])) x = some (.ins C dx []) ∧ Same H (upd (upd H dx (.own x)) x (.ins C dx [])) := by
  refine ⟨upd_same, fun a o h => ?_⟩
  rw [upd_ne (ne_of_none h hx), upd_ne (ne_of_none h hd)]
  exact h
section
variable {X : Cx} {k j : Nat} {x : Str} {E : XK} {p pos : Pos} {e : Expr} {es : List Expr} {t : TA}
theorem pe_mk {sp : Sp} (M : Mak X.prog X.w X.K X.mg X.base j x sp) (hr : Room k X.A) (hj : j + 1 ≤ k) (hx : Passes (L2N.CX X.prog X.w) X E) (ha : PA X (e :: es) t) (hg : Gl X x := by rfl)
    (hdb : (x == ("__debug__" : Str)) = false := by decide) (he : starEach (e :: es) X.env = (false, eval e X.env) :: starEach es X.env := by rfl) (hpl : (backTo pos (starEach es X.env)).any (·.1) = false := by rfl) :
    PE X (.Call (.Name x p) (e :: es) [] pos) (tMk X.K x sp E t) := by
  obtain ⟨f, fd, ps, M, F, b, g⟩ := M.ex
  refine ⟨fun pins s σ H Q I h => ?_⟩
  refine wpAny_Call_Name_kw (ld_glob I hg g ?_ hdb)
  refine PySem.W.callWith_K (h₀ := X.base) I.ok.mod.kin M.kp (thn (ha.run pos pins s σ H _ I h) fun us s1 ⟨vs, H1, I1, r, q⟩ => ⟨I1.kIn, ?_⟩) he hpl
  refine run_make M F (hr.mono hj) b .nil hx I1 r fun x' dx nx nd ne => ?_
  obtain ⟨e1, s1⟩ := same_made (C := He.ga X.K x) nx nd ne
  rw [List.append_nil]
  exact q x' dx _ nx e1 s1
theorem pe_mkS {pre : List (Str × V)} {ns : List Str} (M : Mak X.prog X.w X.K X.mg X.base j x (spIni (He.ga X.K x) pre ns)) (hr : Room k X.A) (hj : j + 1 ≤ k) (hx : Passes (L2N.CX X.prog X.w) X E) (ha : PA X (e :: es) t) (hg : Gl X x := by rfl)
    (hdb : (x == ("__debug__" : Str)) = false := by decide) (he : starEach (e :: es) X.env = (false, eval e X.env) :: starEach es X.env := by rfl) (hpl : (backTo pos (starEach es X.env)).any (·.1) = false := by rfl) :
    PE X (.Call (.Name x p) (e :: es) [] pos) (tMkS (He.ga X.K x) pre ns t) := by
  obtain ⟨f, fd, ps, M, F, b, g⟩ := M.ex
  refine ⟨fun pins s σ H Q I h => ?_⟩
  refine wpAny_Call_Name_kw (ld_glob I hg g ?_ hdb)
  refine PySem.W.callWith_K (h₀ := X.base) I.ok.mod.kin M.kp (thn (ha.run pos pins s σ H _ I h) fun us s1 ⟨vs, H1, I1, r, hl, q⟩ => ⟨I1.kIn, ?_⟩) he hpl
  refine run_make M F (hr.mono hj) b .nil hx I1 r fun x' dx nx nd ne => ?_
  obtain ⟨e1, s1⟩ := same_made (C := He.ga X.K x) nx nd ne
  rw [List.append_nil]
  exact ⟨x', dx, vs, rfl, hl, e1, fun H' e2 k2 => ⟨rfl, q x' dx H' nx e2 fun a o h => k2 a o (ne_of_none h nx) (s1 a o h)⟩⟩
end
section
variable {K : PySem.W.Frag} {C : Addr} {pre : List (Str × V)} {ns : List Str} {t : TA} {σ : L2.St} {H : Hp} {Q : VK} {c : Str} {sp : Sp} {E : XK}
theorem w_mkS (h : t σ H fun vs H1 => vs.length = ns.length ∧ ∀ x dx H', H1 x = none → H' x = some (.ins C dx (pre ++ ns.zip vs)) → Same H1 H' → Q (.ref x) H') : tMkS C pre ns t σ H Q := h
theorem w_mk (h : t σ H fun vs H1 => ∀ x dx H', H1 x = none → H' x = some (.ins (He.ga K c) dx []) → Same H1 H' → sp (.ref x :: vs) H' (fun v H2 => v = .non ∧ Q (.ref x) H2) E) : tMk K c sp E t σ H Q := h
end
section
variable {P : Program} {w : World} {K : PySem.W.Frag} {mg : Str → Option Value} {base : Heap}
theorem mak_of {c q : Str} {st : Stmt} {N ps : List Str} {k : Nat} {sp : Sp} (F : MDef K c "__init__" q st) (mk : Mk K (He.ga K c) (He.ma K (He.ga K c) "__init__")) (g : mg c = some (.ref (He.ga K c))) (S : FnScope N ps (defScope st)) (b : BindsOk "__init__" q ps st)
    (len : ∀ vs H Q E, sp vs H Q E → vs.length = ps.length)
    (hbody : ∀ (cdv : Value) (A : Around) (outer : List Env) (s : Shared) (H : Hp) (vs : List V) (Q : VK) (E : XK), Room k (A.deeper (envOfC q (defScope st) s.heap.objs.size (He.ma K (He.ga K c) "__init__") cdv)) → sp vs H Q E →
      ∃ t, PSs (cxOf (L2N.CX P w) P w K mg base N q (defScope st) (He.ma K (He.ga K c) "__init__") cdv A outer s H E) (defBody st) t ∧ t { nx := fun _ H' => Q .non H', rt := Q } (start N vs) H) : Mak P w K mg base (k + 1) c sp := by
  obtain ⟨fd, F⟩ := F
  exact ⟨_, fd, _, mk, F.ok S len hbody, F.bindsN b, g⟩
end

/-! ### the base's __init__: C.__init__(self, ..) -/
/-- the def of a class, taken off the class by its name -/
structure Bas (P : Program) (w : World) (K : PySem.W.Frag) (mg : Str → Option Value) (base : Heap) (k : Nat) (c m : Str) (sp : Sp) : Prop where
  ex : ∃ f fd ps, ClX.CRead K (He.ga K c) (.type "type") ∧ PySem.W.findCls K (.ref (He.ga K c)) (.type "type") m = some (.val (.ref f)) ∧ PySem.W.keepIn K (.ref f) = true ∧ FnOk P w K mg base (L2N.CX P w) k f fd ps sp ∧ Binds K fd ps [] ∧ mg c = some (.ref (He.ga K c))
def tBas (sp : Sp) (E : XK) (t : TA) : TE := fun σ H Q => t σ H fun vs H1 => sp vs H1 Q E
section
variable {X : Cx} {k j : Nat} {c m : Str} {sp : Sp} {E : XK} {p apos pos : Pos} {e : Expr} {es : List Expr} {t : TA}
theorem pe_bas {pl : Sem Bool} (B : Bas X.prog X.w X.K X.mg X.base j c m sp) (hr : Room k X.A) (hj : j ≤ k) (hx : Passes (L2N.CX X.prog X.w) X E) (ha : PA X (e :: es) t) (hg : Gl X c := by rfl) (hdb : (c == ("__debug__" : Str)) = false := by decide)
    (hst : starEach (e :: es) X.env = (false, eval e X.env) :: starEach es X.env := by rfl) (hpl : (backTo pos (starEach es X.env)).any (·.1) = false := by rfl)
    (ht : eval (.Call (.Attribute (.Name c p) m apos) (e :: es) [] pos) X.env = (do
      let ov ← eval (.Name c p) X.env
      standAt apos.atName
      let (f, first) ← holding [ov] (getMethod ov m pl)
      callWith pos f first (backTo pos (starEach (e :: es) X.env)) (backToKw pos (keywordEach [] X.env))) := by rfl) :
    PE X (.Call (.Attribute (.Name c p) m apos) (e :: es) [] pos) (tBas sp E t) := by
  obtain ⟨f, fd, ps, r, fc, kp, F, b, g⟩ := B.ex
  refine ⟨fun pins s σ H Q I h => ?_⟩
  refine PySem.W.methodCall_KW (pl := pl) (thn ((pe_glob (pos := p) (v := .ref (He.ga X.K c)) hg g rfl hdb).run pins s σ H (fun v H1 => v = .ref (He.ga X.K c) ∧ H1 = H) I ⟨rfl, rfl⟩) fun u s1 ⟨y, H1, I1, ry, ey, eh⟩ => ?_) ht
  subst ey eh
  obtain rfl : u = Value.ref (He.ga X.K c) := ry
  refine PySem.W.method_cls I1.kIn r.ga (ClX.getcval_ok (v := .ref f) I1 r ⟨fc, rfl⟩ fun s2 I2 => ?_)
  refine PySem.W.callWith_K (first := []) (h₀ := X.base) I.ok.mod.kin kp (thn (ha.run pos pins s2 σ _ _ I2 h) fun us s3 ⟨vs, H2, I3, rv, q2⟩ => ⟨I3.kIn, ?_⟩) hst hpl
  exact run_fn (F.mono hj) hr b .nil hx I3 rv (by rw [List.append_nil]; exact q2)
end
theorem w_bas {sp : Sp} {E : XK} {t : TA} {σ : L2.St} {H : Hp} {Q : VK} (h : t σ H fun vs H1 => sp vs H1 Q E) : tBas sp E t σ H Q := h

/-! ### classes' facts in one -/
structure ClsF (K : PySem.W.Frag) (cs : List Str) (as : List (Str × Str)) : Prop where
  cl : ∀ c, c ∈ cs → Cls K (He.ga K c)
  no : ∀ c f, (c, f) ∈ as → NoAttr K (He.ga K c) f
def clsFB (K : PySem.W.Frag) (cs : List Str) (as : List (Str × Str)) : Bool := (cs.all fun c => (He.Fa.cls c).ok K) && as.all fun q => (He.Fa.noat q.1 q.2).ok K
theorem clsFB_ok {K : PySem.W.Frag} {cs : List Str} {as : List (Str × Str)} (h : clsFB K cs as = true) : ClsF K cs as := by
  obtain ⟨h1, h2⟩ := Bool.and_eq_true_iff.mp h
  exact ⟨fun c hc => He.cls_ok (List.all_eq_true.mp h1 c hc), fun c f hq => He.noat_ok (List.all_eq_true.mp h2 (c, f) hq)⟩

/-! ### fields -/
section
variable {K : PySem.W.Frag} {f : Str} {ta tv : TE} {σ : L2.St} {H : Hp} {Q : VK} {D : Ends}
theorem w_fld (h : ta σ H fun x H1 => ∃ a C dx fs v, x = .ref a ∧ H1 a = some (.ins C dx fs) ∧ Cls K C ∧ NoAttr K C f ∧ fs.lookup f = some v ∧ Q v H1) : tFld K ta f σ H Q := h
theorem w_fld1 {a C dx : Addr} {fs : List (Str × V)} {v : V} {R : V → Prop} (ha : H a = some (.ins C dx fs)) (c : Cls K C) (n : NoAttr K C f) (l : fs.lookup f = some v) (q : R v) :
    ∃ a' C dx fs v, V.ref a = .ref a' ∧ H a' = some (.ins C dx fs) ∧ Cls K C ∧ NoAttr K C f ∧ fs.lookup f = some v ∧ R v := ⟨a, C, dx, fs, v, rfl, ha, c, n, l, q⟩
theorem w_sfld (h : tv σ H fun y H1 => ta σ H1 fun x H2 => ∃ a C dx fs, x = .ref a ∧ H2 a = some (.ins C dx fs) ∧ Cls K C ∧ NoAttr K C f ∧ fs.length < 1000 ∧ D.nx σ (upd H2 a (.ins C dx (putF f y fs)))) : sFld K ta tv f D σ H := h
theorem w_sfld1 {a C dx : Addr} {fs fs' : List (Str × V)} {y : V} (ha : H a = some (.ins C dx fs)) (c : Cls K C) (n : NoAttr K C f) (e : putF f y fs = fs') (l : Nat.blt fs.length 1000 = true) (q : ∀ H', H' a = some (.ins C dx fs') → Keep a H H' → D.nx σ H') :
    ∃ a' C dx fs, V.ref a = .ref a' ∧ H a' = some (.ins C dx fs) ∧ Cls K C ∧ NoAttr K C f ∧ fs.length < 1000 ∧ D.nx σ (upd H a' (.ins C dx (putF f y fs))) :=
  ⟨a, C, dx, fs, rfl, ha, c, n, Nat.le_of_ble_eq_true l, q _ (by rw [e]; exact upd_same) keep_upd⟩
end
end Ob

/-! the reader, as plain functions: marks of a row, the parser of a row's terms, what terms tell -/
namespace Rd
open PySem

/-! ### signs and marks -/
abbrev one (c : Nat) : Str := ⟨#[c]⟩
def smallL : List Nat := ("abcdefghijklmnopqrstuvwxyz" : Str).cps.toList
def figL : List Nat := ("0123456789" : Str).cps.toList
def sgnL : List Nat := ("a0+-*/()[]<=," : Str).cps.toList
def kind (c : Nat) : Nat := if c ∈ figL then 48 else if c ∈ smallL then 97 else c
def glue' (k : Nat) : Option Nat := if k = 97 ∨ k = 48 then some k else none
/-- one sign more -/
def mkStep (st : List Str × Option Nat) (c : Nat) : Option (List Str × Option Nat) :=
  if st.2 = some (kind c) then some (st.1.dropLast ++ [st.1.getLastD "" ++ one c], glue' (kind c))
  else if kind c ∈ sgnL then some (st.1 ++ [one c], glue' (kind c))
  else if c = 32 then some (st.1, glue' (kind c)) else none
def scan (st : List Str × Option Nat) : List Nat → Option (List Str × Option Nat)
  | [] => some st
  | c :: r => (mkStep st c).bind fun st => scan st r
def marksM (l : List Nat) : Option (List Str) := (scan ([], none) l).bind fun st => if st.1 = [] ∨ 60 < st.1.length then none else some st.1
theorem scan_append (st : List Str × Option Nat) (l r : List Nat) : scan st (l ++ r) = (scan st l).bind fun st => scan st r := by
  induction l generalizing st with
  | nil => rfl
  | cons c l ih =>
    show (mkStep st c).bind _ = ((mkStep st c).bind _).bind _
    cases mkStep st c with
    | none => rfl
    | some st' => exact ih st'
def wordsL : List Str := ["def", "give", "row", "if", "else", "loop"]
def isName (m : Str) : Bool := decide (m ≠ "") && (decide (m.cps.toList.getD 0 0 ∈ smallL) && (decide (m.length ≤ 8) && !decide (m ∈ wordsL)))
/-- the number below a hundred whose text it is -/
def numVal (m : Str) : Option Nat := (List.range 100).find? fun n => decide (m = (toString n : Str))
/-- a mark is not empty, and figures follow figures -/
def MkOk (m : Str) : Prop := m ≠ "" ∧ (m.cps.toList.getD 0 0 ∈ figL → ∀ c ∈ m.cps.toList, c ∈ figL)

/-! ### what stands among the marks -/
theorem fig_small {c : Nat} (h : c ∈ figL) : c ∉ smallL := by
  have : ∀ x ∈ figL, x ∉ smallL := by decide +kernel
  exact this c h
theorem fig_lt {c : Nat} (h : c ∈ figL) : c < 128 := by
  have : ∀ x ∈ figL, x < 128 := by decide +kernel
  exact this c h
theorem small_lt {c : Nat} (h : c ∈ smallL) : c < 128 := by
  have : ∀ x ∈ smallL, x < 128 := by decide +kernel
  exact this c h
theorem sgn_lt {c : Nat} (h : c ∈ sgnL) : c < 128 := by
  have : ∀ x ∈ sgnL, x < 128 := by decide +kernel
  exact this c h
theorem kind_48 {c : Nat} (h : kind c = 48) : c ∈ figL := by
  unfold kind at h
  split at h
  · assumption
  · split at h
    · cases h
    · subst h
      decide +kernel
theorem kind_97 {c : Nat} (h : kind c = 97) : c ∈ smallL := by
  unfold kind at h
  split at h
  · cases h
  · split at h
    · assumption
    · subst h
      decide +kernel
theorem kind_lt {c : Nat} (h : kind c ∈ sgnL) : c < 128 := by
  by_cases h1 : c ∈ figL
  · exact fig_lt h1
  · by_cases h2 : c ∈ smallL
    · exact small_lt h2
    · unfold kind at h
      rw [if_neg h1, if_neg h2] at h
      exact sgn_lt h
theorem one_list (c : Nat) : (one c).cps.toList = [c] := rfl
theorem cat_list (a b : Str) : (a ++ b).cps.toList = a.cps.toList ++ b.cps.toList := by
  show (a.cps ++ b.cps).toList = _
  rw [Array.toList_append]
theorem one_ne (c : Nat) : one c ≠ "" := fun z => by
  have h : (1 : Nat) = 0 := congrArg (fun s : Str => s.cps.size) z
  cases h
theorem one_len (c : Nat) : (one c).length = 1 := rfl
theorem ne_list {m : Str} (h : m ≠ "") : m.cps.toList ≠ [] := fun z => h (by
  obtain ⟨a⟩ := m
  obtain ⟨l⟩ := a
  have : l = [] := z
  subst this
  rfl)
theorem list_ne {m : Str} (h : m.cps.toList ≠ []) : m ≠ "" := fun z => h (by
  subst z
  rfl)
structure SInv (n : Nat) (ms : List Str) (g : Option Nat) : Prop where
  sum : ms.length ≤ n
  len : ∀ m ∈ ms, m.length ≤ n
  asc : ∀ m ∈ ms, ∀ c ∈ m.cps.toList, c < 128
  ok : ∀ m ∈ ms, MkOk m
  gl : ∀ k, g = some k → ∃ r m, ms = r ++ [m] ∧ ((k = 48 ∧ ∀ c ∈ m.cps.toList, c ∈ figL) ∨ (k = 97 ∧ m.cps.toList.getD 0 0 ∈ smallL))
theorem SInv.nil : SInv 0 [] none := ⟨Nat.le_refl _, (fun m h => nomatch h), (fun m h => nomatch h), (fun m h => nomatch h), (fun k h => nomatch h)⟩
theorem glue_some {c k : Nat} (h : glue' (kind c) = some k) : kind c = k ∧ ((k = 48 ∧ c ∈ figL) ∨ (k = 97 ∧ c ∈ smallL)) := by
  unfold glue' at h
  split at h
  · rename_i h1
    cases h
    rcases h1 with h1 | h1
    · exact ⟨rfl, .inr ⟨h1, kind_97 h1⟩⟩
    · exact ⟨rfl, .inl ⟨h1, kind_48 h1⟩⟩
  · cases h
theorem getD_append {l r : List Nat} (h : l ≠ []) : (l ++ r).getD 0 0 = l.getD 0 0 := by
  cases l with
  | nil => exact absurd rfl h
  | cons a l => rfl
theorem SInv.step {n : Nat} {ms ms' : List Str} {g g' : Option Nat} {c : Nat} (h : SInv n ms g) (e : mkStep (ms, g) c = some (ms', g')) : SInv (n + 1) ms' g' := by
  unfold mkStep at e
  simp only at e
  split at e
  · rename_i hg
    obtain ⟨r, m, rfl, hk⟩ := h.gl _ hg
    have hm : m ∈ r ++ [m] := List.mem_append_right _ (List.mem_singleton.mpr rfl)
    have hne := ne_list (h.ok m hm).1
    cases e
    simp only [List.dropLast_concat, List.getLastD_concat]
    have hc : (kind c = 48 ∧ c ∈ figL) ∨ (kind c = 97 ∧ c ∈ smallL) := by
      rcases hk with ⟨hk, _⟩ | ⟨hk, _⟩
      · exact .inl ⟨hk, kind_48 hk⟩
      · exact .inr ⟨hk, kind_97 hk⟩
    have hlt : c < 128 := by
      rcases hc with ⟨_, z⟩ | ⟨_, z⟩
      · exact fig_lt z
      · exact small_lt z
    refine ⟨by
      have := h.sum
      simp only [List.length_append, List.length_singleton] at this ⊢
      omega, fun x hx => ?_, fun x hx => ?_, fun x hx => ?_, fun k hgk => ?_⟩
    · rcases List.mem_append.mp hx with hx | hx
      · have := h.len x (List.mem_append_left _ hx)
        omega
      · have e := List.mem_singleton.mp hx
        subst e
        have := h.len m hm
        have e2 : (m ++ one c).length = m.length + 1 := by
          rw [Str.length_append, one_len]
        omega
    · rcases List.mem_append.mp hx with hx | hx
      · exact h.asc x (List.mem_append_left _ hx)
      · have e := List.mem_singleton.mp hx
        subst e
        intro y hy
        rw [cat_list, one_list] at hy
        rcases List.mem_append.mp hy with hy | hy
        · exact h.asc m hm y hy
        · have e := List.mem_singleton.mp hy
          subst e
          exact hlt
    · rcases List.mem_append.mp hx with hx | hx
      · exact h.ok x (List.mem_append_left _ hx)
      · have e := List.mem_singleton.mp hx
        subst e
        refine ⟨list_ne (by
          rw [cat_list]
          exact fun z => hne (List.append_eq_nil_iff.mp z).1), fun hf => ?_⟩
        rw [cat_list, getD_append hne] at hf
        intro y hy
        rw [cat_list, one_list] at hy
        rcases hk with ⟨hk, ha⟩ | ⟨hk, ha⟩
        · rcases List.mem_append.mp hy with hy | hy
          · exact ha y hy
          · have e := List.mem_singleton.mp hy
            subst e
            exact kind_48 hk
        · exact absurd ha (fig_small hf)
    · obtain ⟨e1, e2⟩ := glue_some hgk
      refine ⟨r, m ++ one c, rfl, ?_⟩
      rcases hk with ⟨hk, ha⟩ | ⟨hk, ha⟩
      · refine .inl ⟨e1 ▸ hk, fun y hy => ?_⟩
        rw [cat_list, one_list] at hy
        rcases List.mem_append.mp hy with hy | hy
        · exact ha y hy
        · have e := List.mem_singleton.mp hy
          subst e
          exact kind_48 hk
      · refine .inr ⟨e1 ▸ hk, ?_⟩
        rw [cat_list, getD_append hne]
        exact ha
  · split at e
    · rename_i hs
      cases e
      refine ⟨by
        have := h.sum
        simp only [List.length_append, List.length_singleton] at this ⊢
        omega, fun x hx => ?_, fun x hx => ?_, fun x hx => ?_, fun k hgk => ?_⟩
      · rcases List.mem_append.mp hx with hx | hx
        · have := h.len x hx
          omega
        · have e := List.mem_singleton.mp hx
          subst e
          rw [one_len]
          omega
      · rcases List.mem_append.mp hx with hx | hx
        · exact h.asc x hx
        · have e := List.mem_singleton.mp hx
          subst e
          intro y hy
          rw [one_list] at hy
          have e := List.mem_singleton.mp hy
          subst e
          exact kind_lt hs
      · rcases List.mem_append.mp hx with hx | hx
        · exact h.ok x hx
        · have e := List.mem_singleton.mp hx
          subst e
          refine ⟨one_ne c, fun hf y hy => ?_⟩
          rw [one_list] at hy hf
          have e := List.mem_singleton.mp hy
          subst e
          exact hf
      · obtain ⟨e1, e2⟩ := glue_some hgk
        refine ⟨ms, one c, rfl, ?_⟩
        rcases e2 with ⟨e2, e3⟩ | ⟨e2, e3⟩
        · refine .inl ⟨e2, fun y hy => ?_⟩
          rw [one_list] at hy
          have e := List.mem_singleton.mp hy
          subst e
          exact e3
        · exact .inr ⟨e2, e3⟩
    · split at e
      · rename_i h32
        subst h32
        cases e
        exact ⟨Nat.le_succ_of_le h.sum, fun x hx => Nat.le_succ_of_le (h.len x hx), h.asc, h.ok, fun k hk => by
          revert hk
          have : glue' (kind 32) = none := by decide +kernel
          rw [this]
          intro hk
          cases hk⟩
      · cases e
theorem scan_inv : ∀ {l : List Nat} {n : Nat} {ms ms' : List Str} {g g' : Option Nat}, SInv n ms g → scan (ms, g) l = some (ms', g') → SInv (n + l.length) ms' g'
  | [], n, ms, ms', g, g', h, e => by
    cases e
    exact h
  | c :: l, n, ms, ms', g, g', h, e => by
    unfold scan at e
    cases e1 : mkStep (ms, g) c with
    | none =>
      rw [e1] at e
      cases e
    | some st =>
      rw [e1] at e
      have := scan_inv (h.step (ms' := st.1) (g' := st.2) e1) e
      rw [List.length_cons, Nat.add_comm l.length 1, ← Nat.add_assoc]
      exact this
/-- one sign more of a text -/
theorem scan_take {l : List Nat} {i c : Nat} (h : l[i]? = some c) (st : List Str × Option Nat) : scan st (l.take (i + 1)) = (scan st (l.take i)).bind fun st => mkStep st c := by
  have e : l.take (i + 1) = l.take i ++ [c] := by
    rw [List.take_add_one, h]
    rfl
  rw [e, scan_append]
  congr 1
  funext st'
  show (mkStep st' c).bind _ = _
  cases mkStep st' c <;> rfl
theorem scan_none {l : List Nat} {i : Nat} {st : List Str × Option Nat} (h : scan st (l.take i) = none) : scan st l = none := by
  have e : scan st l = scan st (l.take i ++ l.drop i) := by rw [List.take_append_drop]
  rw [e, scan_append, h]
  rfl

/-! ### names and numbers -/
def isNumb (m : Str) : Bool := decide (m ≠ "") && (decide (m.cps.toList.getD 0 0 ∈ figL) && (decide (m.length ≤ 2) && (decide (m = "0") || decide (m.cps.toList.getD 0 0 ≠ 48))))
theorem numVal_some {m : Str} {n : Nat} (h : numVal m = some n) : n < 100 ∧ m = (toString n : Str) := by
  have h1 := List.mem_of_find?_eq_some h
  have h2 := List.find?_some h
  exact ⟨List.mem_range.mp h1, of_decide_eq_true h2⟩
theorem isNumb_num : ∀ n, n < 100 → isNumb (toString n : Str) = true := by
  have h : ∀ n ∈ List.range 100, isNumb (toString n : Str) = true := by decide +kernel
  exact fun n hn => h n (List.mem_range.mpr hn)
theorem num_one : ∀ c ∈ figL, (numVal ⟨#[c]⟩).isSome = true := by decide +kernel
theorem num_two : ∀ c ∈ figL, ∀ d ∈ figL, c ≠ 48 → (numVal ⟨#[c, d]⟩).isSome = true := by decide +kernel
theorem numVal_isSome {m : Str} (ok : MkOk m) : (numVal m).isSome = isNumb m := by
  cases e : numVal m with
  | some n =>
    obtain ⟨hn, rfl⟩ := numVal_some e
    rw [isNumb_num n hn]
    rfl
  | none =>
    cases e2 : isNumb m with
    | false => rfl
    | true =>
      exfalso
      unfold isNumb at e2
      simp only [Bool.and_eq_true, Bool.or_eq_true, decide_eq_true_eq] at e2
      obtain ⟨h1, h2, h3, h4⟩ := e2
      have hf := ok.2 h2
      obtain ⟨⟨l⟩⟩ := m
      match l, h1, h2, h3, h4, hf, e with
      | [], h1, _, _, _, _, _ => exact h1 rfl
      | [c], _, h2, _, _, _, e =>
        have := num_one c h2
        have e' : numVal ⟨#[c]⟩ = none := e
        rw [e'] at this
        cases this
      | [c, d], _, h2, _, h4, hf, e =>
        have hc : c ≠ 48 := by
          rcases h4 with h4 | h4
          · have : ([c, d] : List Nat) = [48] := congrArg (fun s : Str => s.cps.toList) h4
            cases this
          · exact h4
        have := num_two c h2 d (hf d (by simp)) hc
        have e' : numVal ⟨#[c, d]⟩ = none := e
        rw [e'] at this
        cases this
      | _ :: _ :: _ :: _, _, _, h3, _, _, _ =>
        have : (3 : Nat) ≤ 2 := Nat.le_trans (by simp [Str.length]) h3
        omega

/-! ### terms -/
inductive T where
  | num (n : Nat)
  | kn (x : Str) (pl : Option (Str × Int))
  | bin (i : Nat) (a b : T)
deriving DecidableEq
def S4 (i : Nat) : Str := (["+", "-", "*", "/"] : List Str).getD i ""
def C4 (i : Nat) : Str := (["Sum", "Less", "Times", "Over"] : List Str).getD i ""
def rk (i : Nat) : Nat := if i < 2 then 1 else 2
namespace T
def rank : T → Nat
  | bin i _ _ => rk i
  | _ => 3
def leaves : T → Nat
  | bin _ a b => a.leaves + b.leaves
  | _ => 1
def depth : T → Nat
  | bin _ a b => max a.depth b.depth + 1
  | _ => 1
def plTold (p : Str × Int) : Str := if p.1 = "" then toString p.2 else if p.2 = 0 then p.1 else if p.2 < 0 then p.1 ++ " - " ++ (toString (0 - p.2) : Str) else p.1 ++ " + " ++ (toString p.2 : Str)
def brk (b : Bool) (s : Str) : Str := if b then ("(" : Str) ++ s ++ (")" : Str) else s
def told : T → Str
  | num n => toString (n : Int)
  | kn x none => x
  | kn x (some p) => x ++ "[" ++ plTold p ++ "]"
  | bin i a b => brk (decide (a.rank < rk i)) a.told ++ " " ++ S4 i ++ " " ++ brk (decide (b.rank < rk i + 1)) b.told
def bnd (t : T) (firm : Nat) : Str := brk (decide (t.rank < firm)) t.told
theorem depth_pos : ∀ t : T, 1 ≤ t.depth
  | num _ => Nat.le_refl _
  | kn _ _ => Nat.le_refl _
  | bin _ _ _ => Nat.le_add_left _ _
end T

/-! ### the parser of a row -/
section
variable (ms : List Str)
def now (p : Nat) : Str := ms.getD p ""
def must (x : Str) (p : Nat) : Option Nat := if now ms p = x then some (p + 1) else none
def rName (p : Nat) : Option (Str × Nat) := if isName (now ms p) = true then some (now ms p, p + 1) else none
def rWhole (lo hi : Nat) (p : Nat) : Option (Nat × Nat) := (numVal (now ms p)).bind fun n => if lo ≤ n ∧ n ≤ hi then some (n, p + 1) else none
def rPlace (p : Nat) : Option ((Str × Int) × Nat) :=
  if (numVal (now ms p)).isSome = true then (rWhole ms 0 99 p).bind fun q => some (("", (q.1 : Int)), q.2)
  else (rName ms p).bind fun q =>
    if now ms q.2 = "+" then (rWhole ms 0 99 (q.2 + 1)).bind fun z => some ((q.1, (z.1 : Int)), z.2)
    else if now ms q.2 = "-" then (rWhole ms 0 99 (q.2 + 1)).bind fun z => some ((q.1, 0 - (z.1 : Int)), z.2)
    else some ((q.1, 0), q.2)
def rKnown (p : Nat) : Option (T × Nat) := (rName ms p).bind fun q =>
  if now ms q.2 = "[" then (rPlace ms (q.2 + 1)).bind fun z => (must ms "]" z.2).bind fun p' => some (T.kn q.1 (some z.1), p') else some (T.kn q.1 none, q.2)
abbrev Ps := Nat → Option (T × Nat)
def rUnit (term : Option Ps) (p : Nat) : Option (T × Nat) :=
  if now ms p = "(" then term.bind fun f => (f (p + 1)).bind fun q => (must ms ")" q.2).bind fun p' => some (q.1, p')
  else if (numVal (now ms p)).isSome = true then (rWhole ms 0 99 p).bind fun q => some (T.num q.1, q.2)
  else rKnown ms p
/-- the loop of signs s1, s2 (their numbers i, i + 1) over operands f -/
def lp (i : Nat) (f : Ps) : Nat → T → Nat → Option (T × Nat)
  | 0, t, p => some (t, p)
  | n + 1, t, p => if now ms p = S4 i then (f (p + 1)).bind fun q => lp i f n (T.bin i t q.1) q.2
    else if now ms p = S4 (i + 1) then (f (p + 1)).bind fun q => lp i f n (T.bin (i + 1) t q.1) q.2
    else some (t, p)
def chain (i : Nat) (f : Ps) (p : Nat) : Option (T × Nat) := (f p).bind fun q => lp ms i f (ms.length + 1) q.1 q.2
def rProd (term : Option Ps) : Ps := chain ms 2 (rUnit ms term)
def rTermW (term : Option Ps) : Ps := chain ms 0 (rProd ms term)
/-- with so many brackets left -/
def rTerm : Nat → Ps
  | 0 => rTermW ms none
  | k + 1 => rTermW ms (some (rTerm k))
def inner : Nat → Option Ps
  | 0 => none
  | k + 1 => some (rTerm ms k)
theorem rTerm_eq (k : Nat) : rTerm ms k = rTermW ms (inner ms k) := by cases k <;> rfl
/-- a parser goes on -/
def Mono (f : Ps) : Prop := ∀ p t p', f p = some (t, p') → p < p'
variable {ms}
theorem now_none {p : Nat} (h : ms.length ≤ p) : now ms p = "" := by
  unfold now
  rw [List.getD_eq_getElem?_getD, List.getElem?_eq_none h]
  rfl
theorem now_lt {p : Nat} (h : now ms p ≠ "") : p < ms.length := by
  by_cases hp : p < ms.length
  · exact hp
  · exact absurd (now_none (by omega)) h
theorem must_lt {x : Str} {p p' : Nat} (h : must ms x p = some p') : p' = p + 1 ∧ now ms p = x := by
  unfold must at h
  split at h
  · rename_i e
    cases h
    exact ⟨rfl, e⟩
  · cases h
theorem rName_lt {p p' : Nat} {x : Str} (h : rName ms p = some (x, p')) : p' = p + 1 := by
  unfold rName at h
  split at h
  · cases h
    rfl
  · cases h
theorem rWhole_lt {lo hi p p' n : Nat} (h : rWhole ms lo hi p = some (n, p')) : p' = p + 1 := by
  unfold rWhole at h
  cases e : numVal (now ms p) with
  | none =>
    rw [e] at h
    cases h
  | some m =>
    rw [e] at h
    simp only [Option.bind_some] at h
    split at h
    · cases h
      rfl
    · cases h
theorem rPlace_lt {p p' : Nat} {x : Str × Int} (h : rPlace ms p = some (x, p')) : p < p' := by
  unfold rPlace at h
  split at h
  · cases e : rWhole ms 0 99 p with
    | none =>
      rw [e] at h
      cases h
    | some q =>
      rw [e] at h
      have := rWhole_lt (n := q.1) (p' := q.2) e
      cases h
      omega
  · cases e : rName ms p with
    | none =>
      rw [e] at h
      cases h
    | some q =>
      rw [e] at h
      have h1 := rName_lt (x := q.1) (p' := q.2) e
      simp only [Option.bind_some] at h
      split at h
      · cases e2 : rWhole ms 0 99 (q.2 + 1) with
        | none =>
          rw [e2] at h
          cases h
        | some z =>
          rw [e2] at h
          have := rWhole_lt (n := z.1) (p' := z.2) e2
          cases h
          omega
      · split at h
        · cases e2 : rWhole ms 0 99 (q.2 + 1) with
          | none =>
            rw [e2] at h
            cases h
          | some z =>
            rw [e2] at h
            have := rWhole_lt (n := z.1) (p' := z.2) e2
            cases h
            omega
        · cases h
          omega
theorem rKnown_mono : Mono (rKnown ms) := by
  intro p t p' h
  unfold rKnown at h
  cases e : rName ms p with
  | none =>
    rw [e] at h
    cases h
  | some q =>
    rw [e] at h
    have h1 := rName_lt (x := q.1) (p' := q.2) e
    simp only [Option.bind_some] at h
    split at h
    · cases e2 : rPlace ms (q.2 + 1) with
      | none =>
        rw [e2] at h
        cases h
      | some z =>
        rw [e2] at h
        have h2 := rPlace_lt (x := z.1) (p' := z.2) e2
        simp only [Option.bind_some] at h
        cases e3 : must ms "]" z.2 with
        | none =>
          rw [e3] at h
          cases h
        | some p3 =>
          rw [e3] at h
          have := (must_lt e3).1
          cases h
          omega
    · cases h
      omega
theorem rUnit_mono {term : Option Ps} (ht : ∀ f, term = some f → Mono f) : Mono (rUnit ms term) := by
  intro p t p' h
  unfold rUnit at h
  split at h
  · cases e : term with
    | none =>
      rw [e] at h
      cases h
    | some f =>
      rw [e] at h
      simp only [Option.bind_some] at h
      cases e2 : f (p + 1) with
      | none =>
        rw [e2] at h
        cases h
      | some q =>
        rw [e2] at h
        have h2 := ht f e (p + 1) q.1 q.2 e2
        simp only [Option.bind_some] at h
        cases e3 : must ms ")" q.2 with
        | none =>
          rw [e3] at h
          cases h
        | some p3 =>
          rw [e3] at h
          have := (must_lt e3).1
          cases h
          omega
  · split at h
    · cases e : rWhole ms 0 99 p with
      | none =>
        rw [e] at h
        cases h
      | some q =>
        rw [e] at h
        have := rWhole_lt (n := q.1) (p' := q.2) e
        cases h
        omega
    · exact rKnown_mono p t p' h
theorem lp_le {i : Nat} {f : Ps} (hf : Mono f) : ∀ (n : Nat) (t : T) (p : Nat) (t' : T) (p' : Nat), lp ms i f n t p = some (t', p') → p ≤ p'
  | 0, t, p, t', p', h => by
    cases h
    exact Nat.le_refl _
  | n + 1, t, p, t', p', h => by
    unfold lp at h
    split at h
    · cases e : f (p + 1) with
      | none =>
        rw [e] at h
        cases h
      | some q =>
        rw [e] at h
        have h1 := hf (p + 1) q.1 q.2 e
        have h2 := lp_le hf n _ _ _ _ h
        omega
    · split at h
      · cases e : f (p + 1) with
        | none =>
          rw [e] at h
          cases h
        | some q =>
          rw [e] at h
          have h1 := hf (p + 1) q.1 q.2 e
          have h2 := lp_le hf n _ _ _ _ h
          omega
      · cases h
        exact Nat.le_refl _
theorem chain_mono {i : Nat} {f : Ps} (hf : Mono f) : Mono (chain ms i f) := by
  intro p t p' h
  unfold chain at h
  cases e : f p with
  | none =>
    rw [e] at h
    cases h
  | some q =>
    rw [e] at h
    have h1 := hf p q.1 q.2 e
    have h2 := lp_le hf _ _ _ _ _ h
    omega
theorem rTerm_mono : ∀ k, Mono (rTerm ms k)
  | 0 => chain_mono (chain_mono (rUnit_mono fun _ h => by cases h))
  | k + 1 => chain_mono (chain_mono (rUnit_mono fun f h => by
      cases h
      exact rTerm_mono k))
theorem inner_mono (k : Nat) (f : Ps) (h : inner ms k = some f) : Mono f := by
  cases k with
  | zero => cases h
  | succ k =>
    cases h
    exact rTerm_mono k
theorem unit_mono (k : Nat) : Mono (rUnit ms (inner ms k)) := rUnit_mono (inner_mono k)
theorem prod_mono (k : Nat) : Mono (rProd ms (inner ms k)) := chain_mono (unit_mono k)
theorem S4_ne {i : Nat} (hi : i < 4) : S4 i ≠ "" := by
  have h : i = 0 ∨ i = 1 ∨ i = 2 ∨ i = 3 := by omega
  rcases h with rfl | rfl | rfl | rfl <;> decide
/-- enough turns are enough -/
theorem lp_enough {i : Nat} (hi : i < 3) {f : Ps} (hf : Mono f) : ∀ (n m : Nat) (t : T) (p : Nat), ms.length < n + p → ms.length < m + p → lp ms i f n t p = lp ms i f m t p
  | 0, 0, _, _, _, _ => rfl
  | 0, m + 1, t, p, h1, _ => by
    have e : now ms p = "" := now_none (by omega)
    unfold lp
    rw [e, if_neg (Ne.symm (S4_ne (by omega))), if_neg (Ne.symm (S4_ne (by omega)))]
  | n + 1, 0, t, p, _, h2 => by
    have e : now ms p = "" := now_none (by omega)
    unfold lp
    rw [e, if_neg (Ne.symm (S4_ne (by omega))), if_neg (Ne.symm (S4_ne (by omega)))]
  | n + 1, m + 1, t, p, h1, h2 => by
    unfold lp
    split
    · cases e : f (p + 1) with
      | none => rfl
      | some q =>
        have := hf (p + 1) q.1 q.2 e
        exact lp_enough hi hf n m _ _ (by omega) (by omega)
    · split
      · cases e : f (p + 1) with
        | none => rfl
        | some q =>
          have := hf (p + 1) q.1 q.2 e
          exact lp_enough hi hf n m _ _ (by omega) (by omega)
      · rfl
/-- the loop's turns -/
def lpF (ms : List Str) (i : Nat) (f : Ps) (t : T) (p : Nat) : Option (T × Nat) := lp ms i f (ms.length + 1) t p
theorem lpF_one {i : Nat} (hi : i < 3) {f : Ps} (hf : Mono f) {t : T} {p : Nat} (h : now ms p = S4 i) : lpF ms i f t p = (f (p + 1)).bind fun q => lpF ms i f (T.bin i t q.1) q.2 := by
  unfold lpF
  rw [lp, if_pos h]
  cases e : f (p + 1) with
  | none => rfl
  | some q =>
    have := hf (p + 1) q.1 q.2 e
    exact lp_enough hi hf _ _ _ _ (by omega) (by omega)
theorem lpF_two {i : Nat} (hi : i < 3) {f : Ps} (hf : Mono f) {t : T} {p : Nat} (hn : now ms p ≠ S4 i) (h : now ms p = S4 (i + 1)) : lpF ms i f t p = (f (p + 1)).bind fun q => lpF ms i f (T.bin (i + 1) t q.1) q.2 := by
  unfold lpF
  rw [lp, if_neg hn, if_pos h]
  cases e : f (p + 1) with
  | none => rfl
  | some q =>
    have := hf (p + 1) q.1 q.2 e
    exact lp_enough hi hf _ _ _ _ (by omega) (by omega)
theorem lpF_end {i : Nat} {f : Ps} {t : T} {p : Nat} (h1 : now ms p ≠ S4 i) (h2 : now ms p ≠ S4 (i + 1)) : lpF ms i f t p = some (t, p) := by
  unfold lpF
  rw [lp, if_neg h1, if_neg h2]
end
end Rd

/-! texts over the hand layer, in named readings -/
namespace Tx
open PySem PySem.Spec PyProof.Rows L2 Fw
section
variable {X : Cx} {K : PySem.W.Frag}
def rInSg : R2 := fun x y H Q => ∃ (c : Nat) (z : Str), x = .str ⟨#[c]⟩ ∧ y = .str z ∧ Q (.bl (decide (c ∈ z.cps.toList))) H
theorem o_inSg : OpR X (compareOp .In) rInSg := op_in_sign
def rNinSg : R2 := fun x y H Q => ∃ (c : Nat) (z : Str), x = .str ⟨#[c]⟩ ∧ y = .str z ∧ Q (.bl (!decide (c ∈ z.cps.toList))) H
theorem o_ninSg : OpR X (compareOp .NotIn) rNinSg := op_notIn_sign
theorem o_inT (h : X.K = K) : OpR X (compareOp .In) (rIn K false) := h ▸ op_in_seq
theorem o_ninT (h : X.K = K) : OpR X (compareOp .NotIn) (rIn K true) := h ▸ op_notIn_seq
def rLenT : List V → Hp → VK → Prop := fun xs H Q => ∃ z, xs = [.str z] ∧ z.length ≤ sizeLine ∧ Q (.int z.length) H
theorem c_lenT : CallR X (.builtin "len") rLenT := call_len_str
def rIntS : List V → Hp → VK → Prop := fun xs H Q => ∃ a n, xs = [.str a] ∧ PySem.intText? a = some n ∧ a.length ≤ 640 ∧ Q (.int n) H
theorem c_intS : CallR X (.type "int") rIntS := call_int_str
def rSplit : V → List V → Hp → VK → Prop := fun x xs H Q => ∃ a b, x = .str a ∧ xs = [.str b] ∧ (b.length == 0) = false ∧ a.length + 2 ≤ sizeLine ∧ rNewStrs (Txt.split a b) H Q
theorem m_split : MtR X "str.split" rSplit := mt_split
def rJoin (K : PySem.W.Frag) : V → List V → Hp → VK → Prop := fun x xs H Q => ∃ a p, ∃ ys : List Str, x = .str a ∧ xs = [.ref p] ∧ (SqL K H p (ys.map V.str) ∨ SqT K H p (ys.map V.str)) ∧ (ys.map (·.length)).sum + ys.length * a.length ≤ 16777216 ∧ Q (.str (Txt.join a ys)) H
theorem m_join (h : X.K = K) : MtR X "str.join" (rJoin K) := h ▸ mt_join
def rLstrip : V → List V → Hp → VK → Prop := fun x xs H Q => ∃ a b, x = .str a ∧ xs = [.str b] ∧ a.length ≤ sizeLine ∧ Q (.str (Txt.lstripChars a b)) H
theorem m_lstrip : MtR X "str.lstrip" rLstrip := mt_lstripChars
def rMulS : R2 := fun x y H Q => ∃ (z : Str) (n : Int), x = .str z ∧ y = .int n ∧ z.length ≤ 1000 ∧ 0 ≤ n ∧ n ≤ 1000 ∧ Q (.str (Txt.mul z n)) H
theorem o_mulS : OpR X (binaryOp .Mult) rMulS := by
  intro pins s σ H x y v u Q I rx ry h
  obtain ⟨z, n, rfl, rfl, hz, h0, h1, q⟩ := h
  obtain ⟨t, rfl⟩ := rx
  obtain ⟨t', rfl⟩ := ry
  have ok : MulOk z n := by
    refine ⟨by
      have e1 : decide (n < -(2 ^ 63 : Int)) = false := decide_eq_false (by omega)
      have e2 : decide (n ≥ 2 ^ 63) = false := decide_eq_false (by omega)
      rw [e1, e2]
      rfl, fun hn _ => ?_, fun hn _ => ?_⟩
    · have : (1000 : Int) ≤ (2 ^ 63 - 1) / n := by
        rw [Int.le_ediv_iff_mul_le (by omega)]
        omega
      omega
    · have hm : z.length * n.toNat ≤ 1000 * 1000 := Nat.mul_le_mul hz (by omega)
      unfold Builtin.Str.tooLong
      have sl : sizeLine = 16777216 := sizeLine_eq
      simp only [decide_eq_false_iff_not]
      omega
  exact PySem.SB.mul ok fun t' k => ⟨.str (Txt.mul z n), H, I.tok _, ⟨t', rfl⟩, q⟩
end
section
variable {K : PySem.W.Frag} {σ : L2.St} {H : Hp} {Q : VK} {to te : TE} {D : Ends} {g : TG} {t : TS}
theorem w_inSg {c : Nat} {z : Str} (q : Q (.bl (decide (c ∈ z.cps.toList))) H) : rInSg (.str ⟨#[c]⟩) (.str z) H Q := ⟨c, z, rfl, rfl, q⟩
theorem w_ninSg {c : Nat} {z : Str} (q : Q (.bl (!decide (c ∈ z.cps.toList))) H) : rNinSg (.str ⟨#[c]⟩) (.str z) H Q := ⟨c, z, rfl, rfl, q⟩
theorem w_lenT {z : Str} (h : z.length ≤ sizeLine) (q : Q (.int z.length) H) : rLenT [.str z] H Q := ⟨z, rfl, h, q⟩
theorem w_intS {a : Str} {n : Int} (h : PySem.intText? a = some n) (hl : a.length ≤ 640) (q : Q (.int n) H) : rIntS [.str a] H Q := ⟨a, n, rfl, h, hl, q⟩
theorem w_m1 {r : V → List V → Hp → VK → Prop} (h : to σ H fun x H1 => (∃ a, x = .str a) ∧ te σ H1 fun y H2 => r x [y] H2 Q) : tM1 r to te σ H Q := h
theorem w_isS {a : Str} {C : Prop} (q : C) : (∃ b, V.str a = .str b) ∧ C := ⟨⟨a, rfl⟩, q⟩
theorem w_split {a b : Str} (hb : (b.length == 0) = false) (hl : a.length + 2 ≤ sizeLine) (q : ∀ p H', H p = none → H' p = some (.lst ((Txt.split a b).map V.str)) → Same H H' → Q (.ref p) H') : rSplit (.str a) [.str b] H Q :=
  ⟨a, b, rfl, rfl, hb, hl, fun p hp => q p _ hp upd_same (same_upd hp)⟩
theorem w_join {a : Str} {p : Addr} {ys : List Str} (h : SqL K H p (ys.map V.str)) (hl : (ys.map (·.length)).sum + ys.length * a.length ≤ 16777216) (q : Q (.str (Txt.join a ys)) H) : rJoin K (.str a) [.ref p] H Q := ⟨a, p, ys, rfl, rfl, .inl h, hl, q⟩
theorem w_lstrip {a b : Str} (h : a.length ≤ sizeLine) (q : Q (.str (Txt.lstripChars a b)) H) : rLstrip (.str a) [.str b] H Q := ⟨a, b, rfl, rfl, h, q⟩
theorem w_mulS {z : Str} {n : Int} (hz : z.length ≤ 1000) (h0 : 0 ≤ n) (h1 : n ≤ 1000) (q : Q (.str (Txt.mul z n)) H) : rMulS (.str z) (.int n) H Q := ⟨z, n, rfl, rfl, hz, h0, h1, q⟩
theorem w_ixS {z : Str} {i : Int} {c : Nat} (hz : z.length ≤ sizeLine) (h : atI z.cps.toList i = some c) (q : Q (.str ⟨#[c]⟩) H) : rIxS (.str z) (.int i) H Q := ⟨z, i, c, rfl, rfl, hz, h, q⟩
theorem w_bm0 {T : String} {r : V → List V → Hp → VK → Prop} (h : to σ H fun x H1 => tyV K T x H1 ∧ r x [] H1 Q) : tBM0 K T r to σ H Q := h
theorem w_pop {l : Addr} {xs : List V} {y : V} (h : H l = some (.lst (xs ++ [y]))) (q : ∀ H1, H1 l = some (.lst xs) → Keep l H H1 → Q y H1) : rPop (.ref l) [] H Q :=
  ⟨l, xs ++ [y], y, rfl, rfl, h, by simp, by
    rw [List.dropLast_concat]
    exact q _ upd_same keep_upd⟩
theorem w_chain {r r' : R2} {tc : TE} (h : to σ H fun x H1 => te σ H1 fun y H2 => r x y H2 fun z H3 => ∃ k, z = .bl k ∧ (if k = true then tc σ H3 fun w' H4 => r' y w' H4 Q else Q (.bl false) H3)) : tChain r r' to te tc σ H Q := h
theorem w_iS {R : It → Hp → Prop} (h : to σ H fun v H1 => ∃ x, v = .str x ∧ R (Its x) H1) : iStr to σ H R := h
/-- for c in a text -/
theorem forS {z : Str} (Pv : Nat → L2.St → Hp → Prop) (h0 : Pv 0 σ H)
    (hs : ∀ i c σ H, z.cps[i]? = some c → Pv i σ H → g (.str ⟨#[c]⟩) σ H fun σ2 H2 => t { nx := Pv (i + 1), rt := D.rt, ct := Pv (i + 1), bk := D.nx } σ2 H2) (hd : ∀ σ H, Pv z.cps.size σ H → D.nx σ H) :
    ∃ x, V.str z = .str x ∧ ForR (Its x) g t D σ H := by
  refine ⟨z, rfl, ?_⟩
  refine ⟨fun i m σ H => m = z.cps.size - i ∧ i ≤ z.cps.size ∧ Pv i σ H, ⟨_, rfl, Nat.zero_le _, h0⟩, fun i m σ H h => ?_⟩
  obtain ⟨rfl, hi, p⟩ := h
  by_cases h : i = z.cps.size
  · subst h
    exact .inl ⟨Nat.le_refl _, hd _ _ p⟩
  · refine .inr ⟨by show i < z.cps.size; omega, Pv (i + 1), fun σ' H' q => ⟨z.cps.size - (i + 1), by omega, rfl, by omega, q⟩, fun x H' hy => ?_⟩
    obtain ⟨rfl, c, hc, rfl⟩ := hy
    exact hs i c σ H' hc p
/-- xs == [] for a list of texts -/
theorem dpAll_strs {H : Hp} : ∀ ys : List Str, DpAll K H (ys.map V.str) (ys.map PyData.str)
  | [] => .nil
  | y :: ys => .cons (.str y) (dpAll_strs ys)
theorem lay_strs : ∀ ys : List Str, (∀ y ∈ ys, PyData.strOk y = true) → PyData.canLayAll0 (ys.map PyData.str) = true ∧ PyData.depthAll (ys.map PyData.str) ≤ 1
  | [], _ => ⟨by simp [PyData.canLayAll0], by simp [PyData.depthAll]⟩
  | y :: ys, h => by
    obtain ⟨h1, h2⟩ := lay_strs ys fun z hz => h z (List.mem_cons_of_mem _ hz)
    refine ⟨by simp [PyData.canLayAll0, PyData.canLay0, h1, h y List.mem_cons_self], ?_⟩
    have e : PyData.depth (.str y) ≤ 1 := by simp [PyData.depth]
    simp only [List.map_cons, PyData.depthAll]
    omega
theorem w_eqNil {p q : Addr} {ys : List Str} (hp : SqL K H p (ys.map V.str)) (hq : SqL K H q []) (ho : ∀ y ∈ ys, PyData.strOk y = true) (k : Q (.bl (decide (ys = []))) H) : rEqD K (.ref p) (.ref q) H Q := by
  obtain ⟨h1, h2⟩ := lay_strs ys ho
  refine ⟨_, _, .lst hp (dpAll_strs ys), .lst hq .nil, ?_, by rfl, ?_⟩
  · unfold SeqAt.shaped
    have e : PyData.depth (.list (ys.map PyData.str)) = PyData.depthAll (ys.map PyData.str) + 1 := by simp [PyData.depth]
    have e2 : PyData.canLay0 (.list (ys.map PyData.str)) = true := by simp [PyData.canLay0, h1]
    rw [e, e2, Bool.true_and, decide_eq_true_eq]
    omega
  · have e : PyData.eqv (.list (ys.map PyData.str)) (.list []) = decide (ys = []) := by
      cases ys with
      | nil => simp [PyData.eqv, PyData.eqvAll]
      | cons y ys => simp [PyData.eqv, PyData.eqvAll]
    rw [e]
    exact k
theorem eqV_str {a b : Str} : eqV (.str a) (.str b) = decide (a = b) := by
  by_cases h : a = b
  · subst h
    simp [eqV]
  · simp [eqV, h]
theorem inV_strs {m : Str} : ∀ ys : List Str, inV (.str m) (ys.map V.str) = decide (m ∈ ys)
  | [] => by simp [inV]
  | y :: ys => by
    have ih := inV_strs (m := m) ys
    unfold inV at ih ⊢
    rw [List.map_cons, List.any_cons, ih, eqV_str]
    by_cases h : y = m
    · subst h
      simp
    · have h' : ¬ m = y := fun z => h z.symm
      simp [h, h']
theorem flat_strs : ∀ ys : List Str, (ys.map V.str).all flatV = true
  | [] => rfl
  | _ :: ys => by
    rw [List.map_cons, List.all_cons, flat_strs ys]
    rfl
theorem w_inT {p : Addr} {m : Str} {ys : List Str} (h : SqT K H p (ys.map V.str)) (q : Q (.bl (decide (m ∈ ys))) H) : rIn K false (.str m) (.ref p) H Q := ⟨p, _, rfl, .inr h, rfl, flat_strs ys, by
  rw [inV_strs]
  exact q⟩
theorem w_ninT {p : Addr} {m : Str} {ys : List Str} (h : SqT K H p (ys.map V.str)) (q : Q (.bl (!decide (m ∈ ys))) H) : rIn K true (.str m) (.ref p) H Q := ⟨p, _, rfl, .inr h, rfl, flat_strs ys, by
  rw [inV_strs]
  exact q⟩
end
/-! ### a tuple of texts of the module -/
def strHd : Value → Option Str
  | .str x _ => some x
  | _ => none
theorem strHd_ok {v : Value} {y : Str} (h : strHd v = some y) : ∃ t, v = .str y t := by
  cases v with
  | str x t =>
    cases h
    exact ⟨t, rfl⟩
  | _ => cases h
def strsB : List Value → List Str → Bool
  | [], [] => true
  | v :: r, y :: ys => decide (strHd v = some y) && strsB r ys
  | _, _ => false
theorem strsB_ok : ∀ {vs : List Value} {ys : List Str}, strsB vs ys = true → Vals (ys.map V.str) vs
  | [], [], _ => .nil
  | v :: r, y :: ys, h => by
    obtain ⟨h1, h2⟩ := Bool.and_eq_true_iff.mp h
    obtain ⟨t, rfl⟩ := strHd_ok (of_decide_eq_true h1)
    exact .cons ⟨t, rfl⟩ (strsB_ok h2)
  | [], _ :: _, h => by cases h
  | _ :: _, [], h => by cases h
def tupB (K : PySem.W.Frag) (x : Str) (ys : List Str) : Bool := match K.lookup (He.ga K x) with
  | some ⟨.type c, _, .seq its _, _⟩ => decide (c = "tuple") && (strsB its.toList ys && decide (its.size ≤ 1000))
  | _ => false
theorem tupB_ok {K : PySem.W.Frag} {x : Str} {ys : List Str} (h : tupB K x ys = true) (H : Hp) : SqT K H (He.ga K x) (ys.map V.str) := by
  unfold tupB at h
  split at h
  · rename_i c d its n sl e
    obtain ⟨h1, h2⟩ := Bool.and_eq_true_iff.mp h
    obtain ⟨h3, h4⟩ := Bool.and_eq_true_iff.mp h2
    have ec := of_decide_eq_true h1
    subst ec
    exact .inr ⟨_, its, n, e, rfl, rfl, Nat.le_trans (of_decide_eq_true h4) (by decide), strsB_ok h3⟩
  · cases h
end Tx

/-! a list that is locked from now on; xs == [] whatever xs holds -/
namespace Lk
open PySem PySem.Spec PyProof.Rows L2 Fw
/-- a locked list -/
def FrL (H : Hp) (a : Addr) (xs : List V) : Prop := ∃ o, H a = some (.frz o (.lst xs))
theorem FrL.sql {K : PySem.W.Frag} {H : Hp} {a : Addr} {xs : List V} (h : FrL H a xs) : SqL K H a xs := .inl (.inr h)
theorem FrL.same {H H' : Hp} {a : Addr} {xs : List V} (h : FrL H a xs) (s : Same H H') : FrL H' a xs := let ⟨o, e⟩ := h; ⟨o, s _ _ e⟩
theorem FrL.keep {H H' : Hp} {d a : Addr} {xs : List V} (h : FrL H a xs) (k : Keep d H H') (n : a ≠ d) : FrL H' a xs := let ⟨o, e⟩ := h; ⟨o, k _ _ n e⟩
def LkQ (Q : VK) : VK := fun v H => ∃ a xs, v = .ref a ∧ H a = some (.lst xs) ∧ ∀ H', FrL H' a xs → Keep a H H' → Q v H'
def tLk (te : TE) : TE := fun σ H Q => te σ H (LkQ Q)
theorem pe_lk {X : Cx} {e : Expr} {te : TE} (h : PE X e te) : PE X e (tLk te) := by
  refine ⟨fun pins s σ H Q I hq => thn (h.run pins s σ H _ I hq) fun u s1 ⟨v, H1, I1, rv, a, xs, ev, e1, q⟩ => ?_⟩
  obtain ⟨od, I2⟩ := I1.lock e1 trivial
  exact ⟨v, _, I2, rv, q _ ⟨od, upd_same⟩ keep_upd⟩
theorem w_lk {te : TE} {σ : L2.St} {H : Hp} {Q : VK} (h : te σ H (LkQ Q)) : tLk te σ H Q := h
theorem lkL {a : Addr} {xs : List V} {H : Hp} {Q : VK} (e : H a = some (.lst xs)) (q : ∀ H', FrL H' a xs → Keep a H H' → Q (.ref a) H') : LkQ Q (.ref a) H := ⟨a, xs, rfl, e, q⟩
/-! ### xs == [] -/
def rEqN (K : PySem.W.Frag) : R2 := fun x y H Q => ∃ a b xs, x = .ref a ∧ y = .ref b ∧ SqL K H a xs ∧ SqL K H b [] ∧ Q (.bl (decide (xs = []))) H
def rNeN (K : PySem.W.Frag) : R2 := fun x y H Q => ∃ a b xs, x = .ref a ∧ y = .ref b ∧ SqL K H a xs ∧ SqL K H b [] ∧ Q (.bl (!decide (xs = []))) H
section
variable {X : Cx} {K : PySem.W.Frag}
theorem op_eqN (h : X.K = K) (hu : X.A.units + 64 < cLine) : OpR X (compareOp .Eq) (rEqN K) := by
  subst h
  intro pins s σ H x y v u Q I rx ry h
  obtain ⟨a, b, xs, rfl, rfl, ha, hb, q⟩ := h
  cases (show v = Value.ref a from rx)
  cases (show u = Value.ref b from ry)
  obtain ⟨us, r1, p1, _⟩ := I.list ha
  obtain ⟨ws, r2, p2, _⟩ := I.list hb
  have e2 : ws = [] := by cases r2; rfl
  subst e2
  cases xs with
  | nil =>
    have e1 : us = [] := by cases r1; rfl
    subst e1
    exact SeqAt.eq_listAt (e := fun _ => true) p1.isList p2.isList rfl (by omega) (fun j h1 _ => absurd h1 (by simp)) ⟨.bl true, H, I, rfl, by simpa using q⟩
  | cons z zs =>
    refine SeqAt.eq_list_lengthsAt p1.isList p2.isList ?_ (by omega) ⟨.bl false, H, I, rfl, by simpa using q⟩
    have := r1.length
    simp only [List.length_cons] at this
    simp only [List.size_toArray, List.length_nil, bne_iff_ne, ne_eq]
    omega
theorem op_neN (h : X.K = K) (hu : X.A.units + 64 < cLine) : OpR X (compareOp .NotEq) (rNeN K) := by
  subst h
  intro pins s σ H x y v u Q I rx ry h
  obtain ⟨a, b, xs, rfl, rfl, ha, hb, q⟩ := h
  cases (show v = Value.ref a from rx)
  cases (show u = Value.ref b from ry)
  obtain ⟨us, r1, p1, _⟩ := I.list ha
  obtain ⟨ws, r2, p2, _⟩ := I.list hb
  have e2 : ws = [] := by cases r2; rfl
  subst e2
  cases xs with
  | nil =>
    have e1 : us = [] := by cases r1; rfl
    subst e1
    exact SeqAt.RcNeAt.lists (e := fun _ => true) p1.isList p2.isList rfl (by omega) (fun j h1 _ => absurd h1 (by simp)) _ _ _ _ ⟨.bl false, H, I, rfl, by simpa using q⟩
  | cons z zs =>
    refine SeqAt.RcNeAt.lists_lengths p1.isList p2.isList ?_ (by omega) _ _ _ _ ⟨.bl true, H, I, rfl, by simpa using q⟩
    have := r1.length
    simp only [List.length_cons] at this
    simp only [List.size_toArray, List.length_nil, bne_iff_ne, ne_eq]
    omega
end
section
variable {K : PySem.W.Frag} {H : Hp} {Q : VK}
theorem w_eqN {a b : Addr} {xs : List V} (ha : SqL K H a xs) (hb : SqL K H b []) (q : Q (.bl (decide (xs = []))) H) : rEqN K (.ref a) (.ref b) H Q := ⟨a, b, xs, rfl, rfl, ha, hb, q⟩
theorem w_neN {a b : Addr} {xs : List V} (ha : SqL K H a xs) (hb : SqL K H b []) (q : Q (.bl (!decide (xs = []))) H) : rNeN K (.ref a) (.ref b) H Q := ⟨a, b, xs, rfl, rfl, ha, hb, q⟩
end
/-! ### comprehensions by place; calls in them -/
theorem passF {X : Cx} : Passes (L2N.CX X.prog X.w) X (fun _ _ _ => False) := fun _ _ _ _ _ _ _ h => by
  obtain ⟨_, _, _, _, _, _, _, _, _, _, _, _, z⟩ := h
  exact z.elim
section
variable {K : PySem.W.Frag} {H : Hp} {Q : VK} {σ : L2.St} {te : TE}
theorem lcLi {a : Addr} {xs : List V} {m : Nat} {vs : List Nat} (f : Nat → V) (hx : SqL K H a xs) (hn : xs.length ≤ 100000) (hv : ∀ (i : Nat) (x : V) H2 (Q' : VK), xs[i]? = some x → Same H H2 → Q' (f i) H2 → te ((wipe σ vs).set m (some x)) H2 Q') (hw : ∀ x, wipe ((wipe σ vs).set m (some x)) vs = wipe σ vs)
    (q : ∀ D H2, H D = none → H2 D = some (.lst ((List.range xs.length).map f)) → Same H H2 → Q (.ref D) H2) : ItL K (fun J H1 => LcR J (gName m) tYes te vs σ Q H1) (.ref a) H := by
  refine ⟨a, rfl, ⟨xs, hx⟩, fun D nD => ?_⟩
  refine lc_list (xs := xs) (fun i H' => Same H H' ∧ H' D = some (.lst ((List.range i).map f))) ⟨same_upd nD, upd_same⟩ (fun i H' _ ⟨s1, _⟩ => s1.seq hx) (fun i x H' hi ⟨s1, e1⟩ => ?_) (fun H' ⟨s1, e1⟩ => q D H' nD e1 s1)
  refine ⟨hw _, hv i x H' _ hi s1 ?_⟩
  have hlt := (List.getElem?_eq_some_iff.mp hi).1
  refine ⟨_, e1, by rw [List.length_map, List.length_range]; exact Nat.lt_of_lt_of_le (show i < 300000 by omega) (by decide), fun b o hb => ?_, ?_⟩
  · rw [upd_ne (ne_of_none hb nD)]
    exact s1 b o hb
  · rw [upd_same, List.range_succ, List.map_append]
    rfl
end
end Lk

namespace Lw
open PySem PySem.Spec PyProof.Rows L2 Fw Htx Ob Tx Rd Lk
def topS (i : Nat) : Stmt := PySem.Challenge.pw_slopesback_k04_terms_read.main.body.getD i (.Pass ⟨0, 0, 0, 0⟩)
abbrev s__wall : Stmt := topS 0
theorem sc__wall : FnScope ["k"] ["k"] (defScope s__wall) := ⟨rfl, rfl, rfl, by decide +kernel, rfl, by decide +kernel, by decide +kernel⟩
theorem b__wall : Fw.BindsOk "_wall" "_wall" ["k"] s__wall := fun _ _ _ _ _ _ us hl => match us, hl with | [_], _ => rfl
abbrev s_SlopeError___init__ : Stmt := inClass (topS 2) 0
theorem sc_SlopeError___init__ : FnScope ["self", "words", "row"] ["self", "words", "row"] (defScope s_SlopeError___init__) := ⟨rfl, rfl, rfl, by decide +kernel, rfl, by decide +kernel, by decide +kernel⟩
theorem b_SlopeError___init__ : Fw.BindsOk "__init__" "SlopeError.__init__" ["self", "words", "row"] s_SlopeError___init__ := fun _ _ _ _ _ _ us hl => match us, hl with | [_, _, _], _ => rfl
abbrev s_written : Stmt := topS 5
theorem sc_written : FnScope ["one"] ["one"] (defScope s_written) := ⟨rfl, rfl, rfl, by decide +kernel, rfl, by decide +kernel, by decide +kernel⟩
theorem b_written : Fw.BindsOk "written" "written" ["one"] s_written := fun _ _ _ _ _ _ us hl => match us, hl with | [_], _ => rfl
abbrev s_place_told : Stmt := topS 7
theorem sc_place_told : FnScope ["place"] ["place"] (defScope s_place_told) := ⟨rfl, rfl, rfl, by decide +kernel, rfl, by decide +kernel, by decide +kernel⟩
theorem b_place_told : Fw.BindsOk "place_told" "place_told" ["place"] s_place_told := fun _ _ _ _ _ _ us hl => match us, hl with | [_], _ => rfl
abbrev s_Term_leaves : Stmt := inClass (topS 8) 0
theorem sc_Term_leaves : FnScope ["self"] ["self"] (defScope s_Term_leaves) := ⟨rfl, rfl, rfl, by decide +kernel, rfl, by decide +kernel, by decide +kernel⟩
theorem b_Term_leaves : Fw.BindsOk "leaves" "Term.leaves" ["self"] s_Term_leaves := fun _ _ _ _ _ _ us hl => match us, hl with | [_], _ => rfl
abbrev s_Term_rank : Stmt := inClass (topS 8) 1
theorem sc_Term_rank : FnScope ["self"] ["self"] (defScope s_Term_rank) := ⟨rfl, rfl, rfl, by decide +kernel, rfl, by decide +kernel, by decide +kernel⟩
theorem b_Term_rank : Fw.BindsOk "rank" "Term.rank" ["self"] s_Term_rank := fun _ _ _ _ _ _ us hl => match us, hl with | [_], _ => rfl
abbrev s_Term_bound : Stmt := inClass (topS 8) 2
theorem sc_Term_bound : FnScope ["self", "firm"] ["self", "firm"] (defScope s_Term_bound) := ⟨rfl, rfl, rfl, by decide +kernel, rfl, by decide +kernel, by decide +kernel⟩
theorem b_Term_bound : Fw.BindsOk "bound" "Term.bound" ["self", "firm"] s_Term_bound := fun _ _ _ _ _ _ us hl => match us, hl with | [_, _], _ => rfl
abbrev s_Number___init__ : Stmt := inClass (topS 9) 0
theorem sc_Number___init__ : FnScope ["self", "value"] ["self", "value"] (defScope s_Number___init__) := ⟨rfl, rfl, rfl, by decide +kernel, rfl, by decide +kernel, by decide +kernel⟩
theorem b_Number___init__ : Fw.BindsOk "__init__" "Number.__init__" ["self", "value"] s_Number___init__ := fun _ _ _ _ _ _ us hl => match us, hl with | [_, _], _ => rfl
abbrev s_Number_told : Stmt := inClass (topS 9) 1
theorem sc_Number_told : FnScope ["self"] ["self"] (defScope s_Number_told) := ⟨rfl, rfl, rfl, by decide +kernel, rfl, by decide +kernel, by decide +kernel⟩
theorem b_Number_told : Fw.BindsOk "told" "Number.told" ["self"] s_Number_told := fun _ _ _ _ _ _ us hl => match us, hl with | [_], _ => rfl
abbrev s_Number_worth : Stmt := inClass (topS 9) 2
theorem sc_Number_worth : FnScope ["self", "look"] ["self", "look"] (defScope s_Number_worth) := ⟨rfl, rfl, rfl, by decide +kernel, rfl, by decide +kernel, by decide +kernel⟩
theorem b_Number_worth : Fw.BindsOk "worth" "Number.worth" ["self", "look"] s_Number_worth := fun _ _ _ _ _ _ us hl => match us, hl with | [_, _], _ => rfl
abbrev s_Number_slope : Stmt := inClass (topS 9) 3
theorem sc_Number_slope : FnScope ["self", "name"] ["self", "name"] (defScope s_Number_slope) := ⟨rfl, rfl, rfl, by decide +kernel, rfl, by decide +kernel, by decide +kernel⟩
theorem b_Number_slope : Fw.BindsOk "slope" "Number.slope" ["self", "name"] s_Number_slope := fun _ _ _ _ _ _ us hl => match us, hl with | [_, _], _ => rfl
abbrev s_Number_reckoned : Stmt := inClass (topS 9) 4
theorem sc_Number_reckoned : FnScope ["self", "frame", "deep"] ["self", "frame", "deep"] (defScope s_Number_reckoned) := ⟨rfl, rfl, rfl, by decide +kernel, rfl, by decide +kernel, by decide +kernel⟩
theorem b_Number_reckoned : Fw.BindsOk "reckoned" "Number.reckoned" ["self", "frame", "deep"] s_Number_reckoned := fun _ _ _ _ _ _ us hl => match us, hl with | [_, _, _], _ => rfl
abbrev s_Number_looked : Stmt := inClass (topS 9) 5
theorem sc_Number_looked : FnScope ["self", "look"] ["self", "look"] (defScope s_Number_looked) := ⟨rfl, rfl, rfl, by decide +kernel, rfl, by decide +kernel, by decide +kernel⟩
theorem b_Number_looked : Fw.BindsOk "looked" "Number.looked" ["self", "look"] s_Number_looked := fun _ _ _ _ _ _ us hl => match us, hl with | [_, _], _ => rfl
abbrev s_Known___init__ : Stmt := inClass (topS 10) 0
theorem sc_Known___init__ : FnScope ["self", "name", "place"] ["self", "name", "place"] (defScope s_Known___init__) := ⟨rfl, rfl, rfl, by decide +kernel, rfl, by decide +kernel, by decide +kernel⟩
theorem b_Known___init__ : Fw.BindsOk "__init__" "Known.__init__" ["self", "name", "place"] s_Known___init__ := fun _ _ _ _ _ _ us hl => match us, hl with | [_, _, _], _ => rfl
abbrev s_Known_told : Stmt := inClass (topS 10) 1
theorem sc_Known_told : FnScope ["self"] ["self"] (defScope s_Known_told) := ⟨rfl, rfl, rfl, by decide +kernel, rfl, by decide +kernel, by decide +kernel⟩
theorem b_Known_told : Fw.BindsOk "told" "Known.told" ["self"] s_Known_told := fun _ _ _ _ _ _ us hl => match us, hl with | [_], _ => rfl
abbrev s_Known_worth : Stmt := inClass (topS 10) 2
theorem sc_Known_worth : FnScope ["self", "look"] ["self", "look"] (defScope s_Known_worth) := ⟨rfl, rfl, rfl, by decide +kernel, rfl, by decide +kernel, by decide +kernel⟩
theorem b_Known_worth : Fw.BindsOk "worth" "Known.worth" ["self", "look"] s_Known_worth := fun _ _ _ _ _ _ us hl => match us, hl with | [_, _], _ => rfl
abbrev s_Known_slope : Stmt := inClass (topS 10) 3
theorem sc_Known_slope : FnScope ["self", "name"] ["self", "name"] (defScope s_Known_slope) := ⟨rfl, rfl, rfl, by decide +kernel, rfl, by decide +kernel, by decide +kernel⟩
theorem b_Known_slope : Fw.BindsOk "slope" "Known.slope" ["self", "name"] s_Known_slope := fun _ _ _ _ _ _ us hl => match us, hl with | [_, _], _ => rfl
abbrev s_Known_reckoned : Stmt := inClass (topS 10) 4
theorem sc_Known_reckoned : FnScope ["self", "frame", "deep"] ["self", "frame", "deep"] (defScope s_Known_reckoned) := ⟨rfl, rfl, rfl, by decide +kernel, rfl, by decide +kernel, by decide +kernel⟩
theorem b_Known_reckoned : Fw.BindsOk "reckoned" "Known.reckoned" ["self", "frame", "deep"] s_Known_reckoned := fun _ _ _ _ _ _ us hl => match us, hl with | [_, _, _], _ => rfl
abbrev s_Known_looked : Stmt := inClass (topS 10) 5
theorem sc_Known_looked : FnScope ["self", "look"] ["self", "look"] (defScope s_Known_looked) := ⟨rfl, rfl, rfl, by decide +kernel, rfl, by decide +kernel, by decide +kernel⟩
theorem b_Known_looked : Fw.BindsOk "looked" "Known.looked" ["self", "look"] s_Known_looked := fun _ _ _ _ _ _ us hl => match us, hl with | [_, _], _ => rfl
abbrev s_Pairwise___init__ : Stmt := inClass (topS 11) 0
theorem sc_Pairwise___init__ : FnScope ["self", "sign", "one", "two"] ["self", "sign", "one", "two"] (defScope s_Pairwise___init__) := ⟨rfl, rfl, rfl, by decide +kernel, rfl, by decide +kernel, by decide +kernel⟩
theorem b_Pairwise___init__ : Fw.BindsOk "__init__" "Pairwise.__init__" ["self", "sign", "one", "two"] s_Pairwise___init__ := fun _ _ _ _ _ _ us hl => match us, hl with | [_, _, _, _], _ => rfl
abbrev s_Pairwise_leaves : Stmt := inClass (topS 11) 1
theorem sc_Pairwise_leaves : FnScope ["self"] ["self"] (defScope s_Pairwise_leaves) := ⟨rfl, rfl, rfl, by decide +kernel, rfl, by decide +kernel, by decide +kernel⟩
theorem b_Pairwise_leaves : Fw.BindsOk "leaves" "Pairwise.leaves" ["self"] s_Pairwise_leaves := fun _ _ _ _ _ _ us hl => match us, hl with | [_], _ => rfl
abbrev s_Pairwise_told : Stmt := inClass (topS 11) 2
theorem sc_Pairwise_told : FnScope ["self", "firm"] ["self"] (defScope s_Pairwise_told) := ⟨rfl, rfl, rfl, by decide +kernel, rfl, by decide +kernel, by decide +kernel⟩
theorem b_Pairwise_told : Fw.BindsOk "told" "Pairwise.told" ["self"] s_Pairwise_told := fun _ _ _ _ _ _ us hl => match us, hl with | [_], _ => rfl
abbrev s_Pairwise_worth : Stmt := inClass (topS 11) 3
theorem sc_Pairwise_worth : FnScope ["self", "look"] ["self", "look"] (defScope s_Pairwise_worth) := ⟨rfl, rfl, rfl, by decide +kernel, rfl, by decide +kernel, by decide +kernel⟩
theorem b_Pairwise_worth : Fw.BindsOk "worth" "Pairwise.worth" ["self", "look"] s_Pairwise_worth := fun _ _ _ _ _ _ us hl => match us, hl with | [_, _], _ => rfl
abbrev s_Pairwise_reckoned : Stmt := inClass (topS 11) 4
theorem sc_Pairwise_reckoned : FnScope ["self", "frame", "deep"] ["self", "frame", "deep"] (defScope s_Pairwise_reckoned) := ⟨rfl, rfl, rfl, by decide +kernel, rfl, by decide +kernel, by decide +kernel⟩
theorem b_Pairwise_reckoned : Fw.BindsOk "reckoned" "Pairwise.reckoned" ["self", "frame", "deep"] s_Pairwise_reckoned := fun _ _ _ _ _ _ us hl => match us, hl with | [_, _, _], _ => rfl
abbrev s_Pairwise_looked : Stmt := inClass (topS 11) 5
theorem sc_Pairwise_looked : FnScope ["self", "look"] ["self", "look"] (defScope s_Pairwise_looked) := ⟨rfl, rfl, rfl, by decide +kernel, rfl, by decide +kernel, by decide +kernel⟩
theorem b_Pairwise_looked : Fw.BindsOk "looked" "Pairwise.looked" ["self", "look"] s_Pairwise_looked := fun _ _ _ _ _ _ us hl => match us, hl with | [_, _], _ => rfl
abbrev s_Sum___init__ : Stmt := inClass (topS 12) 0
theorem sc_Sum___init__ : FnScope ["self", "one", "two"] ["self", "one", "two"] (defScope s_Sum___init__) := ⟨rfl, rfl, rfl, by decide +kernel, rfl, by decide +kernel, by decide +kernel⟩
theorem b_Sum___init__ : Fw.BindsOk "__init__" "Sum.__init__" ["self", "one", "two"] s_Sum___init__ := fun _ _ _ _ _ _ us hl => match us, hl with | [_, _, _], _ => rfl
abbrev s_Sum_rank : Stmt := inClass (topS 12) 1
theorem sc_Sum_rank : FnScope ["self"] ["self"] (defScope s_Sum_rank) := ⟨rfl, rfl, rfl, by decide +kernel, rfl, by decide +kernel, by decide +kernel⟩
theorem b_Sum_rank : Fw.BindsOk "rank" "Sum.rank" ["self"] s_Sum_rank := fun _ _ _ _ _ _ us hl => match us, hl with | [_], _ => rfl
abbrev s_Sum_slope : Stmt := inClass (topS 12) 2
theorem sc_Sum_slope : FnScope ["self", "name"] ["self", "name"] (defScope s_Sum_slope) := ⟨rfl, rfl, rfl, by decide +kernel, rfl, by decide +kernel, by decide +kernel⟩
theorem b_Sum_slope : Fw.BindsOk "slope" "Sum.slope" ["self", "name"] s_Sum_slope := fun _ _ _ _ _ _ us hl => match us, hl with | [_, _], _ => rfl
abbrev s_Less___init__ : Stmt := inClass (topS 13) 0
theorem sc_Less___init__ : FnScope ["self", "one", "two"] ["self", "one", "two"] (defScope s_Less___init__) := ⟨rfl, rfl, rfl, by decide +kernel, rfl, by decide +kernel, by decide +kernel⟩
theorem b_Less___init__ : Fw.BindsOk "__init__" "Less.__init__" ["self", "one", "two"] s_Less___init__ := fun _ _ _ _ _ _ us hl => match us, hl with | [_, _, _], _ => rfl
abbrev s_Less_rank : Stmt := inClass (topS 13) 1
theorem sc_Less_rank : FnScope ["self"] ["self"] (defScope s_Less_rank) := ⟨rfl, rfl, rfl, by decide +kernel, rfl, by decide +kernel, by decide +kernel⟩
theorem b_Less_rank : Fw.BindsOk "rank" "Less.rank" ["self"] s_Less_rank := fun _ _ _ _ _ _ us hl => match us, hl with | [_], _ => rfl
abbrev s_Less_slope : Stmt := inClass (topS 13) 2
theorem sc_Less_slope : FnScope ["self", "name"] ["self", "name"] (defScope s_Less_slope) := ⟨rfl, rfl, rfl, by decide +kernel, rfl, by decide +kernel, by decide +kernel⟩
theorem b_Less_slope : Fw.BindsOk "slope" "Less.slope" ["self", "name"] s_Less_slope := fun _ _ _ _ _ _ us hl => match us, hl with | [_, _], _ => rfl
abbrev s_Times___init__ : Stmt := inClass (topS 14) 0
theorem sc_Times___init__ : FnScope ["self", "one", "two"] ["self", "one", "two"] (defScope s_Times___init__) := ⟨rfl, rfl, rfl, by decide +kernel, rfl, by decide +kernel, by decide +kernel⟩
theorem b_Times___init__ : Fw.BindsOk "__init__" "Times.__init__" ["self", "one", "two"] s_Times___init__ := fun _ _ _ _ _ _ us hl => match us, hl with | [_, _, _], _ => rfl
abbrev s_Times_rank : Stmt := inClass (topS 14) 1
theorem sc_Times_rank : FnScope ["self"] ["self"] (defScope s_Times_rank) := ⟨rfl, rfl, rfl, by decide +kernel, rfl, by decide +kernel, by decide +kernel⟩
theorem b_Times_rank : Fw.BindsOk "rank" "Times.rank" ["self"] s_Times_rank := fun _ _ _ _ _ _ us hl => match us, hl with | [_], _ => rfl
abbrev s_Times_slope : Stmt := inClass (topS 14) 2
theorem sc_Times_slope : FnScope ["self", "name"] ["self", "name"] (defScope s_Times_slope) := ⟨rfl, rfl, rfl, by decide +kernel, rfl, by decide +kernel, by decide +kernel⟩
theorem b_Times_slope : Fw.BindsOk "slope" "Times.slope" ["self", "name"] s_Times_slope := fun _ _ _ _ _ _ us hl => match us, hl with | [_, _], _ => rfl
abbrev s_Over___init__ : Stmt := inClass (topS 15) 0
theorem sc_Over___init__ : FnScope ["self", "one", "two"] ["self", "one", "two"] (defScope s_Over___init__) := ⟨rfl, rfl, rfl, by decide +kernel, rfl, by decide +kernel, by decide +kernel⟩
theorem b_Over___init__ : Fw.BindsOk "__init__" "Over.__init__" ["self", "one", "two"] s_Over___init__ := fun _ _ _ _ _ _ us hl => match us, hl with | [_, _, _], _ => rfl
abbrev s_Over_rank : Stmt := inClass (topS 15) 1
theorem sc_Over_rank : FnScope ["self"] ["self"] (defScope s_Over_rank) := ⟨rfl, rfl, rfl, by decide +kernel, rfl, by decide +kernel, by decide +kernel⟩
theorem b_Over_rank : Fw.BindsOk "rank" "Over.rank" ["self"] s_Over_rank := fun _ _ _ _ _ _ us hl => match us, hl with | [_], _ => rfl
abbrev s_Over_slope : Stmt := inClass (topS 15) 2
theorem sc_Over_slope : FnScope ["self", "name"] ["self", "name"] (defScope s_Over_slope) := ⟨rfl, rfl, rfl, by decide +kernel, rfl, by decide +kernel, by decide +kernel⟩
theorem b_Over_slope : Fw.BindsOk "slope" "Over.slope" ["self", "name"] s_Over_slope := fun _ _ _ _ _ _ us hl => match us, hl with | [_, _], _ => rfl
abbrev s_marks_of : Stmt := topS 25
theorem sc_marks_of : FnScope ["text", "row", "marks", "glued", "sign", "kind"] ["text", "row"] (defScope s_marks_of) := ⟨rfl, rfl, rfl, by decide +kernel, rfl, by decide +kernel, by decide +kernel⟩
theorem b_marks_of : Fw.BindsOk "marks_of" "marks_of" ["text", "row"] s_marks_of := fun _ _ _ _ _ _ us hl => match us, hl with | [_, _], _ => rfl
abbrev s_is_name : Stmt := topS 26
theorem sc_is_name : FnScope ["mark"] ["mark"] (defScope s_is_name) := ⟨rfl, rfl, rfl, by decide +kernel, rfl, by decide +kernel, by decide +kernel⟩
theorem b_is_name : Fw.BindsOk "is_name" "is_name" ["mark"] s_is_name := fun _ _ _ _ _ _ us hl => match us, hl with | [_], _ => rfl
abbrev s_is_number : Stmt := topS 27
theorem sc_is_number : FnScope ["mark"] ["mark"] (defScope s_is_number) := ⟨rfl, rfl, rfl, by decide +kernel, rfl, by decide +kernel, by decide +kernel⟩
theorem b_is_number : Fw.BindsOk "is_number" "is_number" ["mark"] s_is_number := fun _ _ _ _ _ _ us hl => match us, hl with | [_], _ => rfl
abbrev s_Row___init__ : Stmt := inClass (topS 28) 0
theorem sc_Row___init__ : FnScope ["self", "marks", "number"] ["self", "marks", "number"] (defScope s_Row___init__) := ⟨rfl, rfl, rfl, by decide +kernel, rfl, by decide +kernel, by decide +kernel⟩
theorem b_Row___init__ : Fw.BindsOk "__init__" "Row.__init__" ["self", "marks", "number"] s_Row___init__ := fun _ _ _ _ _ _ us hl => match us, hl with | [_, _, _], _ => rfl
abbrev s_Row_bad : Stmt := inClass (topS 28) 1
theorem sc_Row_bad : FnScope ["self"] ["self"] (defScope s_Row_bad) := ⟨rfl, rfl, rfl, by decide +kernel, rfl, by decide +kernel, by decide +kernel⟩
theorem b_Row_bad : Fw.BindsOk "bad" "Row.bad" ["self"] s_Row_bad := fun _ _ _ _ _ _ us hl => match us, hl with | [_], _ => rfl
abbrev s_Row_now : Stmt := inClass (topS 28) 2
theorem sc_Row_now : FnScope ["self"] ["self"] (defScope s_Row_now) := ⟨rfl, rfl, rfl, by decide +kernel, rfl, by decide +kernel, by decide +kernel⟩
theorem b_Row_now : Fw.BindsOk "now" "Row.now" ["self"] s_Row_now := fun _ _ _ _ _ _ us hl => match us, hl with | [_], _ => rfl
abbrev s_Row_behind : Stmt := inClass (topS 28) 3
theorem sc_Row_behind : FnScope ["self"] ["self"] (defScope s_Row_behind) := ⟨rfl, rfl, rfl, by decide +kernel, rfl, by decide +kernel, by decide +kernel⟩
theorem b_Row_behind : Fw.BindsOk "behind" "Row.behind" ["self"] s_Row_behind := fun _ _ _ _ _ _ us hl => match us, hl with | [_], _ => rfl
abbrev s_Row_took : Stmt := inClass (topS 28) 4
theorem sc_Row_took : FnScope ["self", "mark"] ["self", "mark"] (defScope s_Row_took) := ⟨rfl, rfl, rfl, by decide +kernel, rfl, by decide +kernel, by decide +kernel⟩
theorem b_Row_took : Fw.BindsOk "took" "Row.took" ["self", "mark"] s_Row_took := fun _ _ _ _ _ _ us hl => match us, hl with | [_, _], _ => rfl
abbrev s_Row_must : Stmt := inClass (topS 28) 5
theorem sc_Row_must : FnScope ["self", "mark"] ["self", "mark"] (defScope s_Row_must) := ⟨rfl, rfl, rfl, by decide +kernel, rfl, by decide +kernel, by decide +kernel⟩
theorem b_Row_must : Fw.BindsOk "must" "Row.must" ["self", "mark"] s_Row_must := fun _ _ _ _ _ _ us hl => match us, hl with | [_, _], _ => rfl
abbrev s_Row_ended : Stmt := inClass (topS 28) 6
theorem sc_Row_ended : FnScope ["self"] ["self"] (defScope s_Row_ended) := ⟨rfl, rfl, rfl, by decide +kernel, rfl, by decide +kernel, by decide +kernel⟩
theorem b_Row_ended : Fw.BindsOk "ended" "Row.ended" ["self"] s_Row_ended := fun _ _ _ _ _ _ us hl => match us, hl with | [_], _ => rfl
abbrev s_Row_read_name : Stmt := inClass (topS 28) 7
theorem sc_Row_read_name : FnScope ["self", "mark"] ["self"] (defScope s_Row_read_name) := ⟨rfl, rfl, rfl, by decide +kernel, rfl, by decide +kernel, by decide +kernel⟩
theorem b_Row_read_name : Fw.BindsOk "read_name" "Row.read_name" ["self"] s_Row_read_name := fun _ _ _ _ _ _ us hl => match us, hl with | [_], _ => rfl
abbrev s_Row_read_whole : Stmt := inClass (topS 28) 8
theorem sc_Row_read_whole : FnScope ["self", "least", "most", "mark"] ["self", "least", "most"] (defScope s_Row_read_whole) := ⟨rfl, rfl, rfl, by decide +kernel, rfl, by decide +kernel, by decide +kernel⟩
theorem b_Row_read_whole : Fw.BindsOk "read_whole" "Row.read_whole" ["self", "least", "most"] s_Row_read_whole := fun _ _ _ _ _ _ us hl => match us, hl with | [_, _, _], _ => rfl
abbrev s_Row_read_place : Stmt := inClass (topS 28) 9
theorem sc_Row_read_place : FnScope ["self", "counter"] ["self"] (defScope s_Row_read_place) := ⟨rfl, rfl, rfl, by decide +kernel, rfl, by decide +kernel, by decide +kernel⟩
theorem b_Row_read_place : Fw.BindsOk "read_place" "Row.read_place" ["self"] s_Row_read_place := fun _ _ _ _ _ _ us hl => match us, hl with | [_], _ => rfl
abbrev s_Row_read_known : Stmt := inClass (topS 28) 10
theorem sc_Row_read_known : FnScope ["self", "name", "place"] ["self"] (defScope s_Row_read_known) := ⟨rfl, rfl, rfl, by decide +kernel, rfl, by decide +kernel, by decide +kernel⟩
theorem b_Row_read_known : Fw.BindsOk "read_known" "Row.read_known" ["self"] s_Row_read_known := fun _ _ _ _ _ _ us hl => match us, hl with | [_], _ => rfl
abbrev s_Row_read_unit : Stmt := inClass (topS 28) 11
theorem sc_Row_read_unit : FnScope ["self", "found"] ["self"] (defScope s_Row_read_unit) := ⟨rfl, rfl, rfl, by decide +kernel, rfl, by decide +kernel, by decide +kernel⟩
theorem b_Row_read_unit : Fw.BindsOk "read_unit" "Row.read_unit" ["self"] s_Row_read_unit := fun _ _ _ _ _ _ us hl => match us, hl with | [_], _ => rfl
abbrev s_Row_read_product : Stmt := inClass (topS 28) 12
theorem sc_Row_read_product : FnScope ["self", "found"] ["self"] (defScope s_Row_read_product) := ⟨rfl, rfl, rfl, by decide +kernel, rfl, by decide +kernel, by decide +kernel⟩
theorem b_Row_read_product : Fw.BindsOk "read_product" "Row.read_product" ["self"] s_Row_read_product := fun _ _ _ _ _ _ us hl => match us, hl with | [_], _ => rfl
abbrev s_Row_read_term : Stmt := inClass (topS 28) 13
theorem sc_Row_read_term : FnScope ["self", "found"] ["self"] (defScope s_Row_read_term) := ⟨rfl, rfl, rfl, by decide +kernel, rfl, by decide +kernel, by decide +kernel⟩
theorem b_Row_read_term : Fw.BindsOk "read_term" "Row.read_term" ["self"] s_Row_read_term := fun _ _ _ _ _ _ us hl => match us, hl with | [_], _ => rfl
abbrev s_Row_read_terms : Stmt := inClass (topS 28) 14
theorem sc_Row_read_terms : FnScope ["self", "found"] ["self"] (defScope s_Row_read_terms) := ⟨rfl, rfl, rfl, by decide +kernel, rfl, by decide +kernel, by decide +kernel⟩
theorem b_Row_read_terms : Fw.BindsOk "read_terms" "Row.read_terms" ["self"] s_Row_read_terms := fun _ _ _ _ _ _ us hl => match us, hl with | [_], _ => rfl
abbrev s_Row_read_names : Stmt := inClass (topS 28) 15
theorem sc_Row_read_names : FnScope ["self", "found"] ["self"] (defScope s_Row_read_names) := ⟨rfl, rfl, rfl, by decide +kernel, rfl, by decide +kernel, by decide +kernel⟩
theorem b_Row_read_names : Fw.BindsOk "read_names" "Row.read_names" ["self"] s_Row_read_names := fun _ _ _ _ _ _ us hl => match us, hl with | [_], _ => rfl
abbrev s_Step___init__ : Stmt := inClass (topS 30) 0
theorem sc_Step___init__ : FnScope ["self", "row"] ["self", "row"] (defScope s_Step___init__) := ⟨rfl, rfl, rfl, by decide +kernel, rfl, by decide +kernel, by decide +kernel⟩
theorem b_Step___init__ : Fw.BindsOk "__init__" "Step.__init__" ["self", "row"] s_Step___init__ := fun _ _ _ _ _ _ us hl => match us, hl with | [_, _], _ => rfl
abbrev s_Fill___init__ : Stmt := inClass (topS 31) 0
theorem sc_Fill___init__ : FnScope ["self", "row", "target", "term"] ["self", "row", "target", "term"] (defScope s_Fill___init__) := ⟨rfl, rfl, rfl, by decide +kernel, rfl, by decide +kernel, by decide +kernel⟩
theorem b_Fill___init__ : Fw.BindsOk "__init__" "Fill.__init__" ["self", "row", "target", "term"] s_Fill___init__ := fun _ _ _ _ _ _ us hl => match us, hl with | [_, _, _, _], _ => rfl
abbrev s_Fill_done : Stmt := inClass (topS 31) 1
theorem sc_Fill_done : FnScope ["self", "frame"] ["self", "frame"] (defScope s_Fill_done) := ⟨rfl, rfl, rfl, by decide +kernel, rfl, by decide +kernel, by decide +kernel⟩
theorem b_Fill_done : Fw.BindsOk "done" "Fill.done" ["self", "frame"] s_Fill_done := fun _ _ _ _ _ _ us hl => match us, hl with | [_, _], _ => rfl
abbrev s_Fill_looked : Stmt := inClass (topS 31) 2
theorem sc_Fill_looked : FnScope ["self", "look"] ["self", "look"] (defScope s_Fill_looked) := ⟨rfl, rfl, rfl, by decide +kernel, rfl, by decide +kernel, by decide +kernel⟩
theorem b_Fill_looked : Fw.BindsOk "looked" "Fill.looked" ["self", "look"] s_Fill_looked := fun _ _ _ _ _ _ us hl => match us, hl with | [_, _], _ => rfl
abbrev s_Fill_told : Stmt := inClass (topS 31) 3
theorem sc_Fill_told : FnScope ["self", "ahead"] ["self", "ahead"] (defScope s_Fill_told) := ⟨rfl, rfl, rfl, by decide +kernel, rfl, by decide +kernel, by decide +kernel⟩
theorem b_Fill_told : Fw.BindsOk "told" "Fill.told" ["self", "ahead"] s_Fill_told := fun _ _ _ _ _ _ us hl => match us, hl with | [_, _], _ => rfl
abbrev s_Called___init__ : Stmt := inClass (topS 32) 0
theorem sc_Called___init__ : FnScope ["self", "row", "target", "helper", "parts"] ["self", "row", "target", "helper", "parts"] (defScope s_Called___init__) := ⟨rfl, rfl, rfl, by decide +kernel, rfl, by decide +kernel, by decide +kernel⟩
theorem b_Called___init__ : Fw.BindsOk "__init__" "Called.__init__" ["self", "row", "target", "helper", "parts"] s_Called___init__ := fun _ _ _ _ _ _ us hl => match us, hl with | [_, _, _, _, _], _ => rfl
abbrev s_Called_done : Stmt := inClass (topS 32) 1
theorem sc_Called_done : FnScope ["self", "frame"] ["self", "frame"] (defScope s_Called_done) := ⟨rfl, rfl, rfl, by decide +kernel, rfl, by decide +kernel, by decide +kernel⟩
theorem b_Called_done : Fw.BindsOk "done" "Called.done" ["self", "frame"] s_Called_done := fun _ _ _ _ _ _ us hl => match us, hl with | [_, _], _ => rfl
abbrev s_Called_looked : Stmt := inClass (topS 32) 2
theorem sc_Called_looked : FnScope ["self", "look"] ["self", "look"] (defScope s_Called_looked) := ⟨rfl, rfl, rfl, by decide +kernel, rfl, by decide +kernel, by decide +kernel⟩
theorem b_Called_looked : Fw.BindsOk "looked" "Called.looked" ["self", "look"] s_Called_looked := fun _ _ _ _ _ _ us hl => match us, hl with | [_, _], _ => rfl
abbrev s_Called_told : Stmt := inClass (topS 32) 3
theorem sc_Called_told : FnScope ["self", "ahead", "parts", "part"] ["self", "ahead"] (defScope s_Called_told) := ⟨rfl, rfl, rfl, by decide +kernel, rfl, by decide +kernel, by decide +kernel⟩
theorem b_Called_told : Fw.BindsOk "told" "Called.told" ["self", "ahead"] s_Called_told := fun _ _ _ _ _ _ us hl => match us, hl with | [_, _], _ => rfl
abbrev s_Rowed___init__ : Stmt := inClass (topS 33) 0
theorem sc_Rowed___init__ : FnScope ["self", "row", "name", "size"] ["self", "row", "name", "size"] (defScope s_Rowed___init__) := ⟨rfl, rfl, rfl, by decide +kernel, rfl, by decide +kernel, by decide +kernel⟩
theorem b_Rowed___init__ : Fw.BindsOk "__init__" "Rowed.__init__" ["self", "row", "name", "size"] s_Rowed___init__ := fun _ _ _ _ _ _ us hl => match us, hl with | [_, _, _, _], _ => rfl
abbrev s_Rowed_done : Stmt := inClass (topS 33) 1
theorem sc_Rowed_done : FnScope ["self", "frame"] ["self", "frame"] (defScope s_Rowed_done) := ⟨rfl, rfl, rfl, by decide +kernel, rfl, by decide +kernel, by decide +kernel⟩
theorem b_Rowed_done : Fw.BindsOk "done" "Rowed.done" ["self", "frame"] s_Rowed_done := fun _ _ _ _ _ _ us hl => match us, hl with | [_, _], _ => rfl
abbrev s_Rowed_looked : Stmt := inClass (topS 33) 2
theorem sc_Rowed_looked : FnScope ["self", "look"] ["self", "look"] (defScope s_Rowed_looked) := ⟨rfl, rfl, rfl, by decide +kernel, rfl, by decide +kernel, by decide +kernel⟩
theorem b_Rowed_looked : Fw.BindsOk "looked" "Rowed.looked" ["self", "look"] s_Rowed_looked := fun _ _ _ _ _ _ us hl => match us, hl with | [_, _], _ => rfl
abbrev s_Rowed_told : Stmt := inClass (topS 33) 3
theorem sc_Rowed_told : FnScope ["self", "ahead"] ["self", "ahead"] (defScope s_Rowed_told) := ⟨rfl, rfl, rfl, by decide +kernel, rfl, by decide +kernel, by decide +kernel⟩
theorem b_Rowed_told : Fw.BindsOk "told" "Rowed.told" ["self", "ahead"] s_Rowed_told := fun _ _ _ _ _ _ us hl => match us, hl with | [_, _], _ => rfl
abbrev s_Choice___init__ : Stmt := inClass (topS 34) 0
theorem sc_Choice___init__ : FnScope ["self", "row", "one", "two", "yes", "no"] ["self", "row", "one", "two", "yes", "no"] (defScope s_Choice___init__) := ⟨rfl, rfl, rfl, by decide +kernel, rfl, by decide +kernel, by decide +kernel⟩
theorem b_Choice___init__ : Fw.BindsOk "__init__" "Choice.__init__" ["self", "row", "one", "two", "yes", "no"] s_Choice___init__ := fun _ _ _ _ _ _ us hl => match us, hl with | [_, _, _, _, _, _], _ => rfl
abbrev s_Choice_done : Stmt := inClass (topS 34) 1
theorem sc_Choice_done : FnScope ["self", "frame"] ["self", "frame"] (defScope s_Choice_done) := ⟨rfl, rfl, rfl, by decide +kernel, rfl, by decide +kernel, by decide +kernel⟩
theorem b_Choice_done : Fw.BindsOk "done" "Choice.done" ["self", "frame"] s_Choice_done := fun _ _ _ _ _ _ us hl => match us, hl with | [_, _], _ => rfl
abbrev s_Choice_looked : Stmt := inClass (topS 34) 2
theorem sc_Choice_looked : FnScope ["self", "look"] ["self", "look"] (defScope s_Choice_looked) := ⟨rfl, rfl, rfl, by decide +kernel, rfl, by decide +kernel, by decide +kernel⟩
theorem b_Choice_looked : Fw.BindsOk "looked" "Choice.looked" ["self", "look"] s_Choice_looked := fun _ _ _ _ _ _ us hl => match us, hl with | [_, _], _ => rfl
abbrev s_Choice_told : Stmt := inClass (topS 34) 3
theorem sc_Choice_told : FnScope ["self", "ahead", "rows", "step"] ["self", "ahead"] (defScope s_Choice_told) := ⟨rfl, rfl, rfl, by decide +kernel, rfl, by decide +kernel, by decide +kernel⟩
theorem b_Choice_told : Fw.BindsOk "told" "Choice.told" ["self", "ahead"] s_Choice_told := fun _ _ _ _ _ _ us hl => match us, hl with | [_, _], _ => rfl
abbrev s_Turns___init__ : Stmt := inClass (topS 35) 0
theorem sc_Turns___init__ : FnScope ["self", "row", "counter", "many", "body"] ["self", "row", "counter", "many", "body"] (defScope s_Turns___init__) := ⟨rfl, rfl, rfl, by decide +kernel, rfl, by decide +kernel, by decide +kernel⟩
theorem b_Turns___init__ : Fw.BindsOk "__init__" "Turns.__init__" ["self", "row", "counter", "many", "body"] s_Turns___init__ := fun _ _ _ _ _ _ us hl => match us, hl with | [_, _, _, _, _], _ => rfl
abbrev s_Turns_done : Stmt := inClass (topS 35) 1
theorem sc_Turns_done : FnScope ["self", "frame"] ["self", "frame"] (defScope s_Turns_done) := ⟨rfl, rfl, rfl, by decide +kernel, rfl, by decide +kernel, by decide +kernel⟩
theorem b_Turns_done : Fw.BindsOk "done" "Turns.done" ["self", "frame"] s_Turns_done := fun _ _ _ _ _ _ us hl => match us, hl with | [_, _], _ => rfl
abbrev s_Turns_looked : Stmt := inClass (topS 35) 2
theorem sc_Turns_looked : FnScope ["self", "look"] ["self", "look"] (defScope s_Turns_looked) := ⟨rfl, rfl, rfl, by decide +kernel, rfl, by decide +kernel, by decide +kernel⟩
theorem b_Turns_looked : Fw.BindsOk "looked" "Turns.looked" ["self", "look"] s_Turns_looked := fun _ _ _ _ _ _ us hl => match us, hl with | [_, _], _ => rfl
abbrev s_Turns_told : Stmt := inClass (topS 35) 3
theorem sc_Turns_told : FnScope ["self", "ahead", "rows", "step"] ["self", "ahead"] (defScope s_Turns_told) := ⟨rfl, rfl, rfl, by decide +kernel, rfl, by decide +kernel, by decide +kernel⟩
theorem b_Turns_told : Fw.BindsOk "told" "Turns.told" ["self", "ahead"] s_Turns_told := fun _ _ _ _ _ _ us hl => match us, hl with | [_, _], _ => rfl
abbrev s_Part___init__ : Stmt := inClass (topS 36) 0
theorem sc_Part___init__ : FnScope ["self", "name", "takes", "body", "gives", "row", "last"] ["self", "name", "takes", "body", "gives", "row", "last"] (defScope s_Part___init__) := ⟨rfl, rfl, rfl, by decide +kernel, rfl, by decide +kernel, by decide +kernel⟩
theorem b_Part___init__ : Fw.BindsOk "__init__" "Part.__init__" ["self", "name", "takes", "body", "gives", "row", "last"] s_Part___init__ := fun _ _ _ _ _ _ us hl => match us, hl with | [_, _, _, _, _, _, _], _ => rfl
abbrev s_Part_told : Stmt := inClass (topS 36) 1
theorem sc_Part_told : FnScope ["self", "rows", "step", "term"] ["self"] (defScope s_Part_told) := ⟨rfl, rfl, rfl, by decide +kernel, rfl, by decide +kernel, by decide +kernel⟩
theorem b_Part_told : Fw.BindsOk "told" "Part.told" ["self"] s_Part_told := fun _ _ _ _ _ _ us hl => match us, hl with | [_], _ => rfl
abbrev s_Program___init__ : Stmt := inClass (topS 37) 0
theorem sc_Program___init__ : FnScope ["self", "parts"] ["self", "parts"] (defScope s_Program___init__) := ⟨rfl, rfl, rfl, by decide +kernel, rfl, by decide +kernel, by decide +kernel⟩
theorem b_Program___init__ : Fw.BindsOk "__init__" "Program.__init__" ["self", "parts"] s_Program___init__ := fun _ _ _ _ _ _ us hl => match us, hl with | [_, _], _ => rfl
abbrev s_Program_main : Stmt := inClass (topS 37) 1
theorem sc_Program_main : FnScope ["self"] ["self"] (defScope s_Program_main) := ⟨rfl, rfl, rfl, by decide +kernel, rfl, by decide +kernel, by decide +kernel⟩
theorem b_Program_main : Fw.BindsOk "main" "Program.main" ["self"] s_Program_main := fun _ _ _ _ _ _ us hl => match us, hl with | [_], _ => rfl
abbrev s_Program_told : Stmt := inClass (topS 37) 2
theorem sc_Program_told : FnScope ["self", "rows", "part"] ["self"] (defScope s_Program_told) := ⟨rfl, rfl, rfl, by decide +kernel, rfl, by decide +kernel, by decide +kernel⟩
theorem b_Program_told : Fw.BindsOk "told" "Program.told" ["self"] s_Program_told := fun _ _ _ _ _ _ us hl => match us, hl with | [_], _ => rfl
abbrev s_depth_of : Stmt := topS 46
theorem sc_depth_of : FnScope ["text", "row", "ahead"] ["text", "row"] (defScope s_depth_of) := ⟨rfl, rfl, rfl, by decide +kernel, rfl, by decide +kernel, by decide +kernel⟩
theorem b_depth_of : Fw.BindsOk "depth_of" "depth_of" ["text", "row"] s_depth_of := fun _ _ _ _ _ _ us hl => match us, hl with | [_, _], _ => rfl
abbrev s_Reader___init__ : Stmt := inClass (topS 47) 0
theorem sc_Reader___init__ : FnScope ["self", "text", "lines", "at"] ["self", "text"] (defScope s_Reader___init__) := ⟨rfl, rfl, rfl, by decide +kernel, rfl, by decide +kernel, by decide +kernel⟩
theorem b_Reader___init__ : Fw.BindsOk "__init__" "Reader.__init__" ["self", "text"] s_Reader___init__ := fun _ _ _ _ _ _ us hl => match us, hl with | [_, _], _ => rfl
abbrev s_Reader_bad : Stmt := inClass (topS 47) 1
theorem sc_Reader_bad : FnScope ["self"] ["self"] (defScope s_Reader_bad) := ⟨rfl, rfl, rfl, by decide +kernel, rfl, by decide +kernel, by decide +kernel⟩
theorem b_Reader_bad : Fw.BindsOk "bad" "Reader.bad" ["self"] s_Reader_bad := fun _ _ _ _ _ _ us hl => match us, hl with | [_], _ => rfl
abbrev s_Reader_first : Stmt := inClass (topS 47) 2
theorem sc_Reader_first : FnScope ["self", "depth"] ["self", "depth"] (defScope s_Reader_first) := ⟨rfl, rfl, rfl, by decide +kernel, rfl, by decide +kernel, by decide +kernel⟩
theorem b_Reader_first : Fw.BindsOk "first" "Reader.first" ["self", "depth"] s_Reader_first := fun _ _ _ _ _ _ us hl => match us, hl with | [_, _], _ => rfl
abbrev s_Reader_taken : Stmt := inClass (topS 47) 3
theorem sc_Reader_taken : FnScope ["self", "row"] ["self"] (defScope s_Reader_taken) := ⟨rfl, rfl, rfl, by decide +kernel, rfl, by decide +kernel, by decide +kernel⟩
theorem b_Reader_taken : Fw.BindsOk "taken" "Reader.taken" ["self"] s_Reader_taken := fun _ _ _ _ _ _ us hl => match us, hl with | [_], _ => rfl
abbrev s_Reader_read_program : Stmt := inClass (topS 47) 4
theorem sc_Reader_read_program : FnScope ["self", "parts"] ["self"] (defScope s_Reader_read_program) := ⟨rfl, rfl, rfl, by decide +kernel, rfl, by decide +kernel, by decide +kernel⟩
theorem b_Reader_read_program : Fw.BindsOk "read_program" "Reader.read_program" ["self"] s_Reader_read_program := fun _ _ _ _ _ _ us hl => match us, hl with | [_], _ => rfl
abbrev s_Reader_read_part : Stmt := inClass (topS 47) 5
theorem sc_Reader_read_part : FnScope ["self", "row", "name", "takes", "body", "last", "gives"] ["self"] (defScope s_Reader_read_part) := ⟨rfl, rfl, rfl, by decide +kernel, rfl, by decide +kernel, by decide +kernel⟩
theorem b_Reader_read_part : Fw.BindsOk "read_part" "Reader.read_part" ["self"] s_Reader_read_part := fun _ _ _ _ _ _ us hl => match us, hl with | [_], _ => rfl
abbrev s_Reader_read_steps : Stmt := inClass (topS 47) 6
theorem sc_Reader_read_steps : FnScope ["self", "depth", "found"] ["self", "depth"] (defScope s_Reader_read_steps) := ⟨rfl, rfl, rfl, by decide +kernel, rfl, by decide +kernel, by decide +kernel⟩
theorem b_Reader_read_steps : Fw.BindsOk "read_steps" "Reader.read_steps" ["self", "depth"] s_Reader_read_steps := fun _ _ _ _ _ _ us hl => match us, hl with | [_, _], _ => rfl
abbrev s_Reader_read_block : Stmt := inClass (topS 47) 7
theorem sc_Reader_read_block : FnScope ["self", "depth", "found"] ["self", "depth"] (defScope s_Reader_read_block) := ⟨rfl, rfl, rfl, by decide +kernel, rfl, by decide +kernel, by decide +kernel⟩
theorem b_Reader_read_block : Fw.BindsOk "read_block" "Reader.read_block" ["self", "depth"] s_Reader_read_block := fun _ _ _ _ _ _ us hl => match us, hl with | [_, _], _ => rfl
abbrev s_Reader_read_step : Stmt := inClass (topS 47) 8
theorem sc_Reader_read_step : FnScope ["self", "depth", "row", "name", "size", "counter", "many"] ["self", "depth"] (defScope s_Reader_read_step) := ⟨rfl, rfl, rfl, by decide +kernel, rfl, by decide +kernel, by decide +kernel⟩
theorem b_Reader_read_step : Fw.BindsOk "read_step" "Reader.read_step" ["self", "depth"] s_Reader_read_step := fun _ _ _ _ _ _ us hl => match us, hl with | [_, _], _ => rfl
abbrev s_Reader_read_choice : Stmt := inClass (topS 47) 9
theorem sc_Reader_read_choice : FnScope ["self", "row", "depth", "one", "two", "yes", "no", "other"] ["self", "row", "depth"] (defScope s_Reader_read_choice) := ⟨rfl, rfl, rfl, by decide +kernel, rfl, by decide +kernel, by decide +kernel⟩
theorem b_Reader_read_choice : Fw.BindsOk "read_choice" "Reader.read_choice" ["self", "row", "depth"] s_Reader_read_choice := fun _ _ _ _ _ _ us hl => match us, hl with | [_, _, _], _ => rfl
abbrev s_Reader_read_filled : Stmt := inClass (topS 47) 10
theorem sc_Reader_read_filled : FnScope ["self", "row", "target", "helper", "parts", "term"] ["self", "row"] (defScope s_Reader_read_filled) := ⟨rfl, rfl, rfl, by decide +kernel, rfl, by decide +kernel, by decide +kernel⟩
theorem b_Reader_read_filled : Fw.BindsOk "read_filled" "Reader.read_filled" ["self", "row"] s_Reader_read_filled := fun _ _ _ _ _ _ us hl => match us, hl with | [_, _], _ => rfl
abbrev s_read : Stmt := topS 48
theorem sc_read : FnScope ["text"] ["text"] (defScope s_read) := ⟨rfl, rfl, rfl, by decide +kernel, rfl, by decide +kernel, by decide +kernel⟩
theorem b_read : Fw.BindsOk "read" "read" ["text"] s_read := fun _ _ _ _ _ _ us hl => match us, hl with | [_], _ => rfl
abbrev s_l_dice : Stmt := topS 50
theorem sc_l_dice : FnScope ["_law_script", "_law_mixed", "_law_cell"] ["_law_script"] (defScope s_l_dice) := ⟨rfl, rfl, rfl, by decide +kernel, rfl, by decide +kernel, by decide +kernel⟩
theorem b_l_dice : Fw.BindsOk "_law_dice" "_law_dice" ["_law_script"] s_l_dice := fun _ _ _ _ _ _ us hl => match us, hl with | [_], _ => rfl
abbrev s_l_next : Stmt := topS 51
theorem sc_l_next : FnScope ["_law_dice_here", "_law_many", "_law_cell"] ["_law_dice_here", "_law_many"] (defScope s_l_next) := ⟨rfl, rfl, rfl, by decide +kernel, rfl, by decide +kernel, by decide +kernel⟩
theorem b_l_next : Fw.BindsOk "_law_next" "_law_next" ["_law_dice_here", "_law_many"] s_l_next := fun _ _ _ _ _ _ us hl => match us, hl with | [_, _], _ => rfl
abbrev s_l_style : Stmt := topS 52
theorem sc_l_style : FnScope ["_law_dice_here"] ["_law_dice_here"] (defScope s_l_style) := ⟨rfl, rfl, rfl, by decide +kernel, rfl, by decide +kernel, by decide +kernel⟩
theorem b_l_style : Fw.BindsOk "_law_style" "_law_style" ["_law_dice_here"] s_l_style := fun _ _ _ _ _ _ us hl => match us, hl with | [_], _ => rfl
abbrev s_l_word : Stmt := topS 53
theorem sc_l_word : FnScope ["_law_style_here", "_law_j", "_law_letters", "_law_size", "_law_at", "_law_rest", "_law_own", "_law_word_here"] ["_law_style_here", "_law_j"] (defScope s_l_word) := ⟨rfl, rfl, rfl, by decide +kernel, rfl, by decide +kernel, by decide +kernel⟩
theorem b_l_word : Fw.BindsOk "_law_word" "_law_word" ["_law_style_here", "_law_j"] s_l_word := fun _ _ _ _ _ _ us hl => match us, hl with | [_, _], _ => rfl
abbrev s_l_said : Stmt := topS 54
theorem sc_l_said : FnScope ["_law_term_here", "_law_firm", "_law_place", "_law_rank", "_law_text"] ["_law_term_here", "_law_firm"] (defScope s_l_said) := ⟨rfl, rfl, rfl, by decide +kernel, rfl, by decide +kernel, by decide +kernel⟩
theorem b_l_said : Fw.BindsOk "_law_said" "_law_said" ["_law_term_here", "_law_firm"] s_l_said := fun _ _ _ _ _ _ us hl => match us, hl with | [_, _], _ => rfl
abbrev s_l_term : Stmt := topS 55
theorem sc_l_term : FnScope ["_law_dice_here", "_law_names", "_law_deep", "_law_way", "_law_sign", "_law_one"] ["_law_dice_here", "_law_names", "_law_deep"] (defScope s_l_term) := ⟨rfl, rfl, rfl, by decide +kernel, rfl, by decide +kernel, by decide +kernel⟩
theorem b_l_term : Fw.BindsOk "_law_term" "_law_term" ["_law_dice_here", "_law_names", "_law_deep"] s_l_term := fun _ _ _ _ _ _ us hl => match us, hl with | [_, _, _], _ => rfl
abbrev s_l_messy : Stmt := topS 56
theorem sc_l_messy : FnScope ["_law_dice_here", "_law_term_here", "_law_firm", "_law_rank", "_law_text"] ["_law_dice_here", "_law_term_here", "_law_firm"] (defScope s_l_messy) := ⟨rfl, rfl, rfl, by decide +kernel, rfl, by decide +kernel, by decide +kernel⟩
theorem b_l_messy : Fw.BindsOk "_law_messy" "_law_messy" ["_law_dice_here", "_law_term_here", "_law_firm"] s_l_messy := fun _ _ _ _ _ _ us hl => match us, hl with | [_, _, _], _ => rfl
abbrev s_law : Stmt := topS 57
theorem sc_law : FnScope ["_law_script", "_law_dice_here", "_law_style_here", "_law_names", "_law_j", "_law_term_here", "_law_ahead", "_law_due", "_law_handed", "_law_many", "_law_found"] ["_law_script"] (defScope s_law) := ⟨rfl, rfl, rfl, by decide +kernel, rfl, by decide +kernel, by decide +kernel⟩
theorem b_law : Fw.BindsOk "law" "law" ["_law_script"] s_law := fun _ _ _ _ _ _ us hl => match us, hl with | [_], _ => rfl
/-- the built-ins' names are free -/
structure Fre (mg : Str → Option Value) : Prop where
  f_len : mg "len" = none
  f_int : mg "int" = none
  f_bool : mg "bool" = none
  f_str : mg "str" = none
  f_isinstance : mg "isinstance" = none
  f_range : mg "range" = none
  f_ValueError : mg "ValueError" = none
def clsL : List Str := (["Term", "Number", "Known", "Pairwise", "Sum", "Less", "Times", "Over", "Row", "Step", "Fill", "Called", "Rowed", "Choice", "Turns", "Part", "Program", "Reader"] : List Str)
def attL : List (Str × Str) := ([("Number", "value"), ("Known", "name"), ("Known", "place"), ("Pairwise", "sign"), ("Pairwise", "one"), ("Pairwise", "two"), ("Sum", "sign"), ("Sum", "one"), ("Sum", "two"), ("Less", "sign"), ("Less", "one"), ("Less", "two"), ("Times", "sign"), ("Times", "one"), ("Times", "two"), ("Over", "sign"), ("Over", "one"), ("Over", "two"), ("Row", "marks"), ("Row", "at")] : List (Str × Str)) ++ ([("Row", "number"), ("Row", "brackets"), ("Step", "row"), ("Fill", "row"), ("Fill", "target"), ("Fill", "term"), ("Called", "row"), ("Called", "target"), ("Called", "helper"), ("Called", "parts"), ("Rowed", "row"), ("Rowed", "name"), ("Rowed", "size"), ("Choice", "row"), ("Choice", "one"), ("Choice", "two"), ("Choice", "yes"), ("Choice", "no"), ("Turns", "row"), ("Turns", "counter")] : List (Str × Str)) ++ ([("Turns", "many"), ("Turns", "body"), ("Part", "name"), ("Part", "takes"), ("Part", "body"), ("Part", "gives"), ("Part", "row"), ("Part", "last"), ("Program", "parts"), ("Reader", "rows"), ("Reader", "at")] : List (Str × Str))
def mthL : List (Str × Str) := ([("Term", "leaves"), ("Term", "rank"), ("Term", "bound"), ("Number", "__init__"), ("Number", "told"), ("Number", "worth"), ("Number", "slope"), ("Number", "reckoned"), ("Number", "looked"), ("Known", "__init__"), ("Known", "told"), ("Known", "worth"), ("Known", "slope"), ("Known", "reckoned"), ("Known", "looked"), ("Pairwise", "__init__"), ("Pairwise", "leaves"), ("Pairwise", "told"), ("Pairwise", "worth"), ("Pairwise", "reckoned")] : List (Str × Str)) ++ ([("Pairwise", "looked"), ("Sum", "__init__"), ("Sum", "rank"), ("Sum", "slope"), ("Less", "__init__"), ("Less", "rank"), ("Less", "slope"), ("Times", "__init__"), ("Times", "rank"), ("Times", "slope"), ("Over", "__init__"), ("Over", "rank"), ("Over", "slope"), ("Row", "__init__"), ("Row", "bad"), ("Row", "now"), ("Row", "behind"), ("Row", "took"), ("Row", "must"), ("Row", "ended")] : List (Str × Str)) ++ ([("Row", "read_name"), ("Row", "read_whole"), ("Row", "read_place"), ("Row", "read_known"), ("Row", "read_unit"), ("Row", "read_product"), ("Row", "read_term"), ("Row", "read_terms"), ("Row", "read_names"), ("Step", "__init__"), ("Fill", "__init__"), ("Fill", "done"), ("Fill", "looked"), ("Fill", "told"), ("Called", "__init__"), ("Called", "done"), ("Called", "looked"), ("Called", "told"), ("Rowed", "__init__"), ("Rowed", "done")] : List (Str × Str)) ++ ([("Rowed", "looked"), ("Rowed", "told"), ("Choice", "__init__"), ("Choice", "done"), ("Choice", "looked"), ("Choice", "told"), ("Turns", "__init__"), ("Turns", "done"), ("Turns", "looked"), ("Turns", "told"), ("Part", "__init__"), ("Part", "told"), ("Program", "__init__"), ("Program", "main"), ("Program", "told"), ("Reader", "__init__"), ("Reader", "bad"), ("Reader", "first"), ("Reader", "taken"), ("Reader", "read_program")] : List (Str × Str)) ++ ([("Reader", "read_part"), ("Reader", "read_steps"), ("Reader", "read_block"), ("Reader", "read_step"), ("Reader", "read_choice"), ("Reader", "read_filled")] : List (Str × Str))
def inhL : List (Str × Str × Str) := ([("Number", "Term", "leaves"), ("Number", "Term", "rank"), ("Number", "Term", "bound"), ("Known", "Term", "leaves"), ("Known", "Term", "rank"), ("Known", "Term", "bound"), ("Pairwise", "Term", "rank"), ("Pairwise", "Term", "bound"), ("Sum", "Pairwise", "leaves"), ("Sum", "Term", "bound"), ("Sum", "Pairwise", "told"), ("Sum", "Pairwise", "worth"), ("Sum", "Pairwise", "reckoned"), ("Sum", "Pairwise", "looked"), ("Less", "Pairwise", "leaves"), ("Less", "Term", "bound"), ("Less", "Pairwise", "told"), ("Less", "Pairwise", "worth"), ("Less", "Pairwise", "reckoned"), ("Less", "Pairwise", "looked")] : List (Str × Str × Str)) ++ ([("Times", "Pairwise", "leaves"), ("Times", "Term", "bound"), ("Times", "Pairwise", "told"), ("Times", "Pairwise", "worth"), ("Times", "Pairwise", "reckoned"), ("Times", "Pairwise", "looked"), ("Over", "Pairwise", "leaves"), ("Over", "Term", "bound"), ("Over", "Pairwise", "told"), ("Over", "Pairwise", "worth"), ("Over", "Pairwise", "reckoned"), ("Over", "Pairwise", "looked")] : List (Str × Str × Str))
def mkrL : List Str := (["Number", "Known", "Pairwise", "Sum", "Less", "Times", "Over", "Row", "Step", "Fill", "Called", "Rowed", "Choice", "Turns", "Part", "Program", "Reader"] : List Str)
def excL : List Str := (["BadText"] : List Str)
def basL : List (Str × Str) := ([("Pairwise", "__init__"), ("Step", "__init__")] : List (Str × Str))
def gloL : List Str := (["Term", "Number", "Known", "Pairwise", "Sum", "Less", "Times", "Over", "Row", "Step", "Fill", "Called", "Rowed", "Choice", "Turns", "Part", "Program", "Reader", "SlopeError", "WORDS"] : List Str)
def cstL : List He.Fa := ([.str "SMALL" "abcdefghijklmnopqrstuvwxyz", .str "FIGURES" "0123456789", .str "SIGNS" "+-*/()[]<=,", .int "MOST_MARKS" 60, .int "MOST_LETTERS" 8, .int "MOST_FIGURES" 2, .int "MOST_BRACKETS" 9, .int "MOST_ROWS" 60, .int "MOST_DEEP" 5, .int "MOST_PARTS" 6, .int "MOST_TAKEN" 4, .int "MOST_GIVEN" 4, .int "MOST_TURNS" 9, .int "MOST_PLACES" 9] : List He.Fa)
structure MthF (K : PySem.W.Frag) : Prop where
  m : ∀ c f, (c, f) ∈ mthL → Meth K (He.ga K c) f (He.ma K (He.ga K c) f)
structure InhF (K : PySem.W.Frag) : Prop where
  e : ∀ c c' m, (c, c', m) ∈ inhL → PySem.W.findIn K (.ref (He.ga K c)) m = PySem.W.findIn K (.ref (He.ga K c')) m
/-- the module's constants -/
structure Cst (K : PySem.W.Frag) (mg : Str → Option Value) : Prop where
  g_SMALL : ∃ u, mg "SMALL" = some u ∧ RelV (.str "abcdefghijklmnopqrstuvwxyz") u
  g_FIGURES : ∃ u, mg "FIGURES" = some u ∧ RelV (.str "0123456789") u
  g_SIGNS : ∃ u, mg "SIGNS" = some u ∧ RelV (.str "+-*/()[]<=,") u
  g_WORDS : mg "WORDS" = some (.ref (He.ga K "WORDS"))
  t_WORDS : ∀ H : Hp, SqT K H (He.ga K "WORDS") ((["def", "give", "row", "if", "else", "loop"] : List Str).map V.str)
  g_MOST_MARKS : ∃ u, mg "MOST_MARKS" = some u ∧ RelV (.int 60) u
  g_MOST_LETTERS : ∃ u, mg "MOST_LETTERS" = some u ∧ RelV (.int 8) u
  g_MOST_FIGURES : ∃ u, mg "MOST_FIGURES" = some u ∧ RelV (.int 2) u
  g_MOST_BRACKETS : ∃ u, mg "MOST_BRACKETS" = some u ∧ RelV (.int 9) u
  g_MOST_ROWS : ∃ u, mg "MOST_ROWS" = some u ∧ RelV (.int 60) u
  g_MOST_DEEP : ∃ u, mg "MOST_DEEP" = some u ∧ RelV (.int 5) u
  g_MOST_PARTS : ∃ u, mg "MOST_PARTS" = some u ∧ RelV (.int 6) u
  g_MOST_TAKEN : ∃ u, mg "MOST_TAKEN" = some u ∧ RelV (.int 4) u
  g_MOST_GIVEN : ∃ u, mg "MOST_GIVEN" = some u ∧ RelV (.int 4) u
  g_MOST_TURNS : ∃ u, mg "MOST_TURNS" = some u ∧ RelV (.int 9) u
  g_MOST_PLACES : ∃ u, mg "MOST_PLACES" = some u ∧ RelV (.int 9) u
def tupsB (K : PySem.W.Frag) : List Bool := [Tx.tupB K "WORDS" ["def", "give", "row", "if", "else", "loop"]]
local macro_rules | `(tactic| walk_at "cond") => `(tactic| first | assumption | (with_reducible exact cdiv_small (by omega) (by omega)) | (with_reducible exact cmul_small (by omega) (by omega)) | (with_reducible exact cpow_mk (by omega) (by omega) (by omega)) | omega)
local macro_rules | `(tactic| walk_at "ne") => `(tactic| first | assumption | exact Ne.symm (by assumption) | exact ne_of_none (by assumption) (by assumption) | exact Ne.symm (ne_of_none (by assumption) (by assumption)))
local macro_rules | `(tactic| walk_at "at") => `(tactic| first
  | assumption
  | (with_reducible exact upd_same)
  | ((with_reducible refine' at_same ?hk ?hh); (case hk => assumption); (case hh => walk_at "at"))
  | ((with_reducible refine' at_keepT ?hk ?hh ?hd); (case hk => assumption); (case hh => walk_at "at"); (case hd => walk_at "at"))
  | ((with_reducible refine' at_keep ?hk ?hh ?hn); (case hk => assumption); (case hh => walk_at "at"); (case hn => walk_at "ne")))
local macro_rules | `(tactic| walk_at "hp") => `(tactic| first
  | assumption
  | ((with_reducible refine' SqT.of ?hq); (case hq => walk_at "at")) | ((with_reducible refine' SqL.of ?hq); (case hq => walk_at "at"))
  | ((with_reducible refine' sql_same ?hk ?hh); (case hk => assumption); (case hh => walk_at "hp"))
  | ((with_reducible refine' sql_keep ?hk ?hh ?hn); (case hk => assumption); (case hh => walk_at "hp"); (case hn => walk_at "ne"))
  | ((with_reducible refine' sqt_same ?hk ?hh); (case hk => assumption); (case hh => walk_at "hp")))
local macro_rules | `(tactic| walk_at "wp1") => `(tactic| first
  | with_reducible refine w_rz ?_ | with_reducible refine w_calX ?_ | with_reducible refine w_calS ?_ | with_reducible refine w_row ?_
  | with_reducible refine w_seq ?_ | with_reducible refine w_set ?_ | with_reducible refine w_drop ?_ | with_reducible refine w_ret ?_ | with_reducible refine w_ifS ?_ | with_reducible refine w_next ?_
  | ((with_reducible refine' w_var ?hv ?_); (case hv => rfl)) | with_reducible refine w_c ?_
  | with_reducible refine w_op ?_ | with_reducible refine w_un ?_ | with_reducible refine w_cb ?_ | with_reducible refine w_cal ?_ | with_reducible refine w_cons ?_ | with_reducible refine w_nil ?_
  | with_reducible refine w_plus ?_ | with_reducible refine w_minus ?_ | with_reducible refine w_lt ?_ | with_reducible refine w_le ?_ | with_reducible refine w_gt ?_ | with_reducible refine w_ge ?_
  | with_reducible refine w_eqI ?_ | with_reducible refine w_neI ?_ | with_reducible refine w_eqB ?_ | with_reducible refine w_neB ?_ | with_reducible refine w_eqS ?_ | with_reducible refine w_neS ?_
  | with_reducible refine w_neg ?_ | with_reducible refine w_abs ?_ | with_reducible refine w_intB ?_ | with_reducible refine w_test ?_ | with_reducible refine w_tB ?_ | with_reducible refine w_bl ?_
  | with_reducible refine w_and ?_ | with_reducible refine w_or ?_ | with_reducible refine w_not ?_ | with_reducible refine w_andV ?_ | with_reducible refine w_orV ?_ | with_reducible refine w_notV ?_ | with_reducible refine w_ifE ?_
  | with_reducible refine w_nyes ?_ | with_reducible refine w_nno ?_ | with_reducible refine w_yes ?_ | with_reducible refine w_no ?_
  | ((with_reducible refine' w_ixL ?ha ?hb ?_); (case ha => walk_at "hp"); (case hb => rfl)) | ((with_reducible refine' w_ixT ?ha ?hb ?_); (case ha => walk_at "hp"); (case hb => rfl))
  | ((with_reducible refine' w_lenL ?ha ?_); (case ha => walk_at "hp")) | ((with_reducible refine' w_lenT ?ha ?_); (case ha => walk_at "hp"))
  | with_reducible refine w_min2 ?_ | with_reducible refine w_max2 ?_ | with_reducible refine w_bm ?_ | with_reducible refine w_lc ?_ | ((with_reducible refine' w_tyL ?ha ?_); (case ha => walk_at "at"))
  | with_reducible refine isi_ii ?_ | with_reducible refine isi_ib ?_ | with_reducible refine isi_bb ?_ | with_reducible refine isi_ss ?_
  | ((with_reducible refine' isi_tt ?ha ?_); (case ha => walk_at "at")) | ((with_reducible refine' isi_ll ?ha ?_); (case ha => walk_at "at"))
  | with_reducible refine w_par ?_ | with_reducible refine w_par2 ?_ | with_reducible refine w_for ?_ | with_reducible refine w_iL ?_ | with_reducible refine w_iT ?_ | with_reducible refine w_iR1 ?_ | with_reducible refine w_iR2 ?_
  | with_reducible refine w_tup ?_ | with_reducible refine w_lst ?_
  | with_reducible refine w_asg ?_ | with_reducible refine w_gname ?_ | with_reducible refine w_gcons ?_ | with_reducible refine w_gnil ?_ | with_reducible refine w_gsub ?_
  | ((with_reducible refine' w_gtup ?ha ?hb ?_); (case ha => walk_at "hp"); (case hb => rfl))
  | ((with_reducible refine' w_fdiv ?hc ?_); (case hc => walk_at "cond")) | ((with_reducible refine' w_mul ?hc ?_); (case hc => walk_at "cond"))
  | ((with_reducible refine' w_mod ?hc ?_); (case hc => walk_at "cond")) | ((with_reducible refine' w_pow ?hc ?_); (case hc => walk_at "cond")))
local macro_rules | `(tactic| walk_at "wp") => `(tactic| repeat walk_at "wp1")
section
variable {P : Program} {w : World} {K : PySem.W.Frag} {mg : Str → Option Value} {base : Heap}
/-! ### the dice -/
/-- the script: locked, or of the written part -/
def SqS (K : PySem.W.Frag) (H : Hp) (a : Addr) (xs : List V) : Prop := (∃ o, H a = some (.frz o (.lst xs))) ∨ ∀ H', SqL K H' a xs
theorem SqS.of {K : PySem.W.Frag} {H : Hp} {a : Addr} {xs : List V} (hO : Only H) (h : SqL K H a xs) : SqS K H a xs := by
  rcases h with (h | ⟨o, h⟩) | h
  · rcases hO a with z | ⟨o, ys, z⟩ <;> (rw [h] at z; cases z)
  · exact .inl ⟨o, h⟩
  · exact .inr fun H' => .inr h
theorem SqS.sql {K : PySem.W.Frag} {H : Hp} {a : Addr} {xs : List V} (h : SqS K H a xs) : SqL K H a xs := by
  rcases h with ⟨o, h⟩ | h
  · exact .inl (.inr ⟨o, h⟩)
  · exact h H
theorem SqS.same {K : PySem.W.Frag} {H H' : Hp} {a : Addr} {xs : List V} (k : Same H H') (h : SqS K H a xs) : SqS K H' a xs := by
  rcases h with ⟨o, h⟩ | h
  · exact .inl ⟨o, k _ _ h⟩
  · exact .inr h
theorem SqS.keep {K : PySem.W.Frag} {H H' : Hp} {a d : Addr} {xs ys : List V} (k : Keep d H H') (hd : H d = some (.lst ys)) (h : SqS K H a xs) : SqS K H' a xs := by
  rcases h with ⟨o, h⟩ | h
  · exact .inl ⟨o, k _ _ (ne_of h hd (by intro z; cases z)) h⟩
  · exact .inr h
structure DiceAt (K : PySem.W.Frag) (H : Hp) (d : Addr) : Prop where
  ex : ∃ (a : Addr) (ns : List Int) (i x c : Int), H d = some (.lst [.ref a, .int i, .int x, .int c]) ∧ SqS K H a (ns.map V.int) ∧ 0 ≤ i ∧ 0 ≤ x ∧ x < 2147483647
theorem DiceAt.same {K : PySem.W.Frag} {H H' : Hp} {d : Addr} (k : Same H H') (h : DiceAt K H d) : DiceAt K H' d := by
  obtain ⟨a, ns, i, x, c, h1, h2, h3, h4, h5⟩ := h.ex
  exact ⟨a, ns, i, x, c, k _ _ h1, h2.same k, h3, h4, h5⟩


def spDice (K : PySem.W.Frag) : Sp := fun vs H Q _ => ∃ (a : Addr) (ns : List Int), vs = [.ref a] ∧ SqS K H a (ns.map V.int) ∧ ∀ d H', H d = none → DiceAt K H' d → Same H H' → Q (.ref d) H'
def spNext (K : PySem.W.Frag) : Sp := fun vs H Q _ => ∃ (d : Addr) (m : Int), vs = [.ref d, .int m] ∧ DiceAt K H d ∧ 0 < m ∧ m.natAbs.log2 < 9000 ∧ ∀ r H', 0 ≤ r → r < m → DiceAt K H' d → Keep d H H' → Q (.int r) H'
theorem c_l_next (F : Def K mg "_law_next" s_l_next) (T : Fre mg) : Cal P w K mg base 1 "_law_next" ["_law_dice_here", "_law_many"] (spNext K) := by
  refine cal_of F sc_l_next b_l_next (fun vs H Q E h => ?_) (fun cdv A outer s H vs Q E hr h => ?_)
  · obtain ⟨d, m, rfl, _⟩ := h
    rfl
  · obtain ⟨d, m, rfl, D, hm, hl, q⟩ := h
    refine ⟨_, (pss_cons (ps_asg (pe_tup (pa_cons (pe_ix (ixL (K := K) rfl) (pv 0) pe_int (fun _ _ => rfl)) (pa_cons (pe_op o_fdiv (pe_ix (ixL (K := K) rfl) (pv 0) pe_int (fun _ _ => rfl)) (pv 1)) pa_nil))) (pg_tup (n := 2) rfl (pgs_cons (pg_name (i := 2) sc_l_next.nd rfl (loc_of rfl)) (pgs_cons (pg_sub (pv 0) pe_int set_list) pgs_nil))))
      (pss_cons (ps_if (pt_cmpR op_eq (pv 2) pe_int (nomark _)) (pss_cons (ps_asg (pe_tup (pa_cons (pe_op o_add (pe_ix (ixL (K := K) rfl) (pv 0) pe_int (fun _ _ => rfl)) pe_int) (pa_cons (pe_op o_mod (pe_op o_mul (pe_ix (ixL (K := K) rfl) (pv 0) pe_int (fun _ _ => rfl)) pe_int) pe_int) pa_nil))) (pg_tup (n := 2) rfl (pgs_cons (pg_sub (pv 0) pe_int set_list) (pgs_cons (pg_sub (pv 0) pe_int set_list) pgs_nil))))
      (pss_cons (ps_set (i := 2) sc_l_next.nd rfl (loc_of rfl) (pe_ifExp (pt_cmpR o_le (pe_ix (ixL (K := K) rfl) (pv 0) pe_int (fun _ _ => rfl)) (pe_callB (c_lenK (K := K) rfl) (by rfl) T.f_len (by decide +kernel) (pa_cons (pe_ix (ixL (K := K) rfl) (pv 0) pe_int (fun _ _ => rfl)) pa_nil)) (nomark _)) (pe_ix (ixL (K := K) rfl) (pe_ix (ixL (K := K) rfl) (pv 0) pe_int (fun _ _ => rfl)) (pe_op o_sub (pe_ix (ixL (K := K) rfl) (pv 0) pe_int (fun _ _ => rfl)) pe_int) (fun _ _ => rfl)) (pe_op o_fdiv (pe_op o_pow (pe_ix (ixL (K := K) rfl) (pv 0) pe_int (fun _ _ => rfl)) pe_int) pe_int)))
      (pss_one (ps_asg (pe_ifExp (pt_cmpR o_ge (pv 2) (pe_op o_pow pe_int pe_int) (nomark _)) (pe_op o_fdiv (pv 2) (pv 1)) pe_int) (pg_sub (pv 0) pe_int set_list))))) pss_nil)
      (pss_one (ps_ret (pe_op o_mod (pv 2) (pv 1)))))), ?_⟩
    refine w_start [some (.ref d), some (.int m), none] rfl ?_
    try dsimp only [cxOf]
    obtain ⟨a, ns, i, x, c, h1, h2, h3, h4, h5⟩ := D.ex
    walk_at "wp"
    refine w_fdiv ⟨by omega, hl⟩ ?_
    walk_at "wp"
    refine newT fun p H1 np e1 s1 => ?_
    walk_at "wp"
    refine w_setL (at_same s1 h1) rfl fun H2 e2 k2 => ?_
    walk_at "wp"
    have d1 : SqS K H1 a (ns.map V.int) := h2.same s1
    have d2 : SqS K H2 a (ns.map V.int) := d1.keep k2 (at_same s1 h1)
    refine w_dec (fun hc => ?_) (fun hc => ?_)
    · walk_at "wp"
      refine newT fun p3 H3 np3 e3 s3 => ?_
      walk_at "wp"
      refine w_setL (at_same s3 e2) rfl fun H4 e4 k4 => ?_
      walk_at "wp"
      refine w_setL e4 rfl fun H5 e5 k5 => ?_
      have d3 : SqS K H3 a (ns.map V.int) := d2.same s3
      have d4 : SqS K H4 a (ns.map V.int) := d3.keep k4 (at_same s3 e2)
      have d5 : SqS K H5 a (ns.map V.int) := d4.keep k5 e4
      have d5' := d5.sql
      have hx0 : 0 ≤ (x * 48271).fmod 2147483647 := by rw [Int.fmod_eq_emod_of_nonneg _ (by omega)]; exact Int.emod_nonneg _ (by omega)
      have hx1 : (x * 48271).fmod 2147483647 < 2147483647 := by rw [Int.fmod_eq_emod_of_nonneg _ (by omega)]; exact Int.emod_lt_of_pos _ (by omega)
      generalize (x * 48271).fmod 2147483647 = y at *
      walk_at "wp"
      have fin : ∀ (z : Int) (σ : L2.St), σ = [some (.ref d), some (.int m), some (.int z)] → tSeq (tAsg (tIf (tTest (tOp rGe (tVar 2) (tOp rPow (tC (V.int 10)) (tC (V.int 18))))) (tOp rFdiv (tVar 2) (tVar 1)) (tC (V.int 0))) (gSub (tVar 0) (tC (V.int 3)) rSetL)) (tRet (tOp rMod (tVar 2) (tVar 1))) { nx := fun _ H' => Q V.non H', rt := Q } σ H5 := by
        intro z σ es
        subst es
        have go : ∀ H6 c6, H6 d = some (.lst [.ref a, .int (i + 1), .int y, .int c6]) → Keep d H5 H6 → tRet (tOp rMod (tVar 2) (tVar 1)) { nx := fun _ H' => Q V.non H', rt := Q } [some (.ref d), some (.int m), some (.int z)] H6 := by
          intro H6 c6 e6 k6
          walk_at "wp"
          rw [Int.fmod_eq_emod_of_nonneg z (by omega)]
          exact q _ H6 (Int.emod_nonneg _ (by omega)) (Int.emod_lt_of_pos _ hm) ⟨a, ns, i + 1, y, _, e6, d5.keep k6 e5, by omega, hx0, hx1⟩ ((((s1.keep k2).same s3).trans k4).trans (k5.trans k6))
        walk_at "wp"
        refine w_dec (fun _ => ?_) (fun _ => ?_)
        · walk_at "wp"
          refine w_fdiv ⟨by omega, hl⟩ ?_
          walk_at "wp"
          exact w_setL e5 rfl fun H6 e6 k6 => go H6 _ e6 k6
        · walk_at "wp"
          exact w_setL e5 rfl fun H6 e6 k6 => go H6 _ e6 k6
      refine w_dec (fun hi => ?_) (fun hi => ?_)
      · rw [List.length_map] at hi
        walk_at "wp"
        obtain ⟨z, _, ez⟩ := atI_ints (ns := ns) (z := i + 1 - 1) (by omega) (by omega)
        exact w_ixL d5' ez (fin z _ rfl)
      · repeat (first | exact fin _ _ rfl | walk_at "wp1")
    · walk_at "wp"
      rw [Int.fmod_eq_emod_of_nonneg c (by omega)]
      exact q _ H2 (Int.emod_nonneg _ (by omega)) (Int.emod_lt_of_pos _ hm) ⟨a, ns, i, x, _, e2, d2, h3, h4, h5⟩ (s1.keep k2)
theorem c_l_dice (F : Def K mg "_law_dice" s_l_dice) (T : Fre mg) : Cal P w K mg base 1 "_law_dice" ["_law_script"] (spDice K) := by
  refine cal_of F sc_l_dice b_l_dice (fun vs H Q E h => ?_) (fun cdv A outer s H vs Q E hr h => ?_)
  · obtain ⟨a, ns, rfl, _⟩ := h
    rfl
  · obtain ⟨a, ns, rfl, hS', q⟩ := h
    have hS := hS'.sql
    have po := passes_of (X := cxOf (L2N.CX P w) P w K mg base ["_law_script", "_law_mixed", "_law_cell"] "_law_dice" (defScope s_l_dice) (He.ga K "_law_dice") cdv A outer s H E) rfl
    refine ⟨_, (pss_cons (ps_set (i := 1) sc_l_dice.nd rfl (loc_of rfl) pe_int)
      (pss_cons (ps_for po rfl (pi_list (pv 0)) (pg_name (i := 2) sc_l_dice.nd rfl (loc_of rfl)) (pss_one (ps_set (i := 1) sc_l_dice.nd rfl (loc_of rfl) (pe_op o_mod (pe_op o_add (pe_op o_add (pe_op o_mul (pv 1) pe_int) (pe_op o_mul (pe_op o_mod (pv 2) pe_int) pe_int)) pe_int) pe_int))))
      (pss_one (ps_ret (pe_lst (pa_cons (pv 0) (pa_cons pe_int (pa_cons (pe_op o_mul (pv 1) (pe_callTy c_intB (by rfl) T.f_int (by decide +kernel) (pa_cons (pe_cmpR o_gt (pe_callB (c_lenK (K := K) rfl) (by rfl) T.f_len (by decide +kernel) (pa_cons (pv 0) pa_nil)) pe_int (nomark _)) pa_nil))) (pa_cons pe_int pa_nil))))))))), ?_⟩
    refine w_start [some (.ref a), none, none] rfl ?_
    try dsimp only [cxOf]
    walk_at "wp"
    refine forL hS (fun i σ H' => ∃ x y, σ = [some (.ref a), some (.int x), y] ∧ 0 ≤ x ∧ x < 2147483647 ∧ H' = H) ⟨0, none, rfl, by omega, by omega, rfl⟩ (fun i σ H' _ h => ?_) (fun i v σ H' hv h => ?_) (fun σ H' h => ?_)
    · obtain ⟨x, y, rfl, _, _, rfl⟩ := h
      exact hS
    · obtain ⟨x, y, rfl, h0, h1, rfl⟩ := h
      obtain ⟨z, rfl⟩ : ∃ z, v = V.int z := by
        rw [List.getElem?_map] at hv
        cases e : ns[i]? with
        | none => rw [e] at hv; cases hv
        | some z => rw [e] at hv; exact ⟨z, (Option.some.inj hv).symm⟩
      have hz0 : 0 ≤ z.fmod 2147483647 := by rw [Int.fmod_eq_emod_of_nonneg _ (by omega)]; exact Int.emod_nonneg _ (by omega)
      have hz1 : z.fmod 2147483647 < 2147483647 := by rw [Int.fmod_eq_emod_of_nonneg _ (by omega)]; exact Int.emod_lt_of_pos _ (by omega)
      walk_at "wp"
      refine ⟨_, _, rfl, ?_, ?_, rfl⟩
      · rw [Int.fmod_eq_emod_of_nonneg _ (by omega)]; exact Int.emod_nonneg _ (by omega)
      · rw [Int.fmod_eq_emod_of_nonneg _ (by omega)]; exact Int.emod_lt_of_pos _ (by omega)
    · obtain ⟨x, y, rfl, h0, h1, rfl⟩ := h
      walk_at "wp"
      have hb : (if decide (2 < ((ns.map V.int).length : Int)) = true then (1 : Int) else 0) = 0 ∨ (if decide (2 < ((ns.map V.int).length : Int)) = true then (1 : Int) else 0) = 1 := by
        split
        · exact .inr rfl
        · exact .inl rfl
      generalize (if decide (2 < ((ns.map V.int).length : Int)) = true then (1 : Int) else 0) = k at *
      have hk : 0 ≤ x * k ∧ x * k < 2147483647 := by
        rcases hb with rfl | rfl
        · rw [Int.mul_zero]; omega
        · rw [Int.mul_one]; omega
      refine newL fun d H1 nd e1 s1 => ?_
      exact q d H1 nd ⟨a, ns, 0, x * k, 0, e1, hS'.same s1, by omega, hk.1, hk.2⟩ s1
end
end Lw

/-! a head by facts whose written part K is given by its addresses; the run's equation by components -/
namespace Hy
open PySem PySem.W PySem.Calls PyProof.Rows HandSHeadRun He L2
def frO {α : Type} (o : Obj) (k : Obj → α) : α := match o with
  | ⟨c, d, x, sl⟩ => k ⟨c, d, x, sl⟩
theorem frO_eq {α : Type} (o : Obj) (k : Obj → α) : frO o k = k o := by
  obtain ⟨c, d, x, sl⟩ := o
  rfl
/-- a fragment, each cell reckoned first -/
def frK {α : Type} : Frag → (Frag → α) → α
  | [], k => k []
  | (a, o) :: r, k => frNat a fun a => frO o fun o => frK r fun r => k ((a, o) :: r)
theorem frK_eq {α : Type} : ∀ (K : Frag) (k : Frag → α), frK K k = k K
  | [], _ => rfl
  | (a, o) :: r, k => by
    rw [frK, frNat_eq, frO_eq, frK_eq r]
def lwA (K : Frag) : List DefD → List FnW
  | [] => []
  | d :: r => fnW K d.at_ :: lwA K r
def lwB : List DefD → List FnW
  | [] => []
  | d :: r => d.val :: lwB r
theorem lwA_eq (K : Frag) : ∀ fn : List DefD, lwA K fn = fn.map fun d => fnW K d.at_
  | [] => rfl
  | d :: r => by rw [lwA, lwA_eq K r]; rfl
theorem lwB_eq : ∀ fn : List DefD, lwB fn = fn.map DefD.val
  | [] => rfl
  | d :: r => by rw [lwB, lwB_eq r]; rfl
def allB (K : Frag) : List (Frag → Bool) → Bool
  | [] => true
  | f :: r => match f K with
    | true => allB K r
    | false => false
theorem allB_ok {K : Frag} : ∀ {l : List (Frag → Bool)}, allB K l = true → ∀ f ∈ l, f K = true
  | [], _, f, hf => nomatch hf
  | g :: r, h, f, hf => by
    unfold allB at h
    cases e : g K with
    | false => rw [e] at h; cases h
    | true =>
      rw [e] at h
      rcases List.mem_cons.mp hf with rfl | hf
      · exact e
      · exact allB_ok h f hf
section
variable (as : List Addr) (bs : List (Frag → Bool)) (fn : List DefD)
def c1 (g : Addr → Option Obj) : Bool := frK (frG g as) fun K => allB K bs
def c2 (g : Addr → Option Obj) : List FnW := frK (frG g as) fun K => lwA K fn
end
/-- what the head says: Bools of K, its defs -/
structure Says (bs : List (Frag → Bool)) (fn : List DefD) (K : Frag) : Prop where
  b : ∀ f ∈ bs, f K = true
  d : lwA K fn = lwB fn
theorem Says.def_ {bs : List (Frag → Bool)} {fn : List DefD} {K : Frag} (c : Says bs fn K) (hb : (fn.all fun d => d.ok K) = true) (i : Nat) {d : DefD} (h : fn[i]? = some d := by rfl) : ∃ fd, FunD K d.name d.qual d.params d.body d.scope (d.dvs K) (d.kws K) (fAd K d.at_) fd := by
  have e := c.d
  rw [lwA_eq, lwB_eq] at e
  have e2 : (fn.map fun d => fnW K d.at_)[i]? = (fn.map DefD.val)[i]? := by rw [e]
  rw [List.getElem?_map, List.getElem?_map, h] at e2
  exact DefD.funD (Option.some.inj e2) (List.all_eq_true.mp hb d (List.mem_of_getElem? h))
/-- the Hook: K by its addresses, Bools of it, the defs -/
def hookY (as : List Addr) (bs : List (Frag → Bool)) (fn : List DefD) : Hook where
  α := Bool × List FnW
  obs := fun s => (c1 as bs s.heap.get?, c2 as fn s.heap.get?)
  val := fun _ => (true, lwB fn)
  says := fun _ h => ∃ K : Frag, K.In h ∧ Says bs fn K
  of := fun w s e => ⟨_, frG_in, (by
    have e1 : c1 as bs s.heap.get? = true := congrArg (fun z : Bool × List FnW => z.1) e
    unfold c1 at e1
    rw [frK_eq] at e1
    exact allB_ok e1), (by
    have e1 : c2 as fn s.heap.get? = lwB fn := congrArg (fun z : Bool × List FnW => z.2) e
    unfold c2 at e1
    rw [frK_eq] at e1
    exact e1)⟩
  keeps := fun _ _ _ ⟨K, hK, c⟩ k => ⟨K, Frag.In.keeps hK k, c⟩
def obY (as : List Addr) (bs : List (Frag → Bool)) (fn : List DefD) (s : SharedT) : Bool × List FnW := (c1 as bs (getT s), c2 as fn (getT s))
theorem obY_eq (as : List Addr) (bs : List (Frag → Bool)) (fn : List DefD) (s : SharedT) : obY as bs fn s = (hookY as bs fn).obs s.abs := by
  have e : getT s = s.abs.heap.get? := funext fun a => getT_eq s a
  unfold obY
  rw [e]
  rfl
theorem comb {α β γ : Type} {x : Option α} {f : α → β} {g : α → γ} {a : β} {b : γ} (h1 : x.map f = some a) (h2 : x.map g = some b) : x.map (fun s => (f s, g s)) = some (a, b) := by
  cases x with
  | none => cases h1
  | some s =>
    have e1 : f s = a := Option.some.inj h1
    have e2 : g s = b := Option.some.inj h2
    show some (f s, g s) = some (a, b)
    rw [e1, e2]
/-- two halves of the Bools -/
theorem c1_app {as : List Addr} {l1 l2 : List (Frag → Bool)} {α : Type} {x : Option α} {g : α → Addr → Option Obj} (h1 : x.map (fun s => c1 as l1 (g s)) = some true) (h2 : x.map (fun s => c1 as l2 (g s)) = some true) : x.map (fun s => c1 as (l1 ++ l2) (g s)) = some true := by
  cases x with
  | none => cases h1
  | some s =>
    have e1 : c1 as l1 (g s) = true := Option.some.inj h1
    have e2 : c1 as l2 (g s) = true := Option.some.inj h2
    show some (c1 as (l1 ++ l2) (g s)) = some true
    congr 1
    unfold c1 at e1 e2 ⊢
    rw [frK_eq] at e1 e2 ⊢
    generalize frG (g s) as = K at *
    clear h1 h2
    induction l1 with
    | nil => exact e2
    | cons f r ih =>
      show (match f K with | true => allB K (r ++ l2) | false => false) = true
      unfold allB at e1
      cases e : f K with
      | false => rw [e] at e1; cases e1
      | true =>
        rw [e] at e1
        exact ih e1
theorem c2_app {as : List Addr} {l1 l2 : List DefD} {α : Type} {x : Option α} {g : α → Addr → Option Obj} (h1 : x.map (fun s => c2 as l1 (g s)) = some (lwB l1)) (h2 : x.map (fun s => c2 as l2 (g s)) = some (lwB l2)) : x.map (fun s => c2 as (l1 ++ l2) (g s)) = some (lwB (l1 ++ l2)) := by
  cases x with
  | none => cases h1
  | some s =>
    have e1 : c2 as l1 (g s) = lwB l1 := Option.some.inj h1
    have e2 : c2 as l2 (g s) = lwB l2 := Option.some.inj h2
    show some (c2 as (l1 ++ l2) (g s)) = some (lwB (l1 ++ l2))
    congr 1
    unfold c2 at e1 e2 ⊢
    rw [frK_eq] at e1 e2 ⊢
    rw [lwA_eq, lwB_eq] at *
    rw [List.map_append, List.map_append, e1, e2]
end Hy

set_option maxHeartbeats 0
namespace Lw
open PySem PySem.Spec PyProof.Rows L2 Fw Htx Ob Tx Rd Lk
/-! ### what the head must say of the classes -/
def BasF (K : PySem.W.Frag) (c m : Str) : Prop := ClX.CRead K (He.ga K c) (.type "type") ∧ PySem.W.findCls K (.ref (He.ga K c)) (.type "type") m = some (.val (.ref (He.ma K (He.ga K c) m))) ∧ PySem.W.keepIn K (.ref (He.ma K (He.ga K c) m)) = true
def basB (K : PySem.W.Frag) (c m : Str) : Bool := PySem.W.readsIn K (He.ga K c) (.type "type") && (decide (PySem.W.specialIn K (.ref (He.ga K c)) "__getattribute__" = some (some (.builtin "type.__getattribute__"))) &&
  ((match PySem.W.findCls K (.ref (He.ga K c)) (.type "type") m with
    | some (.val (.ref f)) => f == He.ma K (He.ga K c) m
    | _ => false) && PySem.W.keepIn K (.ref (He.ma K (He.ga K c) m))))
theorem basB_ok {K : PySem.W.Frag} {c m : Str} (h : basB K c m = true) : BasF K c m := by
  unfold basB at h
  obtain ⟨h1, h⟩ := Bool.and_eq_true_iff.mp h
  obtain ⟨h2, h⟩ := Bool.and_eq_true_iff.mp h
  obtain ⟨h3, h4⟩ := Bool.and_eq_true_iff.mp h
  refine ⟨⟨h1, of_decide_eq_true h2⟩, ?_, h4⟩
  revert h3
  cases e : PySem.W.findCls K (.ref (He.ga K c)) (.type "type") m with
  | none => intro h; cases h
  | some x =>
    cases x with
    | val v =>
      cases v with
      | ref f =>
        intro h
        rw [beq_iff_eq.mp h]
      | _ => intro h; cases h
    | _ => intro h; cases h
def mthB (K : PySem.W.Frag) : Bool := mthL.all fun q => (He.Fa.meth q.1 q.2).ok K
theorem mthB_ok {K : PySem.W.Frag} (h : mthB K = true) : MthF K := ⟨fun c f hq => He.meth_ok (List.all_eq_true.mp h (c, f) hq)⟩
def inhB (K : PySem.W.Frag) : Bool := inhL.all fun q => He.eqO (PySem.W.findIn K (.ref (He.ga K q.1)) q.2.2) (PySem.W.findIn K (.ref (He.ga K q.2.1)) q.2.2)
theorem inhB_ok {K : PySem.W.Frag} (h : inhB K = true) : InhF K := ⟨fun c c' m hq => He.eqO_ok (List.all_eq_true.mp h (c, c', m) hq)⟩
def mkrB (K : PySem.W.Frag) : Bool := mkrL.all fun c => (He.Fa.mkr c).ok K
def gloB (K : PySem.W.Frag) : Bool := gloL.all fun c => (He.Fa.glo c).ok K
def cstB (K : PySem.W.Frag) : Bool := cstL.all fun q => q.ok K
def excB (K : PySem.W.Frag) : Bool := (excL.all fun c => exkB K c) && decide (PySem.W.typeIn K (.ref (He.ma K (He.ga K "SlopeError") "__init__")) = some (.type "function"))
structure HeadB (K : PySem.W.Frag) : Prop where
  exc : excB K = true
  cls : clsFB K clsL attL = true
  mth : mthB K = true
  inh : inhB K = true
  mkr : mkrB K = true
  glo : gloB K = true
  bas : (basL.all fun q => basB K q.1 q.2) = true
  cst : cstB K = true
  tup : ∀ b ∈ tupsB K, b = true
  bk : PySem.W.nsIn K cStatics sharingNotToldKey = some none
def headB (K : PySem.W.Frag) : Bool := excB K && (clsFB K clsL attL && (mthB K && (inhB K && (mkrB K && (gloB K && ((basL.all fun q => basB K q.1 q.2) && (cstB K && ((tupsB K).all id && He.eqO (PySem.W.nsIn K cStatics sharingNotToldKey) (some none)))))))))
theorem headB_ok {K : PySem.W.Frag} (h : headB K = true) : HeadB K := by
  unfold headB at h
  simp only [Bool.and_eq_true] at h
  obtain ⟨h1, h2, h3, h4, h5, h6, h7, h8, h9, h10⟩ := h
  exact ⟨h1, h2, h3, h4, h5, h6, h7, h8, fun b hb => List.all_eq_true.mp h9 b hb, He.eqO_ok h10⟩
/-! ### the head -/
abbrev R : PySem.W.OpenRow := PySem.W.OpenLaw.row PySem.Challenge.rw_slopesback_k04_terms_read
def looseL : List Str := (["SlopeError", "BadText", "Term", "Number", "Known", "Pairwise", "Sum", "Less", "Times", "Over", "Row", "Step", "Fill", "Called", "Rowed", "Choice", "Turns", "Part", "Program", "Reader"] : List Str) ++ (["_wall", "written", "place_told", "marks_of", "is_name", "is_number", "depth_of", "read", "_law_dice", "_law_next", "_law_style", "_law_word", "_law_said", "_law_term", "_law_messy", "SMALL", "FIGURES", "SIGNS", "WORDS", "MOST_MARKS"] : List Str) ++ (["MOST_LETTERS", "MOST_FIGURES", "MOST_BRACKETS", "MOST_ROWS", "MOST_DEEP", "MOST_PARTS", "MOST_TAKEN", "MOST_GIVEN", "MOST_TURNS", "MOST_PLACES"] : List Str)
def dd (x : Str) (st : Stmt) : He.DefD := ⟨(x, none), x, x, defArgs st, defBody st, defScope st, [], []⟩
def md0 : He.DefD := ⟨("SlopeError", some "__init__"), "__init__", "SlopeError.__init__", defArgs s_SlopeError___init__, defBody s_SlopeError___init__, defScope s_SlopeError___init__, [.int 0], []⟩
def md1 : He.DefD := ⟨("Term", some "leaves"), "leaves", "Term.leaves", defArgs s_Term_leaves, defBody s_Term_leaves, defScope s_Term_leaves, [], []⟩
def md2 : He.DefD := ⟨("Term", some "rank"), "rank", "Term.rank", defArgs s_Term_rank, defBody s_Term_rank, defScope s_Term_rank, [], []⟩
def md3 : He.DefD := ⟨("Term", some "bound"), "bound", "Term.bound", defArgs s_Term_bound, defBody s_Term_bound, defScope s_Term_bound, [], []⟩
def md4 : He.DefD := ⟨("Number", some "__init__"), "__init__", "Number.__init__", defArgs s_Number___init__, defBody s_Number___init__, defScope s_Number___init__, [], []⟩
def md5 : He.DefD := ⟨("Number", some "told"), "told", "Number.told", defArgs s_Number_told, defBody s_Number_told, defScope s_Number_told, [], []⟩
def md6 : He.DefD := ⟨("Number", some "worth"), "worth", "Number.worth", defArgs s_Number_worth, defBody s_Number_worth, defScope s_Number_worth, [], []⟩
def md7 : He.DefD := ⟨("Number", some "slope"), "slope", "Number.slope", defArgs s_Number_slope, defBody s_Number_slope, defScope s_Number_slope, [], []⟩
def md8 : He.DefD := ⟨("Number", some "reckoned"), "reckoned", "Number.reckoned", defArgs s_Number_reckoned, defBody s_Number_reckoned, defScope s_Number_reckoned, [], []⟩
def md9 : He.DefD := ⟨("Number", some "looked"), "looked", "Number.looked", defArgs s_Number_looked, defBody s_Number_looked, defScope s_Number_looked, [], []⟩
def md10 : He.DefD := ⟨("Known", some "__init__"), "__init__", "Known.__init__", defArgs s_Known___init__, defBody s_Known___init__, defScope s_Known___init__, [], []⟩
def md11 : He.DefD := ⟨("Known", some "told"), "told", "Known.told", defArgs s_Known_told, defBody s_Known_told, defScope s_Known_told, [], []⟩
def md12 : He.DefD := ⟨("Known", some "worth"), "worth", "Known.worth", defArgs s_Known_worth, defBody s_Known_worth, defScope s_Known_worth, [], []⟩
def md13 : He.DefD := ⟨("Known", some "slope"), "slope", "Known.slope", defArgs s_Known_slope, defBody s_Known_slope, defScope s_Known_slope, [], []⟩
def md14 : He.DefD := ⟨("Known", some "reckoned"), "reckoned", "Known.reckoned", defArgs s_Known_reckoned, defBody s_Known_reckoned, defScope s_Known_reckoned, [], []⟩
def md15 : He.DefD := ⟨("Known", some "looked"), "looked", "Known.looked", defArgs s_Known_looked, defBody s_Known_looked, defScope s_Known_looked, [], []⟩
def md16 : He.DefD := ⟨("Pairwise", some "__init__"), "__init__", "Pairwise.__init__", defArgs s_Pairwise___init__, defBody s_Pairwise___init__, defScope s_Pairwise___init__, [], []⟩
def md17 : He.DefD := ⟨("Pairwise", some "leaves"), "leaves", "Pairwise.leaves", defArgs s_Pairwise_leaves, defBody s_Pairwise_leaves, defScope s_Pairwise_leaves, [], []⟩
def md18 : He.DefD := ⟨("Pairwise", some "told"), "told", "Pairwise.told", defArgs s_Pairwise_told, defBody s_Pairwise_told, defScope s_Pairwise_told, [], []⟩
def md19 : He.DefD := ⟨("Pairwise", some "worth"), "worth", "Pairwise.worth", defArgs s_Pairwise_worth, defBody s_Pairwise_worth, defScope s_Pairwise_worth, [], []⟩
def md20 : He.DefD := ⟨("Pairwise", some "reckoned"), "reckoned", "Pairwise.reckoned", defArgs s_Pairwise_reckoned, defBody s_Pairwise_reckoned, defScope s_Pairwise_reckoned, [], []⟩
def md21 : He.DefD := ⟨("Pairwise", some "looked"), "looked", "Pairwise.looked", defArgs s_Pairwise_looked, defBody s_Pairwise_looked, defScope s_Pairwise_looked, [], []⟩
def md22 : He.DefD := ⟨("Sum", some "__init__"), "__init__", "Sum.__init__", defArgs s_Sum___init__, defBody s_Sum___init__, defScope s_Sum___init__, [], []⟩
def md23 : He.DefD := ⟨("Sum", some "rank"), "rank", "Sum.rank", defArgs s_Sum_rank, defBody s_Sum_rank, defScope s_Sum_rank, [], []⟩
def md24 : He.DefD := ⟨("Sum", some "slope"), "slope", "Sum.slope", defArgs s_Sum_slope, defBody s_Sum_slope, defScope s_Sum_slope, [], []⟩
def md25 : He.DefD := ⟨("Less", some "__init__"), "__init__", "Less.__init__", defArgs s_Less___init__, defBody s_Less___init__, defScope s_Less___init__, [], []⟩
def md26 : He.DefD := ⟨("Less", some "rank"), "rank", "Less.rank", defArgs s_Less_rank, defBody s_Less_rank, defScope s_Less_rank, [], []⟩
def md27 : He.DefD := ⟨("Less", some "slope"), "slope", "Less.slope", defArgs s_Less_slope, defBody s_Less_slope, defScope s_Less_slope, [], []⟩
def md28 : He.DefD := ⟨("Times", some "__init__"), "__init__", "Times.__init__", defArgs s_Times___init__, defBody s_Times___init__, defScope s_Times___init__, [], []⟩
def md29 : He.DefD := ⟨("Times", some "rank"), "rank", "Times.rank", defArgs s_Times_rank, defBody s_Times_rank, defScope s_Times_rank, [], []⟩
def md30 : He.DefD := ⟨("Times", some "slope"), "slope", "Times.slope", defArgs s_Times_slope, defBody s_Times_slope, defScope s_Times_slope, [], []⟩
def md31 : He.DefD := ⟨("Over", some "__init__"), "__init__", "Over.__init__", defArgs s_Over___init__, defBody s_Over___init__, defScope s_Over___init__, [], []⟩
def md32 : He.DefD := ⟨("Over", some "rank"), "rank", "Over.rank", defArgs s_Over_rank, defBody s_Over_rank, defScope s_Over_rank, [], []⟩
def md33 : He.DefD := ⟨("Over", some "slope"), "slope", "Over.slope", defArgs s_Over_slope, defBody s_Over_slope, defScope s_Over_slope, [], []⟩
def md34 : He.DefD := ⟨("Row", some "__init__"), "__init__", "Row.__init__", defArgs s_Row___init__, defBody s_Row___init__, defScope s_Row___init__, [], []⟩
def md35 : He.DefD := ⟨("Row", some "bad"), "bad", "Row.bad", defArgs s_Row_bad, defBody s_Row_bad, defScope s_Row_bad, [], []⟩
def md36 : He.DefD := ⟨("Row", some "now"), "now", "Row.now", defArgs s_Row_now, defBody s_Row_now, defScope s_Row_now, [], []⟩
def md37 : He.DefD := ⟨("Row", some "behind"), "behind", "Row.behind", defArgs s_Row_behind, defBody s_Row_behind, defScope s_Row_behind, [], []⟩
def md38 : He.DefD := ⟨("Row", some "took"), "took", "Row.took", defArgs s_Row_took, defBody s_Row_took, defScope s_Row_took, [], []⟩
def md39 : He.DefD := ⟨("Row", some "must"), "must", "Row.must", defArgs s_Row_must, defBody s_Row_must, defScope s_Row_must, [], []⟩
def md40 : He.DefD := ⟨("Row", some "ended"), "ended", "Row.ended", defArgs s_Row_ended, defBody s_Row_ended, defScope s_Row_ended, [], []⟩
def md41 : He.DefD := ⟨("Row", some "read_name"), "read_name", "Row.read_name", defArgs s_Row_read_name, defBody s_Row_read_name, defScope s_Row_read_name, [], []⟩
def md42 : He.DefD := ⟨("Row", some "read_whole"), "read_whole", "Row.read_whole", defArgs s_Row_read_whole, defBody s_Row_read_whole, defScope s_Row_read_whole, [], []⟩
def md43 : He.DefD := ⟨("Row", some "read_place"), "read_place", "Row.read_place", defArgs s_Row_read_place, defBody s_Row_read_place, defScope s_Row_read_place, [], []⟩
def md44 : He.DefD := ⟨("Row", some "read_known"), "read_known", "Row.read_known", defArgs s_Row_read_known, defBody s_Row_read_known, defScope s_Row_read_known, [], []⟩
def md45 : He.DefD := ⟨("Row", some "read_unit"), "read_unit", "Row.read_unit", defArgs s_Row_read_unit, defBody s_Row_read_unit, defScope s_Row_read_unit, [], []⟩
def md46 : He.DefD := ⟨("Row", some "read_product"), "read_product", "Row.read_product", defArgs s_Row_read_product, defBody s_Row_read_product, defScope s_Row_read_product, [], []⟩
def md47 : He.DefD := ⟨("Row", some "read_term"), "read_term", "Row.read_term", defArgs s_Row_read_term, defBody s_Row_read_term, defScope s_Row_read_term, [], []⟩
def md48 : He.DefD := ⟨("Row", some "read_terms"), "read_terms", "Row.read_terms", defArgs s_Row_read_terms, defBody s_Row_read_terms, defScope s_Row_read_terms, [], []⟩
def md49 : He.DefD := ⟨("Row", some "read_names"), "read_names", "Row.read_names", defArgs s_Row_read_names, defBody s_Row_read_names, defScope s_Row_read_names, [], []⟩
def md50 : He.DefD := ⟨("Step", some "__init__"), "__init__", "Step.__init__", defArgs s_Step___init__, defBody s_Step___init__, defScope s_Step___init__, [], []⟩
def md51 : He.DefD := ⟨("Fill", some "__init__"), "__init__", "Fill.__init__", defArgs s_Fill___init__, defBody s_Fill___init__, defScope s_Fill___init__, [], []⟩
def md52 : He.DefD := ⟨("Fill", some "done"), "done", "Fill.done", defArgs s_Fill_done, defBody s_Fill_done, defScope s_Fill_done, [], []⟩
def md53 : He.DefD := ⟨("Fill", some "looked"), "looked", "Fill.looked", defArgs s_Fill_looked, defBody s_Fill_looked, defScope s_Fill_looked, [], []⟩
def md54 : He.DefD := ⟨("Fill", some "told"), "told", "Fill.told", defArgs s_Fill_told, defBody s_Fill_told, defScope s_Fill_told, [], []⟩
def md55 : He.DefD := ⟨("Called", some "__init__"), "__init__", "Called.__init__", defArgs s_Called___init__, defBody s_Called___init__, defScope s_Called___init__, [], []⟩
def md56 : He.DefD := ⟨("Called", some "done"), "done", "Called.done", defArgs s_Called_done, defBody s_Called_done, defScope s_Called_done, [], []⟩
def md57 : He.DefD := ⟨("Called", some "looked"), "looked", "Called.looked", defArgs s_Called_looked, defBody s_Called_looked, defScope s_Called_looked, [], []⟩
def md58 : He.DefD := ⟨("Called", some "told"), "told", "Called.told", defArgs s_Called_told, defBody s_Called_told, defScope s_Called_told, [], []⟩
def md59 : He.DefD := ⟨("Rowed", some "__init__"), "__init__", "Rowed.__init__", defArgs s_Rowed___init__, defBody s_Rowed___init__, defScope s_Rowed___init__, [], []⟩
def md60 : He.DefD := ⟨("Rowed", some "done"), "done", "Rowed.done", defArgs s_Rowed_done, defBody s_Rowed_done, defScope s_Rowed_done, [], []⟩
def md61 : He.DefD := ⟨("Rowed", some "looked"), "looked", "Rowed.looked", defArgs s_Rowed_looked, defBody s_Rowed_looked, defScope s_Rowed_looked, [], []⟩
def md62 : He.DefD := ⟨("Rowed", some "told"), "told", "Rowed.told", defArgs s_Rowed_told, defBody s_Rowed_told, defScope s_Rowed_told, [], []⟩
def md63 : He.DefD := ⟨("Choice", some "__init__"), "__init__", "Choice.__init__", defArgs s_Choice___init__, defBody s_Choice___init__, defScope s_Choice___init__, [], []⟩
def md64 : He.DefD := ⟨("Choice", some "done"), "done", "Choice.done", defArgs s_Choice_done, defBody s_Choice_done, defScope s_Choice_done, [], []⟩
def md65 : He.DefD := ⟨("Choice", some "looked"), "looked", "Choice.looked", defArgs s_Choice_looked, defBody s_Choice_looked, defScope s_Choice_looked, [], []⟩
def md66 : He.DefD := ⟨("Choice", some "told"), "told", "Choice.told", defArgs s_Choice_told, defBody s_Choice_told, defScope s_Choice_told, [], []⟩
def md67 : He.DefD := ⟨("Turns", some "__init__"), "__init__", "Turns.__init__", defArgs s_Turns___init__, defBody s_Turns___init__, defScope s_Turns___init__, [], []⟩
def md68 : He.DefD := ⟨("Turns", some "done"), "done", "Turns.done", defArgs s_Turns_done, defBody s_Turns_done, defScope s_Turns_done, [], []⟩
def md69 : He.DefD := ⟨("Turns", some "looked"), "looked", "Turns.looked", defArgs s_Turns_looked, defBody s_Turns_looked, defScope s_Turns_looked, [], []⟩
def md70 : He.DefD := ⟨("Turns", some "told"), "told", "Turns.told", defArgs s_Turns_told, defBody s_Turns_told, defScope s_Turns_told, [], []⟩
def md71 : He.DefD := ⟨("Part", some "__init__"), "__init__", "Part.__init__", defArgs s_Part___init__, defBody s_Part___init__, defScope s_Part___init__, [], []⟩
def md72 : He.DefD := ⟨("Part", some "told"), "told", "Part.told", defArgs s_Part_told, defBody s_Part_told, defScope s_Part_told, [], []⟩
def md73 : He.DefD := ⟨("Program", some "__init__"), "__init__", "Program.__init__", defArgs s_Program___init__, defBody s_Program___init__, defScope s_Program___init__, [], []⟩
def md74 : He.DefD := ⟨("Program", some "main"), "main", "Program.main", defArgs s_Program_main, defBody s_Program_main, defScope s_Program_main, [], []⟩
def md75 : He.DefD := ⟨("Program", some "told"), "told", "Program.told", defArgs s_Program_told, defBody s_Program_told, defScope s_Program_told, [], []⟩
def md76 : He.DefD := ⟨("Reader", some "__init__"), "__init__", "Reader.__init__", defArgs s_Reader___init__, defBody s_Reader___init__, defScope s_Reader___init__, [], []⟩
def md77 : He.DefD := ⟨("Reader", some "bad"), "bad", "Reader.bad", defArgs s_Reader_bad, defBody s_Reader_bad, defScope s_Reader_bad, [], []⟩
def md78 : He.DefD := ⟨("Reader", some "first"), "first", "Reader.first", defArgs s_Reader_first, defBody s_Reader_first, defScope s_Reader_first, [], []⟩
def md79 : He.DefD := ⟨("Reader", some "taken"), "taken", "Reader.taken", defArgs s_Reader_taken, defBody s_Reader_taken, defScope s_Reader_taken, [], []⟩
def md80 : He.DefD := ⟨("Reader", some "read_program"), "read_program", "Reader.read_program", defArgs s_Reader_read_program, defBody s_Reader_read_program, defScope s_Reader_read_program, [], []⟩
def md81 : He.DefD := ⟨("Reader", some "read_part"), "read_part", "Reader.read_part", defArgs s_Reader_read_part, defBody s_Reader_read_part, defScope s_Reader_read_part, [], []⟩
def md82 : He.DefD := ⟨("Reader", some "read_steps"), "read_steps", "Reader.read_steps", defArgs s_Reader_read_steps, defBody s_Reader_read_steps, defScope s_Reader_read_steps, [], []⟩
def md83 : He.DefD := ⟨("Reader", some "read_block"), "read_block", "Reader.read_block", defArgs s_Reader_read_block, defBody s_Reader_read_block, defScope s_Reader_read_block, [], []⟩
def md84 : He.DefD := ⟨("Reader", some "read_step"), "read_step", "Reader.read_step", defArgs s_Reader_read_step, defBody s_Reader_read_step, defScope s_Reader_read_step, [], []⟩
def md85 : He.DefD := ⟨("Reader", some "read_choice"), "read_choice", "Reader.read_choice", defArgs s_Reader_read_choice, defBody s_Reader_read_choice, defScope s_Reader_read_choice, [], []⟩
def md86 : He.DefD := ⟨("Reader", some "read_filled"), "read_filled", "Reader.read_filled", defArgs s_Reader_read_filled, defBody s_Reader_read_filled, defScope s_Reader_read_filled, [], []⟩
def fn : List He.DefD := [dd "_wall" s__wall, dd "written" s_written, dd "place_told" s_place_told, dd "marks_of" s_marks_of, dd "is_name" s_is_name, dd "is_number" s_is_number, dd "depth_of" s_depth_of, dd "read" s_read, dd "_law_dice" s_l_dice, dd "_law_next" s_l_next, dd "_law_style" s_l_style, dd "_law_word" s_l_word, dd "_law_said" s_l_said, dd "_law_term" s_l_term, dd "_law_messy" s_l_messy, dd "law" s_law, md0, md1, md2, md3, md4, md5, md6, md7, md8, md9, md10, md11, md12, md13, md14, md15, md16, md17, md18, md19, md20, md21, md22, md23, md24, md25, md26, md27, md28, md29, md30, md31, md32, md33, md34, md35, md36, md37, md38, md39, md40, md41, md42, md43, md44, md45, md46, md47, md48, md49, md50, md51, md52, md53, md54, md55, md56, md57, md58, md59, md60, md61, md62, md63, md64, md65, md66, md67, md68, md69, md70, md71, md72, md73, md74, md75, md76, md77, md78, md79, md80, md81, md82, md83, md84, md85, md86]
def fa : List He.Fa := [.glo "_wall", .glo "written", .glo "place_told", .glo "marks_of", .glo "is_name", .glo "is_number", .glo "depth_of", .glo "read", .glo "_law_dice", .glo "_law_next", .glo "_law_style", .glo "_law_word", .glo "_law_said", .glo "_law_term", .glo "_law_messy", .glo "law", .free "len", .free "int", .free "bool", .free "str", .free "isinstance", .free "range", .free "ValueError"]
def asL : List Addr := ([3, 39, 52, 99, 155, 209, 263, 296, 329, 362, 395, 541, 562, 604, 642, 682, 722, 762, 786, 821, 919, 38, 51, 98, 154, 208, 262, 295, 328, 361] : List Addr) ++ ([394, 540, 561, 603, 641, 681, 721, 761, 785, 820, 918, 21, 61, 68, 405, 412, 419, 832, 930, 937, 944, 951, 958, 965, 972, 979, 984, 36, 82, 89] : List Addr) ++ ([96, 117, 124, 131, 138, 145, 152, 171, 178, 185, 192, 199, 206, 225, 232, 239, 246, 253, 260, 279, 286, 293, 312, 319, 326, 345, 352, 359, 378, 385] : List Addr) ++ ([392, 433, 440, 447, 454, 461, 468, 475, 482, 489, 496, 503, 510, 517, 524, 531, 538, 559, 580, 587, 594, 601, 620, 627, 634, 639, 658, 665, 672, 679] : List Addr) ++ ([698, 705, 712, 719, 738, 745, 752, 759, 778, 783, 804, 811, 818, 846, 853, 860, 867, 874, 881, 888, 895, 902, 909, 916, 20, 60, 67, 404, 411, 418] : List Addr) ++ ([831, 929, 936, 943, 950, 957, 964, 971, 978, 983, 35, 81, 88, 95, 116, 123, 130, 137, 144, 151, 170, 177, 184, 191, 198, 205, 224, 231, 238, 245] : List Addr) ++ ([252, 259, 278, 285, 292, 311, 318, 325, 344, 351, 358, 377, 384, 391, 432, 439, 446, 453, 460, 467, 474, 481, 488, 495, 502, 509, 516, 523, 530, 537] : List Addr) ++ ([558, 579, 586, 593, 600, 619, 626, 633, 638, 657, 664, 671, 678, 697, 704, 711, 718, 737, 744, 751, 758, 777, 782, 803, 810, 817, 845, 852, 859, 866] : List Addr) ++ ([873, 880, 887, 894, 901, 908, 915, 29, 6, 4, 398, 37, 40, 50, 97, 100, 101, 153, 207, 261, 294, 327, 360, 393, 539, 542, 543, 560, 563, 564] : List Addr) ++ ([602, 640, 680, 720, 760, 784, 787, 788, 819, 822, 823, 917, 920, 921, 0, 1, 2, 5, 7, 8, 9, 10] : List Addr)
def fnL : PySem.W.Frag → Bool := fun K => fn.all fun d => d.ok K
def faL : PySem.W.Frag → Bool := fun K => fa.all fun d => d.ok K
def bsL : List (PySem.W.Frag → Bool) := [fnL, faL, headB]
abbrev hk : PySem.W.Hook := Hy.hookY asL bsL fn
def ob (s : PySem.W.SharedT) : Bool × List He.FnW := Hy.obY asL bsL fn s
theorem ob_eq (s : PySem.W.SharedT) : ob s = hk.obs s.abs := Hy.obY_eq _ _ _ s
theorem run (w : World) : HandSHeadRun.RunEq R (PySem.W.view R.prog [57]) hk ob 40000 Lw.looseL w := by
  intro os
  kernel_rfl
end Lw

namespace Lw
open PySem PySem.Spec PyProof.Rows L2 Fw Htx Ob Tx Rd Lk
local macro_rules | `(tactic| walk_at "cond") => `(tactic| first | assumption | (with_reducible exact cdiv_small (by omega) (by omega)) | (with_reducible exact cmul_small (by omega) (by omega)) | (with_reducible exact cpow_mk (by omega) (by omega) (by omega)) | omega)
local macro_rules | `(tactic| walk_at "ne") => `(tactic| first | assumption | exact Ne.symm (by assumption) | exact ne_of_none (by assumption) (by assumption) | exact Ne.symm (ne_of_none (by assumption) (by assumption)))
local macro_rules | `(tactic| walk_at "at") => `(tactic| first
  | assumption
  | (with_reducible exact upd_same)
  | ((with_reducible refine' at_same ?hk ?hh); (case hk => assumption); (case hh => walk_at "at"))
  | ((with_reducible refine' at_keepT ?hk ?hh ?hd); (case hk => assumption); (case hh => walk_at "at"); (case hd => walk_at "at"))
  | ((with_reducible refine' at_keep ?hk ?hh ?hn); (case hk => assumption); (case hh => walk_at "at"); (case hn => walk_at "ne")))
local macro_rules | `(tactic| walk_at "hp") => `(tactic| first
  | assumption
  | (with_reducible exact FrL.sql (by assumption))
  | ((with_reducible refine' SqT.of ?hq); (case hq => walk_at "at")) | ((with_reducible refine' SqL.of ?hq); (case hq => walk_at "at"))
  | ((with_reducible refine' sql_same ?hk ?hh); (case hk => assumption); (case hh => walk_at "hp"))
  | ((with_reducible refine' sql_keep ?hk ?hh ?hn); (case hk => assumption); (case hh => walk_at "hp"); (case hn => walk_at "ne"))
  | ((with_reducible refine' sqt_same ?hk ?hh); (case hk => assumption); (case hh => walk_at "hp")))
local macro_rules | `(tactic| walk_at "wp1") => `(tactic| first
  | with_reducible refine w_mt ?_ | ((with_reducible refine' w_mt1 ?ha ?hl ?_); (case ha => walk_at "at"); (case hl => rfl))
  | with_reducible refine w_fld ?_ | ((with_reducible refine' w_fld1 ?ha (ClsF.cl (cs := clsL) (as := attL) (by assumption) _ ?hc) (ClsF.no (cs := clsL) (as := attL) (by assumption) _ _ ?hn) ?hl ?_); (case ha => walk_at "at"); (case hc => decide +kernel); (case hn => decide +kernel); (case hl => rfl))
  | with_reducible refine w_sfld ?_ | ((with_reducible refine' w_sfld1 ?ha (ClsF.cl (cs := clsL) (as := attL) (by assumption) _ ?hc) (ClsF.no (cs := clsL) (as := attL) (by assumption) _ _ ?hn) ?he ?hl ?_); (case ha => walk_at "at"); (case hc => decide +kernel); (case hn => decide +kernel); (case he => rfl); (case hl => rfl))
  | with_reducible refine w_lk ?_ | ((with_reducible refine' lkL ?ha ?_); (case ha => walk_at "at")) | with_reducible refine w_mkS ?_ | with_reducible refine w_mk ?_ | with_reducible refine w_bas ?_ | with_reducible refine w_m1 ?_ | with_reducible refine w_isS ?_ | with_reducible refine w_bm0 ?_ | with_reducible refine w_iS ?_ | with_reducible refine w_chain ?_
  | with_reducible refine w_inSg ?_ | with_reducible refine w_ninSg ?_
  | with_reducible refine w_rz ?_ | with_reducible refine w_calX ?_ | with_reducible refine w_calS ?_ | with_reducible refine w_row ?_
  | with_reducible refine w_seq ?_ | with_reducible refine w_set ?_ | with_reducible refine w_drop ?_ | with_reducible refine w_ret ?_ | with_reducible refine w_ifS ?_ | with_reducible refine w_next ?_
  | ((with_reducible refine' w_var ?hv ?_); (case hv => rfl)) | with_reducible refine w_c ?_
  | with_reducible refine w_op ?_ | with_reducible refine w_un ?_ | with_reducible refine w_cb ?_ | with_reducible refine w_cal ?_ | with_reducible refine w_cons ?_ | with_reducible refine w_nil ?_
  | with_reducible refine w_plus ?_ | with_reducible refine w_minus ?_ | with_reducible refine w_lt ?_ | with_reducible refine w_le ?_ | with_reducible refine w_gt ?_ | with_reducible refine w_ge ?_
  | with_reducible refine w_eqI ?_ | with_reducible refine w_neI ?_ | with_reducible refine w_eqB ?_ | with_reducible refine w_neB ?_ | with_reducible refine w_eqS ?_ | with_reducible refine w_neS ?_
  | with_reducible refine w_neg ?_ | with_reducible refine w_abs ?_ | with_reducible refine w_intB ?_ | with_reducible refine w_test ?_ | with_reducible refine w_tB ?_ | with_reducible refine w_bl ?_
  | with_reducible refine w_and ?_ | with_reducible refine w_or ?_ | with_reducible refine w_not ?_ | with_reducible refine w_andV ?_ | with_reducible refine w_orV ?_ | with_reducible refine w_notV ?_ | with_reducible refine w_ifE ?_
  | with_reducible refine w_nyes ?_ | with_reducible refine w_nno ?_ | with_reducible refine w_yes ?_ | with_reducible refine w_no ?_
  | ((with_reducible refine' w_ixL ?ha ?hb ?_); (case ha => walk_at "hp"); (case hb => rfl)) | ((with_reducible refine' w_ixT ?ha ?hb ?_); (case ha => walk_at "hp"); (case hb => rfl))
  | ((with_reducible refine' w_lenL ?ha ?_); (case ha => walk_at "hp")) | ((with_reducible refine' w_lenT ?ha ?_); (case ha => walk_at "hp"))
  | with_reducible refine w_min2 ?_ | with_reducible refine w_max2 ?_ | with_reducible refine w_bm ?_ | with_reducible refine w_lc ?_ | ((with_reducible refine' w_tyL ?ha ?_); (case ha => walk_at "at"))
  | with_reducible refine isi_ii ?_ | with_reducible refine isi_ib ?_ | with_reducible refine isi_bb ?_ | with_reducible refine isi_ss ?_
  | ((with_reducible refine' isi_tt ?ha ?_); (case ha => walk_at "at")) | ((with_reducible refine' isi_ll ?ha ?_); (case ha => walk_at "at"))
  | with_reducible refine w_par ?_ | with_reducible refine w_par2 ?_ | with_reducible refine w_for ?_ | with_reducible refine w_iL ?_ | with_reducible refine w_iT ?_ | with_reducible refine w_iR1 ?_ | with_reducible refine w_iR2 ?_
  | with_reducible refine w_tup ?_ | with_reducible refine w_lst ?_
  | with_reducible refine w_asg ?_ | with_reducible refine w_gname ?_ | with_reducible refine w_gcons ?_ | with_reducible refine w_gnil ?_ | with_reducible refine w_gsub ?_
  | ((with_reducible refine' w_gtup ?ha ?hb ?_); (case ha => walk_at "hp"); (case hb => rfl))
  | ((with_reducible refine' w_fdiv ?hc ?_); (case hc => walk_at "cond")) | ((with_reducible refine' w_mul ?hc ?_); (case hc => walk_at "cond"))
  | ((with_reducible refine' w_mod ?hc ?_); (case hc => walk_at "cond")) | ((with_reducible refine' w_pow ?hc ?_); (case hc => walk_at "cond")))
local macro_rules | `(tactic| walk_at "wp") => `(tactic| repeat walk_at "wp1")
section
variable {P : Program} {w : World} {K : PySem.W.Frag} {mg : Str → Option Value} {base : Heap}
/-! ### SlopeError.__init__ -/
def IniD (K : PySem.W.Frag) : Prop := ∃ fd, FunD K "__init__" "SlopeError.__init__" (defArgs s_SlopeError___init__) (defBody s_SlopeError___init__) (defScope s_SlopeError___init__) [.int 0] [] (He.ma K (He.ga K "SlopeError") "__init__") fd
theorem ini_fn {fd : FuncData} (F : FunD K "__init__" "SlopeError.__init__" (defArgs s_SlopeError___init__) (defBody s_SlopeError___init__) (defScope s_SlopeError___init__) [.int 0] [] (He.ma K (He.ga K "SlopeError") "__init__") fd) (T : Fre mg) :
    FnOk P w K mg base (L2N.CX P w) 1 (He.ma K (He.ga K "SlopeError") "__init__") fd ["self", "words", "row"] (spInit K) := by
  refine F.ok sc_SlopeError___init__ (fun vs H Q E h => ?_) (fun cdv A outer s H vs Q E hr h => ?_)
  · obtain ⟨_, _, _, _, rfl, _⟩ := h
    rfl
  · obtain ⟨a, C, wv, r, rfl, T1, hrow, ha, q⟩ := h
    refine ⟨_, pss_cons (ps_expr (pe_veinit (by rfl) T.f_ValueError (by first | rfl | kernel_rfl) (pa_cons (pv 0) (pa_cons (pv 1) pa_nil)))) (pss_one (ps_ost (pv 0) (pv 2))), ?_⟩
    refine w_start [some (.ref a), some wv, some r] rfl ?_
    try dsimp only [cxOf]
    refine ⟨.ref a, rfl, wv, rfl, a, C, [wv], rfl, Nat.le_of_ble_eq_true rfl, T1, ha, ?_⟩
    exact ⟨r, rfl, .ref a, rfl, a, C, rfl, T1, hrow, .inl ⟨ha, fun d nd nda => q d nd nda⟩⟩
theorem ini1_of (F : IniD K) (T : Fre mg) (ty : PySem.W.typeIn K (.ref (He.ma K (He.ga K "SlopeError") "__init__")) = some (.type "function")) : IniOk P w K mg base [.int 0] := by
  obtain ⟨fd, F⟩ := F
  obtain ⟨ds, h1, h2⟩ := F.binds1 (ps := ["self", "words", "row"]) 2 0 (by simp) rfl fun TT kV doc pm an cdv ct us its hu hi => by
    match us, hu, its, hi with
    | [_, _], _, [_], _ => exact ⟨_, rfl, rfl⟩
  exact ⟨⟨fd, ds, ini_fn F T, h1, h2⟩, ty⟩
theorem ini2_of (F : IniD K) (T : Fre mg) (ty : PySem.W.typeIn K (.ref (He.ma K (He.ga K "SlopeError") "__init__")) = some (.type "function")) : IniOk P w K mg base [] := by
  obtain ⟨fd, F⟩ := F
  obtain ⟨ds, h1, h2⟩ := F.binds1 (ps := ["self", "words", "row"]) 3 1 (by simp) rfl fun TT kV doc pm an cdv ct us its hu hi => by
    match us, hu, its, hi with
    | [_, _, _], _, [_], _ => exact ⟨_, rfl, rfl⟩
  exact ⟨⟨fd, ds, ini_fn F T, h1, h2⟩, ty⟩
-- CHAIN have Z_BadText : Exk K mg "BadText" := hZ "BadText" (by decide +kernel)
-- CHAIN have ini2 : IniOk P w K mg base [] := ini2_of ini T ty
/-! ### marks -/
/-- a refusal of the text, told with row n -/
def BadE (K : PySem.W.Frag) (E : XK) (n : Int) (H : Hp) : Prop := ∀ d H', H d = none → H' d = some (.xd [("row", .int n)]) → Same H H' → E (.ref (He.ga K "BadText")) (some d) H'
theorem BadE.same {E : XK} {n : Int} {H H1 : Hp} (h : BadE K E n H) (s : Same H H1) : BadE K E n H1 := fun d H' nd ed sd => h d H' (by
  cases e : H d with
  | none => rfl
  | some o =>
    rw [s d o e] at nd
    cases nd) ed (s.trans sd)
def gS : Option Nat → Str
  | none => ""
  | some k => one k
theorem gS_eq (k : Nat) (g : Option Nat) : decide (one k = gS g) = decide (g = some k) := by
  cases g with
  | none => simp [gS, one_ne]
  | some j =>
    simp only [gS, one, Option.some.injEq]
    by_cases h : j = k
    · subst h
      simp
    · have h' : ¬ k = j := fun z => h z.symm
      simp [h, h']
def spMarks (K : PySem.W.Frag) : Sp := fun vs H Q E => ∃ (z : Str) (n : Int), vs = [.str z, .int n] ∧ z.length ≤ 10000 ∧
  match marksM z.cps.toList with
  | some ms => ∀ p H', H p = none → H' p = some (.lst (ms.map V.str)) → Same H H' → Q (.ref p) H'
  | none => BadE K E n H
section
variable (T : Fre mg) (CS : Cst K mg) (CF : ClsF K clsL attL) (Z_BadText : Exk K mg "BadText") (ini2 : IniOk P w K mg base [])
include T CS Z_BadText ini2
theorem c_marks_of (F : Def K mg "marks_of" s_marks_of) : Cal P w K mg base 3 "marks_of" ["text", "row"] (spMarks K) := by
  refine cal_of F sc_marks_of b_marks_of (fun vs H Q E h => ?_) (fun cdv A outer s H vs Q E hr h => ?_)
  · obtain ⟨_, _, rfl, _⟩ := h
    rfl
  · obtain ⟨z, n, rfl, hz, h⟩ := h
    have g_SMALL := CS.g_SMALL
    have g_FIGURES := CS.g_FIGURES
    have g_SIGNS := CS.g_SIGNS
    have g_MOST_MARKS := CS.g_MOST_MARKS
    have po := passes_of (X := cxOf (L2N.CX P w) P w K mg base ["text", "row", "marks", "glued", "sign", "kind"] "marks_of" (defScope s_marks_of) (He.ga K "marks_of") cdv A outer s H E) rfl
    have tk := L2N.takes_of (X := cxOf (L2N.CX P w) P w K mg base ["text", "row", "marks", "glued", "sign", "kind"] "marks_of" (defScope s_marks_of) (He.ga K "marks_of") cdv A outer s H E) (E := E) rfl rfl rfl rfl
    have hu64 : (cxOf (L2N.CX P w) P w K mg base ["text", "row", "marks", "glued", "sign", "kind"] "marks_of" (defScope s_marks_of) (He.ga K "marks_of") cdv A outer s H E).A.units + 64 < cLine := by
      have := hr.un
      show (A.deeper _).units + 64 < cLine
      omega
    refine ⟨_, (pss_cons (ps_set (i := 2) sc_marks_of.nd rfl (loc_of rfl) (pe_lst pa_nil))
      (pss_cons (ps_set (i := 3) sc_marks_of.nd rfl (loc_of rfl) pe_str)
      (pss_cons (ps_for po rfl (pi_str (pv 0)) (pg_name (i := 4) sc_marks_of.nd rfl (loc_of rfl)) (pss_cons (ps_set (i := 5) sc_marks_of.nd rfl (loc_of rfl) (pv 4))
      (Evl.pss_cut (ps_if (pt_cmpR o_inSg (pv 4) (C8.pe_gc (v := .str "abcdefghijklmnopqrstuvwxyz") (by rfl) g_SMALL) (by rfl)) (pss_one (ps_set (i := 5) sc_marks_of.nd rfl (loc_of rfl) pe_str)) pss_nil)
      (Evl.pss_cut (ps_if (pt_cmpR o_inSg (pv 4) (C8.pe_gc (v := .str "0123456789") (by rfl) g_FIGURES) (by rfl)) (pss_one (ps_set (i := 5) sc_marks_of.nd rfl (loc_of rfl) pe_str)) pss_nil)
      (Evl.pss_cut (ps_if (pt_cmpR op_eq (pv 5) (pv 3) (nomark _)) (pss_one (ps_expr (pe_bm PySem.F.plainAttrs_list PySem.F.slot_list_append PySem.F.type_list_append mt_append (pv 2) (pa_cons (pe_op o_catS (pe_bm0 PySem.F.plainAttrs_list PySem.F.slot_list_pop PySem.F.type_list_pop mt_pop (pv 2)) (pv 4)) pa_nil)))) (pss_one (ps_if (pt_cmpR o_inSg (pv 5) (pe_op o_catS pe_str (C8.pe_gc (v := .str "+-*/()[]<=,") (by rfl) g_SIGNS)) (by rfl)) (pss_one (ps_expr (pe_bm PySem.F.plainAttrs_list PySem.F.slot_list_append PySem.F.type_list_append mt_append (pv 2) (pa_cons (pv 4) pa_nil)))) (pss_one (ps_if (pt_cmpR op_ne (pv 4) pe_str (nomark _)) (pss_one (ps_rz (dv := []) Z_BadText ini2 rfl hr (by omega) tk (pa_cons pe_str (pa_cons (pv 1) pa_nil)))) pss_nil)))))
      (pss_cons (ps_set (i := 3) sc_marks_of.nd rfl (loc_of rfl) pe_str)
      (pss_one (ps_if (PW.pt (pw_or (pt_cmpR op_eq (pv 5) pe_str (nomark _)) (pw_or1 (pt_cmpR op_eq (pv 5) pe_str (nomark _))))) (pss_one (ps_set (i := 3) sc_marks_of.nd rfl (loc_of rfl) (pv 5))) pss_nil))))))))
      (pss_cons (ps_if (PW.pt (pw_or (pt_cmpR (op_eqD hu64) (pv 2) (pe_lst pa_nil) (nomark _)) (pw_or1 (pt_cmpR o_gt (pe_callB (c_lenK (K := K) rfl) (by rfl) T.f_len (by decide +kernel) (pa_cons (pv 2) pa_nil)) (C8.pe_gc (v := .int 60) (by rfl) g_MOST_MARKS) (nomark _))))) (pss_one (ps_rz (dv := []) Z_BadText ini2 rfl hr (by omega) tk (pa_cons pe_str (pa_cons (pv 1) pa_nil)))) pss_nil)
      (pss_one (ps_ret (pv 2))))))), ?_⟩
    refine w_start [some (.str z), some (.int n), none, none, none, none] rfl ?_
    try dsimp only [cxOf]
    walk_at "wp"
    refine newL fun l H1 nl e1 s1 => ?_
    walk_at "wp"
    have scn : ∀ i, scan ([], none) (z.cps.toList.take i) = none → marksM z.cps.toList = none := fun i hi => by
      unfold marksM
      rw [scan_none hi]
      rfl
    have lz : z.cps.toList.length = z.length := by simp [Str.length]
    refine forS (fun i σ' H' => ∃ ms g x y, σ' = [some (.str z), some (.int n), some (.ref l), some (.str (gS g)), x, y] ∧ scan ([], none) (z.cps.toList.take i) = some (ms, g) ∧ H' l = some (.lst (ms.map V.str)) ∧ Same H H' ∧ i ≤ z.length)
      ⟨[], none, none, none, rfl, rfl, e1, s1, Nat.zero_le _⟩ (fun i c σ' H2 hc hp => ?_) (fun σ' H2 hp => ?_)
    · obtain ⟨ms, g, x, y, rfl, hsc, e2, s2, hil⟩ := hp
      have hc' : z.cps.toList[i]? = some c := by rw [Array.getElem?_toList]; exact hc
      have hst := scan_take hc' ([], none)
      rw [hsc] at hst
      have hlt : i < z.length := by
        have := (List.getElem?_eq_some_iff.mp hc').1
        omega
      have SI : SInv i ms g := by
        have := scan_inv SInv.nil hsc
        rw [List.length_take, lz, Nat.min_eq_left hil, Nat.zero_add] at this
        exact this
      walk_at "wp"
      refine w_cut (fun σ' H' => σ' = [some (.str z), some (.int n), some (.ref l), some (.str (gS g)), some (.str (one c)), some (.str (one (if c ∈ smallL then 97 else c)))] ∧ H' = H2) ?_ ?_
      · walk_at "wp"
        refine w_dec (fun h1 => ?_) (fun h1 => ?_)
        · rw [if_pos (show c ∈ smallL from h1)]
          walk_at "wp"
          exact ⟨rfl, rfl⟩
        · rw [if_neg (show ¬ c ∈ smallL from h1)]
          walk_at "wp"
          exact ⟨rfl, rfl⟩
      rintro _ H2 ⟨rfl, rfl⟩
      refine w_cut (fun σ' H' => σ' = [some (.str z), some (.int n), some (.ref l), some (.str (gS g)), some (.str (one c)), some (.str (one (kind c)))] ∧ H' = H2) ?_ ?_
      · walk_at "wp"
        unfold kind
        refine w_dec (fun h1 => ?_) (fun h1 => ?_)
        · rw [if_pos (show c ∈ figL from h1)]
          walk_at "wp"
          exact ⟨rfl, rfl⟩
        · rw [if_neg (show ¬ c ∈ figL from h1)]
          walk_at "wp"
          exact ⟨rfl, rfl⟩
      rintro _ H2 ⟨rfl, rfl⟩
      refine w_cut (fun σ' H' => ∃ ms', mkStep (ms, g) c = some (ms', glue' (kind c)) ∧ σ' = [some (.str z), some (.int n), some (.ref l), some (.str (gS g)), some (.str (one c)), some (.str (one (kind c)))] ∧ H' l = some (.lst (ms'.map V.str)) ∧ Same H H') ?_ ?_
      · have hl1 : ms.length < 100000 := by
          have := SI.sum
          omega
        walk_at "wp"
        rw [gS_eq]
        refine w_dec (fun hg => ?_) (fun hg => ?_)
        · obtain ⟨r, m, rfl, _⟩ := SI.gl _ hg
          have em : mkStep (r ++ [m], g) c = some (r ++ [m ++ one c], glue' (kind c)) := by
            unfold mkStep
            simp only [if_pos hg, List.dropLast_concat, List.getLastD_concat]
          have hml := SI.len m (List.mem_append_right _ (List.mem_singleton.mpr rfl))
          have e2' : H2 l = some (.lst (r.map V.str ++ [V.str m])) := by rw [e2, List.map_append]; rfl
          walk_at "wp"
          refine w_pop e2' fun H3 e3 k3 => ?_
          walk_at "wp"
          refine w_catS (by
            have sl : sizeLine = 16777216 := sizeLine_eq
            have : (one c).length = 1 := rfl
            omega) ?_
          walk_at "wp"
          refine w_app e3 (by
            rw [List.length_map]
            rw [List.length_append] at hl1
            omega) fun H4 e4 k4 => ?_
          walk_at "wp"
          refine ⟨_, em, rfl, ?_, Keep.toSame s2 (k3.trans k4) nl⟩
          rw [e4, List.map_append]
          rfl
        · walk_at "wp"
          refine w_catS (by decide +kernel) ?_
          walk_at "wp"
          refine w_dec (fun hs => ?_) (fun hs => ?_)
          · have hs' : kind c ∈ sgnL := hs
            have em : mkStep (ms, g) c = some (ms ++ [one c], glue' (kind c)) := by
              unfold mkStep
              simp only [if_neg hg, if_pos hs']
            walk_at "wp"
            refine w_app e2 (by rw [List.length_map]; exact hl1) fun H4 e4 k4 => ?_
            walk_at "wp"
            refine ⟨_, em, rfl, ?_, Keep.toSame s2 k4 nl⟩
            rw [e4, List.map_append]
            rfl
          · have hs' : ¬ kind c ∈ sgnL := hs
            walk_at "wp"
            refine w_decN (fun h32 => ?_) (fun h32 => ?_)
            · have hn32 : ¬ c = 32 := fun q => h32 (by subst q; rfl)
              have em : mkStep (ms, g) c = none := by
                unfold mkStep
                simp only [if_neg hg, if_neg hs', if_neg hn32]
              have hm := scn (i + 1) (by rw [hst]; exact em)
              rw [hm] at h
              walk_at "wp"
              exact rzL Z_BadText _ _ rfl fun d H5 nd ed sd => (h.same s2) d H5 nd ed sd
            · have h32' : c = 32 := by
                have := congrArg (fun s : Str => s.cps.toList) h32
                have e : [c] = [32] := this
                cases e
                rfl
              have em : mkStep (ms, g) c = some (ms, glue' (kind c)) := by
                unfold mkStep
                simp only [if_neg hg, if_neg hs', if_pos h32']
              walk_at "wp"
              exact ⟨_, em, rfl, e2, s2⟩
      rintro _ H3 ⟨ms', em, rfl, e3, s3⟩
      have hst' : scan ([], none) (z.cps.toList.take (i + 1)) = some (ms', glue' (kind c)) := by rw [hst]; exact em
      have k97 : decide (one (kind c) = ("a" : Str)) = decide (kind c = 97) := gS_eq (kind c) (some 97) |>.trans (by simp [eq_comm])
      have k48 : decide (one (kind c) = ("0" : Str)) = decide (kind c = 48) := gS_eq (kind c) (some 48) |>.trans (by simp [eq_comm])
      walk_at "wp"
      rw [k97]
      refine w_dec (fun h1 => ?_) (fun h1 => ?_)
      · walk_at "wp"
        refine ⟨ms', _, some (.str (one c)), some (.str (one (kind c))), ?_, hst', e3, s3, hlt⟩
        unfold glue'
        rw [if_pos (.inl h1)]
        rfl
      · walk_at "wp"
        rw [k48]
        refine w_dec (fun h2 => ?_) (fun h2 => ?_)
        · walk_at "wp"
          refine ⟨ms', _, some (.str (one c)), some (.str (one (kind c))), ?_, hst', e3, s3, hlt⟩
          unfold glue'
          rw [if_pos (.inr h2)]
          rfl
        · walk_at "wp"
          refine ⟨ms', _, some (.str (one c)), some (.str (one (kind c))), ?_, hst', e3, s3, hlt⟩
          unfold glue'
          rw [if_neg (by rintro (q | q); exact h1 q; exact h2 q)]
          rfl
    · obtain ⟨ms, g, x, y, rfl, hsc, e2, s2, _⟩ := hp
      have hsz : z.cps.size = z.cps.toList.length := by simp
      rw [hsz, List.take_length] at hsc
      have SI : SInv z.length ms g := by
        have := scan_inv SInv.nil hsc
        rw [lz, Nat.zero_add] at this
        exact this
      have hm : marksM z.cps.toList = if ms = [] ∨ 60 < ms.length then none else some ms := by
        unfold marksM
        rw [hsc]
        rfl
      have hok : ∀ m ∈ ms, PyData.strOk m = true := fun m hm => by
        unfold PyData.strOk
        rw [← Array.all_toList, List.all_eq_true]
        intro c hc
        have := SI.asc m hm c hc
        exact decide_eq_true (by omega)
      walk_at "wp"
      refine newL fun l2 H3 nl2 e3 s3 => ?_
      refine w_eqNil (SqL.of (s3 _ _ e2)) (SqL.of e3) hok ?_
      have s03 := s2.trans s3
      have e4 := s3 _ _ e2
      walk_at "wp"
      refine w_dec (fun h1 => ?_) (fun h1 => ?_)
      · rw [hm, if_pos (.inl h1)] at h
        walk_at "wp"
        exact rzL Z_BadText _ _ rfl fun d H5 nd ed sd => (h.same s03) d H5 nd ed sd
      · walk_at "wp"
        rw [List.length_map]
        refine w_dec (fun h2 => ?_) (fun h2 => ?_)
        · rw [hm, if_pos (.inr (by omega))] at h
          walk_at "wp"
          exact rzL Z_BadText _ _ rfl fun d H5 nd ed sd => (h.same s03) d H5 nd ed sd
        · rw [hm, if_neg (by rintro (q | q); exact h1 q; omega)] at h
          walk_at "wp"
          exact h l H3 nl (s3 _ _ e2) s03
end
theorem at0 {m : Str} (h : m ≠ "") : atI m.cps.toList 0 = some (m.cps.toList.getD 0 0) := by
  have hne := ne_list h
  cases e : m.cps.toList with
  | nil => exact absurd e hne
  | cons c l => exact atI_nat (show (c :: l)[0]? = some c from rfl)
section
variable (T : Fre mg) (CS : Cst K mg)
include T CS
def spIsName : Sp := fun vs H Q _ => ∃ m : Str, vs = [.str m] ∧ m.length ≤ 10000 ∧ Q (.bl (isName m)) H
theorem c_is_name (F : Def K mg "is_name" s_is_name) : Cal P w K mg base 1 "is_name" ["mark"] spIsName := by
  refine cal_of F sc_is_name b_is_name (fun vs H Q E h => ?_) (fun cdv A outer s H vs Q E hr h => ?_)
  · obtain ⟨_, rfl, _⟩ := h
    rfl
  · obtain ⟨m, rfl, hl, q⟩ := h
    have g_SMALL := CS.g_SMALL
    have g_MOST_LETTERS := CS.g_MOST_LETTERS
    have g_WORDS := CS.g_WORDS
    have sl : sizeLine = 16777216 := sizeLine_eq
    refine ⟨_, (pss_one (ps_ret (pe_and (pe_cmpR op_ne (pv 0) pe_str (nomark _)) (pe_and (pe_cmpR o_inSg (pe_ix ix_str (pv 0) pe_int (fun _ _ => rfl)) (C8.pe_gc (v := .str "abcdefghijklmnopqrstuvwxyz") (by rfl) g_SMALL) (by rfl)) (pe_and (pe_cmpR o_le (pe_callB c_lenT (by rfl) T.f_len (by decide +kernel) (pa_cons (pv 0) pa_nil)) (C8.pe_gc (v := .int 8) (by rfl) g_MOST_LETTERS) (nomark _)) (pe_one (pe_cmpR (o_ninT (K := K) rfl) (pv 0) (pe_glob (v := .ref (He.ga K "WORDS")) (by rfl) g_WORDS rfl) (by rfl)))))))), ?_⟩
    refine w_start [some (.str m)] rfl ?_
    try dsimp only [cxOf]
    unfold isName at q
    walk_at "wp"
    refine w_decN (fun h1 => ?_) (fun h1 => ?_)
    · rw [decide_eq_true h1, Bool.true_and] at q
      walk_at "wp"
      refine w_ixS (by omega) (at0 h1) ?_
      walk_at "wp"
      refine w_dec (fun h2 => ?_) (fun h2 => ?_)
      · rw [decide_eq_true (show m.cps.toList.getD 0 0 ∈ smallL from h2), Bool.true_and] at q
        walk_at "wp"
        refine w_lenT (by omega) ?_
        walk_at "wp"
        refine w_dec (fun h3 => ?_) (fun h3 => ?_)
        · rw [decide_eq_true (show m.length ≤ 8 by omega), Bool.true_and] at q
          walk_at "wp"
          exact w_ninT (CS.t_WORDS H) q
        · rw [decide_eq_false (show ¬ m.length ≤ 8 by omega), Bool.false_and] at q
          walk_at "wp"
          exact q
      · rw [decide_eq_false (show ¬ m.cps.toList.getD 0 0 ∈ smallL from h2), Bool.false_and] at q
        walk_at "wp"
        exact q
    · rw [decide_eq_false (fun z => z h1), Bool.false_and] at q
      walk_at "wp"
      exact q
def spIsNumber : Sp := fun vs H Q _ => ∃ m : Str, vs = [.str m] ∧ m.length ≤ 10000 ∧ (m = "" ∨ MkOk m) ∧ Q (.bl (numVal m).isSome) H
theorem c_is_number (F : Def K mg "is_number" s_is_number) : Cal P w K mg base 1 "is_number" ["mark"] spIsNumber := by
  refine cal_of F sc_is_number b_is_number (fun vs H Q E h => ?_) (fun cdv A outer s H vs Q E hr h => ?_)
  · obtain ⟨_, rfl, _⟩ := h
    rfl
  · obtain ⟨m, rfl, hl, ok, q⟩ := h
    have g_FIGURES := CS.g_FIGURES
    have g_MOST_FIGURES := CS.g_MOST_FIGURES
    have sl : sizeLine = 16777216 := sizeLine_eq
    have e : (numVal m).isSome = isNumb m := by
      rcases ok with rfl | ok
      · decide +kernel
      · exact numVal_isSome ok
    rw [e] at q
    refine ⟨_, (pss_cons (ps_if (PW.pt (pw_or (pt_cmpR op_eq (pv 0) pe_str (nomark _)) (pw_or (pt_cmpR o_ninSg (pe_ix ix_str (pv 0) pe_int (fun _ _ => rfl)) (C8.pe_gc (v := .str "0123456789") (by rfl) g_FIGURES) (by rfl)) (pw_or1 (pt_cmpR o_gt (pe_callB c_lenT (by rfl) T.f_len (by decide +kernel) (pa_cons (pv 0) pa_nil)) (C8.pe_gc (v := .int 2) (by rfl) g_MOST_FIGURES) (nomark _)))))) (pss_one (ps_ret pe_bl)) pss_nil)
      (pss_one (ps_ret (pe_or (pe_cmpR op_eq (pv 0) pe_str (nomark _)) (pe_one (pe_cmpR op_ne (pe_ix ix_str (pv 0) pe_int (fun _ _ => rfl)) pe_str (nomark _))))))), ?_⟩
    refine w_start [some (.str m)] rfl ?_
    try dsimp only [cxOf]
    unfold isNumb at q
    walk_at "wp"
    refine w_dec (fun h1 => ?_) (fun h1 => ?_)
    · rw [decide_eq_false (fun z => z h1), Bool.false_and] at q
      walk_at "wp"
      exact q
    rw [decide_eq_true h1, Bool.true_and] at q
    walk_at "wp"
    refine w_ixS (by omega) (at0 h1) ?_
    walk_at "wp"
    refine w_decN (fun h2 => ?_) (fun h2 => ?_)
    · rw [decide_eq_false (show ¬ m.cps.toList.getD 0 0 ∈ figL from h2), Bool.false_and] at q
      walk_at "wp"
      exact q
    rw [decide_eq_true (show m.cps.toList.getD 0 0 ∈ figL from h2), Bool.true_and] at q
    walk_at "wp"
    refine w_lenT (by omega) ?_
    walk_at "wp"
    refine w_dec (fun h3 => ?_) (fun h3 => ?_)
    · rw [decide_eq_false (show ¬ m.length ≤ 2 by omega), Bool.false_and] at q
      walk_at "wp"
      exact q
    rw [decide_eq_true (show m.length ≤ 2 by omega), Bool.true_and] at q
    walk_at "wp"
    refine w_dec (fun h4 => ?_) (fun h4 => ?_)
    · rw [decide_eq_true h4, Bool.true_or] at q
      walk_at "wp"
      exact q
    rw [decide_eq_false h4, Bool.false_or] at q
    walk_at "wp"
    refine w_ixS (by omega) (at0 h1) ?_
    walk_at "wp"
    have e48 : ∀ x : Nat, (!decide (one x = ("0" : Str))) = decide (x ≠ 48) := fun x => by
      rw [show decide (one x = ("0" : Str)) = decide (some 48 = some x) from gS_eq _ (some 48)]
      by_cases h : x = 48
      · rw [h]
        rfl
      · have h' : ¬ 48 = x := fun z => h z.symm
        simp [h, h']
    rw [show (!decide (({ cps := #[m.cps.toList.getD 0 0] } : Str) = ("0" : Str))) = decide (m.cps.toList.getD 0 0 ≠ 48) from e48 _]
    exact q
end
end
end Lw

namespace Lw
open PySem PySem.Spec PyProof.Rows L2 Fw Htx Ob Tx Rd Lk
local macro_rules | `(tactic| walk_at "cond") => `(tactic| first | assumption | (with_reducible exact cdiv_small (by omega) (by omega)) | (with_reducible exact cmul_small (by omega) (by omega)) | (with_reducible exact cpow_mk (by omega) (by omega) (by omega)) | omega)
local macro_rules | `(tactic| walk_at "ne") => `(tactic| first | assumption | exact Ne.symm (by assumption) | exact ne_of_none (by assumption) (by assumption) | exact Ne.symm (ne_of_none (by assumption) (by assumption)))
local macro_rules | `(tactic| walk_at "at") => `(tactic| first
  | assumption
  | (with_reducible exact upd_same)
  | ((with_reducible refine' at_same ?hk ?hh); (case hk => assumption); (case hh => walk_at "at"))
  | ((with_reducible refine' at_keepT ?hk ?hh ?hd); (case hk => assumption); (case hh => walk_at "at"); (case hd => walk_at "at"))
  | ((with_reducible refine' at_keep ?hk ?hh ?hn); (case hk => assumption); (case hh => walk_at "at"); (case hn => walk_at "ne")))
local macro_rules | `(tactic| walk_at "hp") => `(tactic| first
  | assumption
  | (with_reducible exact FrL.sql (by assumption))
  | ((with_reducible refine' SqT.of ?hq); (case hq => walk_at "at")) | ((with_reducible refine' SqL.of ?hq); (case hq => walk_at "at"))
  | ((with_reducible refine' sql_same ?hk ?hh); (case hk => assumption); (case hh => walk_at "hp"))
  | ((with_reducible refine' sql_keep ?hk ?hh ?hn); (case hk => assumption); (case hh => walk_at "hp"); (case hn => walk_at "ne"))
  | ((with_reducible refine' sqt_same ?hk ?hh); (case hk => assumption); (case hh => walk_at "hp")))
local macro_rules | `(tactic| walk_at "wp1") => `(tactic| first
  | with_reducible refine w_mt ?_ | ((with_reducible refine' w_mt1 ?ha ?hl ?_); (case ha => walk_at "at"); (case hl => rfl))
  | with_reducible refine w_fld ?_ | ((with_reducible refine' w_fld1 ?ha (ClsF.cl (cs := clsL) (as := attL) (by assumption) _ ?hc) (ClsF.no (cs := clsL) (as := attL) (by assumption) _ _ ?hn) ?hl ?_); (case ha => walk_at "at"); (case hc => decide +kernel); (case hn => decide +kernel); (case hl => rfl))
  | with_reducible refine w_sfld ?_ | ((with_reducible refine' w_sfld1 ?ha (ClsF.cl (cs := clsL) (as := attL) (by assumption) _ ?hc) (ClsF.no (cs := clsL) (as := attL) (by assumption) _ _ ?hn) ?he ?hl ?_); (case ha => walk_at "at"); (case hc => decide +kernel); (case hn => decide +kernel); (case he => rfl); (case hl => rfl))
  | with_reducible refine w_lk ?_ | ((with_reducible refine' lkL ?ha ?_); (case ha => walk_at "at")) | with_reducible refine w_mkS ?_ | with_reducible refine w_mk ?_ | with_reducible refine w_bas ?_ | with_reducible refine w_m1 ?_ | with_reducible refine w_isS ?_ | with_reducible refine w_bm0 ?_ | with_reducible refine w_iS ?_ | with_reducible refine w_chain ?_
  | with_reducible refine w_inSg ?_ | with_reducible refine w_ninSg ?_
  | with_reducible refine w_rz ?_ | with_reducible refine w_calX ?_ | with_reducible refine w_calS ?_ | with_reducible refine w_row ?_
  | with_reducible refine w_seq ?_ | with_reducible refine w_set ?_ | with_reducible refine w_drop ?_ | with_reducible refine w_ret ?_ | with_reducible refine w_ifS ?_ | with_reducible refine w_next ?_
  | ((with_reducible refine' w_var ?hv ?_); (case hv => rfl)) | with_reducible refine w_c ?_
  | with_reducible refine w_op ?_ | with_reducible refine w_un ?_ | with_reducible refine w_cb ?_ | with_reducible refine w_cal ?_ | with_reducible refine w_cons ?_ | with_reducible refine w_nil ?_
  | with_reducible refine w_plus ?_ | with_reducible refine w_minus ?_ | with_reducible refine w_lt ?_ | with_reducible refine w_le ?_ | with_reducible refine w_gt ?_ | with_reducible refine w_ge ?_
  | with_reducible refine w_eqI ?_ | with_reducible refine w_neI ?_ | with_reducible refine w_eqB ?_ | with_reducible refine w_neB ?_ | with_reducible refine w_eqS ?_ | with_reducible refine w_neS ?_
  | with_reducible refine w_neg ?_ | with_reducible refine w_abs ?_ | with_reducible refine w_intB ?_ | with_reducible refine w_test ?_ | with_reducible refine w_tB ?_ | with_reducible refine w_bl ?_
  | with_reducible refine w_and ?_ | with_reducible refine w_or ?_ | with_reducible refine w_not ?_ | with_reducible refine w_andV ?_ | with_reducible refine w_orV ?_ | with_reducible refine w_notV ?_ | with_reducible refine w_ifE ?_
  | with_reducible refine w_nyes ?_ | with_reducible refine w_nno ?_ | with_reducible refine w_yes ?_ | with_reducible refine w_no ?_
  | ((with_reducible refine' w_ixL ?ha ?hb ?_); (case ha => walk_at "hp"); (case hb => rfl)) | ((with_reducible refine' w_ixT ?ha ?hb ?_); (case ha => walk_at "hp"); (case hb => rfl))
  | ((with_reducible refine' w_lenL ?ha ?_); (case ha => walk_at "hp")) | ((with_reducible refine' w_lenT ?ha ?_); (case ha => walk_at "hp"))
  | with_reducible refine w_min2 ?_ | with_reducible refine w_max2 ?_ | with_reducible refine w_bm ?_ | with_reducible refine w_lc ?_ | ((with_reducible refine' w_tyL ?ha ?_); (case ha => walk_at "at"))
  | with_reducible refine isi_ii ?_ | with_reducible refine isi_ib ?_ | with_reducible refine isi_bb ?_ | with_reducible refine isi_ss ?_
  | ((with_reducible refine' isi_tt ?ha ?_); (case ha => walk_at "at")) | ((with_reducible refine' isi_ll ?ha ?_); (case ha => walk_at "at"))
  | with_reducible refine w_par ?_ | with_reducible refine w_par2 ?_ | with_reducible refine w_for ?_ | with_reducible refine w_iL ?_ | with_reducible refine w_iT ?_ | with_reducible refine w_iR1 ?_ | with_reducible refine w_iR2 ?_
  | with_reducible refine w_tup ?_ | with_reducible refine w_lst ?_
  | with_reducible refine w_asg ?_ | with_reducible refine w_gname ?_ | with_reducible refine w_gcons ?_ | with_reducible refine w_gnil ?_ | with_reducible refine w_gsub ?_
  | ((with_reducible refine' w_gtup ?ha ?hb ?_); (case ha => walk_at "hp"); (case hb => rfl))
  | ((with_reducible refine' w_fdiv ?hc ?_); (case hc => walk_at "cond")) | ((with_reducible refine' w_mul ?hc ?_); (case hc => walk_at "cond"))
  | ((with_reducible refine' w_mod ?hc ?_); (case hc => walk_at "cond")) | ((with_reducible refine' w_pow ?hc ?_); (case hc => walk_at "cond")))
local macro_rules | `(tactic| walk_at "wp") => `(tactic| repeat walk_at "wp1")
section
variable {P : Program} {w : World} {K : PySem.W.Frag} {mg : Str → Option Value} {base : Heap}
/-! ### a row of marks -/
def MksOk (ms : List Str) : Prop := ms.length ≤ 60 ∧ ∀ m ∈ ms, MkOk m ∧ m.length ≤ 10000
def RowAt (K : PySem.W.Frag) (H : Hp) (r ml : Addr) (ms : List Str) (p : Nat) (n : Int) (b : Nat) : Prop := MksOk ms ∧ ∃ dx, H r = some (.ins (He.ga K "Row") dx [("marks", .ref ml), ("at", .int p), ("number", .int n), ("brackets", .int b)]) ∧ H ml = some (.lst (ms.map V.str))
/-- a refusal with row n, the row's object at r changed or not -/
def BadR (K : PySem.W.Frag) (E : XK) (n : Int) (r : Addr) (H : Hp) : Prop := ∀ d H', H d = none → H' d = some (.xd [("row", .int n)]) → Keep r H H' → E (.ref (He.ga K "BadText")) (some d) H'
theorem BadR.keep {E : XK} {n : Int} {r : Addr} {H H1 : Hp} {o : HO} (h : BadR K E n r H) (k : Keep r H H1) (hr : H1 r = some o) : BadR K E n r H1 := fun d H' nd ed kd => h d H' (by
  cases e : H d with
  | none => rfl
  | some x =>
    by_cases hd : d = r
    · subst hd
      rw [hr] at nd
      cases nd
    · rw [k d x hd e] at nd
      cases nd) ed (k.trans kd)
theorem mksNow {ms : List Str} (h : MksOk ms) (p : Nat) : (now ms p = "" ∨ MkOk (now ms p)) ∧ (now ms p).length ≤ 10000 := by
  by_cases hp : p < ms.length
  · have e : now ms p = ms[p] := by
      unfold Rd.now
      rw [List.getD_eq_getElem?_getD, List.getElem?_eq_getElem hp]
      rfl
    rw [e]
    have := h.2 ms[p] (List.getElem_mem hp)
    exact ⟨.inr this.1, this.2⟩
  · rw [now_none (by omega)]
    exact ⟨.inl rfl, by decide +kernel⟩
theorem at_now {ms : List Str} {p : Nat} (hp : p < ms.length) : atI (ms.map V.str) (p : Int) = some (.str (now ms p)) := by
  refine atI_nat ?_
  rw [List.getElem?_map, List.getElem?_eq_getElem hp]
  unfold Rd.now
  rw [List.getD_eq_getElem?_getD, List.getElem?_eq_getElem hp]
  rfl
section
variable {H H1 : Hp} {r dx ml : Addr} {ms : List Str} {p b : Nat} {n : Int}
theorem RowAt.adv (ok : MksOk ms) (er : H r = some (.ins (He.ga K "Row") dx [("marks", .ref ml), ("at", .int p), ("number", .int n), ("brackets", .int b)])) (el : H ml = some (.lst (ms.map V.str)))
    (e1 : H1 r = some (.ins (He.ga K "Row") dx (putF "at" (.int ((p : Int) + 1)) [("marks", .ref ml), ("at", .int p), ("number", .int n), ("brackets", .int b)]))) (k1 : Keep r H H1) : RowAt K H1 r ml ms (p + 1) n b :=
  ⟨ok, dx, e1, k1 ml _ (ne_of el er (by intro z; cases z)) el⟩
theorem RowAt.opn (ok : MksOk ms) (er : H r = some (.ins (He.ga K "Row") dx [("marks", .ref ml), ("at", .int p), ("number", .int n), ("brackets", .int b)])) (el : H ml = some (.lst (ms.map V.str)))
    (e1 : H1 r = some (.ins (He.ga K "Row") dx (putF "brackets" (.int ((b : Int) + 1)) [("marks", .ref ml), ("at", .int p), ("number", .int n), ("brackets", .int b)]))) (k1 : Keep r H H1) : RowAt K H1 r ml ms p n (b + 1) :=
  ⟨ok, dx, e1, k1 ml _ (ne_of el er (by intro z; cases z)) el⟩
theorem RowAt.cls (ok : MksOk ms) (er : H r = some (.ins (He.ga K "Row") dx [("marks", .ref ml), ("at", .int p), ("number", .int n), ("brackets", .int (b + 1 : Nat))])) (el : H ml = some (.lst (ms.map V.str)))
    (e1 : H1 r = some (.ins (He.ga K "Row") dx (putF "brackets" (.int (((b + 1 : Nat) : Int) - 1)) [("marks", .ref ml), ("at", .int p), ("number", .int n), ("brackets", .int (b + 1 : Nat))]))) (k1 : Keep r H H1) : RowAt K H1 r ml ms p n b := by
  have e : ((b + 1 : Nat) : Int) - 1 = (b : Int) := by omega
  rw [e] at e1
  exact ⟨ok, dx, e1, k1 ml _ (ne_of el er (by intro z; cases z)) el⟩
end
theorem num_int {k : Nat} (h : k < 100) : PySem.intText? (toString k : Str) = some (k : Int) := by
  have : ∀ n ∈ List.range 100, PySem.intText? (toString n : Str) = some (n : Int) := by decide +kernel
  exact this k (List.mem_range.mpr h)
theorem num_len {k : Nat} (h : k < 100) : (toString k : Str).length ≤ 640 := by
  have : ∀ n ∈ List.range 100, (toString n : Str).length ≤ 640 := by decide +kernel
  exact this k (List.mem_range.mpr h)
/-! ### a row's methods -/
def spBad (K : PySem.W.Frag) : Sp := fun vs H Q E => ∃ r ml ms p n b, vs = [.ref r] ∧ RowAt K H r ml ms p n b ∧ BadR K E n r H
def spNow (K : PySem.W.Frag) : Sp := fun vs H Q E => ∃ r ml ms p n b, vs = [.ref r] ∧ RowAt K H r ml ms p n b ∧ Q (.str (now ms p)) H
def spBehind (K : PySem.W.Frag) : Sp := fun vs H Q E => ∃ r ml ms p n b, vs = [.ref r] ∧ RowAt K H r ml ms p n b ∧ Q (.str (now ms (p + 1))) H
def spTook (K : PySem.W.Frag) : Sp := fun vs H Q E => ∃ r ml ms p n b x, vs = [.ref r, .str x] ∧ RowAt K H r ml ms p n b ∧ (now ms p = x → ∀ H', RowAt K H' r ml ms (p + 1) n b → Keep r H H' → Q (.bl true) H') ∧ (now ms p ≠ x → Q (.bl false) H)
def spMust (K : PySem.W.Frag) : Sp := fun vs H Q E => ∃ r ml ms p n b x, vs = [.ref r, .str x] ∧ RowAt K H r ml ms p n b ∧
  match must ms x p with
  | some p' => ∀ H', RowAt K H' r ml ms p' n b → Keep r H H' → Q .non H'
  | none => BadR K E n r H
def spEnded (K : PySem.W.Frag) : Sp := fun vs H Q E => ∃ r ml ms p n b, vs = [.ref r] ∧ RowAt K H r ml ms p n b ∧ (ms.length ≤ p → Q .non H) ∧ (p < ms.length → BadR K E n r H)
def spName (K : PySem.W.Frag) : Sp := fun vs H Q E => ∃ r ml ms p n b, vs = [.ref r] ∧ RowAt K H r ml ms p n b ∧
  match rName ms p with
  | some (x, p') => ∀ H', RowAt K H' r ml ms p' n b → Keep r H H' → Q (.str x) H'
  | none => BadR K E n r H
def spWh (K : PySem.W.Frag) : Sp := fun vs H Q E => ∃ r ml ms p n b, ∃ lo hi : Nat, vs = [.ref r, .int lo, .int hi] ∧ RowAt K H r ml ms p n b ∧
  match rWhole ms lo hi p with
  | some (x, p') => ∀ H', RowAt K H' r ml ms p' n b → Keep r H H' → Q (.int x) H'
  | none => BadR K E n r H
section
variable (T : Fre mg) (CF : ClsF K clsL attL) (Z_BadText : Exk K mg "BadText") (ini2 : IniOk P w K mg base []) (MF : MthF K)
include CF MF
section
include Z_BadText ini2
theorem m_Row_bad (F : MDef K "Row" "bad" "Row.bad" s_Row_bad) : Met P w K mg base 3 "Row" "bad" (spBad K) := by
  refine met_of F (CF.cl _ (by decide +kernel)) (MF.m _ _ (by decide +kernel)) sc_Row_bad b_Row_bad (fun vs H Q E h => ?_) (fun cdv A outer s H vs Q E hr h => ?_)
  · obtain ⟨_, _, _, _, _, _, rfl, _⟩ := h
    rfl
  · obtain ⟨r, ml, ms, p, n, b, rfl, ⟨ok, dx, er, el⟩, h⟩ := h
    have tk := L2N.takes_of (X := cxOf (L2N.CX P w) P w K mg base ["self"] "Row.bad" (defScope s_Row_bad) (He.ma K (He.ga K "Row") "bad") cdv A outer s H E) (E := E) rfl rfl rfl rfl
    refine ⟨_, (pss_one (ps_rz (dv := []) Z_BadText ini2 rfl hr (by omega) tk (pa_cons pe_str (pa_cons (pe_fld (pv 0) rfl) pa_nil)))), ?_⟩
    refine w_start [some (.ref r)] rfl ?_
    try dsimp only [cxOf]
    walk_at "wp"
    exact rzL Z_BadText _ _ rfl fun d H5 nd ed sd => h d H5 nd ed sd.toKeep
end
include T
theorem m_Row_now (F : MDef K "Row" "now" "Row.now" s_Row_now) : Met P w K mg base 1 "Row" "now" (spNow K) := by
  refine met_of F (CF.cl _ (by decide +kernel)) (MF.m _ _ (by decide +kernel)) sc_Row_now b_Row_now (fun vs H Q E h => ?_) (fun cdv A outer s H vs Q E hr h => ?_)
  · obtain ⟨_, _, _, _, _, _, rfl, _⟩ := h
    rfl
  · obtain ⟨r, ml, ms, p, n, b, rfl, ⟨ok, dx, er, el⟩, q⟩ := h
    refine ⟨_, (pss_cons (ps_if (pt_cmpR o_lt (pe_fld (pv 0) rfl) (pe_callB (c_lenK (K := K) rfl) (by rfl) T.f_len (by decide +kernel) (pa_cons (pe_fld (pv 0) rfl) pa_nil)) (nomark _)) (pss_one (ps_ret (pe_ix (ixL (K := K) rfl) (pe_fld (pv 0) rfl) (pe_fld (pv 0) rfl) (fun _ _ => rfl)))) pss_nil)
      (pss_one (ps_ret pe_str))), ?_⟩
    refine w_start [some (.ref r)] rfl ?_
    try dsimp only [cxOf]
    walk_at "wp"
    rw [List.length_map]
    refine w_dec (fun h1 => ?_) (fun h1 => ?_)
    · walk_at "wp"
      exact w_ixL (SqL.of el) (at_now (by omega)) q
    · walk_at "wp"
      rw [now_none (by omega)] at q
      exact q
theorem m_Row_behind (F : MDef K "Row" "behind" "Row.behind" s_Row_behind) : Met P w K mg base 1 "Row" "behind" (spBehind K) := by
  refine met_of F (CF.cl _ (by decide +kernel)) (MF.m _ _ (by decide +kernel)) sc_Row_behind b_Row_behind (fun vs H Q E h => ?_) (fun cdv A outer s H vs Q E hr h => ?_)
  · obtain ⟨_, _, _, _, _, _, rfl, _⟩ := h
    rfl
  · obtain ⟨r, ml, ms, p, n, b, rfl, ⟨ok, dx, er, el⟩, q⟩ := h
    refine ⟨_, (pss_cons (ps_if (pt_cmpR o_lt (pe_op o_add (pe_fld (pv 0) rfl) pe_int) (pe_callB (c_lenK (K := K) rfl) (by rfl) T.f_len (by decide +kernel) (pa_cons (pe_fld (pv 0) rfl) pa_nil)) (nomark _)) (pss_one (ps_ret (pe_ix (ixL (K := K) rfl) (pe_fld (pv 0) rfl) (pe_op o_add (pe_fld (pv 0) rfl) pe_int) (fun _ _ => rfl)))) pss_nil)
      (pss_one (ps_ret pe_str))), ?_⟩
    refine w_start [some (.ref r)] rfl ?_
    try dsimp only [cxOf]
    walk_at "wp"
    rw [List.length_map]
    refine w_dec (fun h1 => ?_) (fun h1 => ?_)
    · walk_at "wp"
      exact w_ixL (SqL.of el) (at_now (p := p + 1) (by omega)) q
    · walk_at "wp"
      rw [now_none (by omega)] at q
      exact q
end
end
end Lw

namespace Lw
open PySem PySem.Spec PyProof.Rows L2 Fw Htx Ob Tx Rd Lk
local macro_rules | `(tactic| walk_at "cond") => `(tactic| first | assumption | (with_reducible exact cdiv_small (by omega) (by omega)) | (with_reducible exact cmul_small (by omega) (by omega)) | (with_reducible exact cpow_mk (by omega) (by omega) (by omega)) | omega)
local macro_rules | `(tactic| walk_at "ne") => `(tactic| first | assumption | exact Ne.symm (by assumption) | exact ne_of_none (by assumption) (by assumption) | exact Ne.symm (ne_of_none (by assumption) (by assumption)))
local macro_rules | `(tactic| walk_at "at") => `(tactic| first
  | assumption
  | (with_reducible exact upd_same)
  | ((with_reducible refine' at_same ?hk ?hh); (case hk => assumption); (case hh => walk_at "at"))
  | ((with_reducible refine' at_keepT ?hk ?hh ?hd); (case hk => assumption); (case hh => walk_at "at"); (case hd => walk_at "at"))
  | ((with_reducible refine' at_keep ?hk ?hh ?hn); (case hk => assumption); (case hh => walk_at "at"); (case hn => walk_at "ne")))
local macro_rules | `(tactic| walk_at "hp") => `(tactic| first
  | assumption
  | (with_reducible exact FrL.sql (by assumption))
  | ((with_reducible refine' SqT.of ?hq); (case hq => walk_at "at")) | ((with_reducible refine' SqL.of ?hq); (case hq => walk_at "at"))
  | ((with_reducible refine' sql_same ?hk ?hh); (case hk => assumption); (case hh => walk_at "hp"))
  | ((with_reducible refine' sql_keep ?hk ?hh ?hn); (case hk => assumption); (case hh => walk_at "hp"); (case hn => walk_at "ne"))
  | ((with_reducible refine' sqt_same ?hk ?hh); (case hk => assumption); (case hh => walk_at "hp")))
local macro_rules | `(tactic| walk_at "wp1") => `(tactic| first
  | with_reducible refine w_mt ?_ | ((with_reducible refine' w_mt1 ?ha ?hl ?_); (case ha => walk_at "at"); (case hl => rfl))
  | with_reducible refine w_fld ?_ | ((with_reducible refine' w_fld1 ?ha (ClsF.cl (cs := clsL) (as := attL) (by assumption) _ ?hc) (ClsF.no (cs := clsL) (as := attL) (by assumption) _ _ ?hn) ?hl ?_); (case ha => walk_at "at"); (case hc => decide +kernel); (case hn => decide +kernel); (case hl => rfl))
  | with_reducible refine w_sfld ?_ | ((with_reducible refine' w_sfld1 ?ha (ClsF.cl (cs := clsL) (as := attL) (by assumption) _ ?hc) (ClsF.no (cs := clsL) (as := attL) (by assumption) _ _ ?hn) ?he ?hl ?_); (case ha => walk_at "at"); (case hc => decide +kernel); (case hn => decide +kernel); (case he => rfl); (case hl => rfl))
  | with_reducible refine w_lk ?_ | ((with_reducible refine' lkL ?ha ?_); (case ha => walk_at "at")) | with_reducible refine w_mkS ?_ | with_reducible refine w_mk ?_ | with_reducible refine w_bas ?_ | with_reducible refine w_m1 ?_ | with_reducible refine w_isS ?_ | with_reducible refine w_bm0 ?_ | with_reducible refine w_iS ?_ | with_reducible refine w_chain ?_
  | with_reducible refine w_inSg ?_ | with_reducible refine w_ninSg ?_
  | with_reducible refine w_rz ?_ | with_reducible refine w_calX ?_ | with_reducible refine w_calS ?_ | with_reducible refine w_row ?_
  | with_reducible refine w_seq ?_ | with_reducible refine w_set ?_ | with_reducible refine w_drop ?_ | with_reducible refine w_ret ?_ | with_reducible refine w_ifS ?_ | with_reducible refine w_next ?_
  | ((with_reducible refine' w_var ?hv ?_); (case hv => rfl)) | with_reducible refine w_c ?_
  | with_reducible refine w_op ?_ | with_reducible refine w_un ?_ | with_reducible refine w_cb ?_ | with_reducible refine w_cal ?_ | with_reducible refine w_cons ?_ | with_reducible refine w_nil ?_
  | with_reducible refine w_plus ?_ | with_reducible refine w_minus ?_ | with_reducible refine w_lt ?_ | with_reducible refine w_le ?_ | with_reducible refine w_gt ?_ | with_reducible refine w_ge ?_
  | with_reducible refine w_eqI ?_ | with_reducible refine w_neI ?_ | with_reducible refine w_eqB ?_ | with_reducible refine w_neB ?_ | with_reducible refine w_eqS ?_ | with_reducible refine w_neS ?_
  | with_reducible refine w_neg ?_ | with_reducible refine w_abs ?_ | with_reducible refine w_intB ?_ | with_reducible refine w_test ?_ | with_reducible refine w_tB ?_ | with_reducible refine w_bl ?_
  | with_reducible refine w_and ?_ | with_reducible refine w_or ?_ | with_reducible refine w_not ?_ | with_reducible refine w_andV ?_ | with_reducible refine w_orV ?_ | with_reducible refine w_notV ?_ | with_reducible refine w_ifE ?_
  | with_reducible refine w_nyes ?_ | with_reducible refine w_nno ?_ | with_reducible refine w_yes ?_ | with_reducible refine w_no ?_
  | ((with_reducible refine' w_ixL ?ha ?hb ?_); (case ha => walk_at "hp"); (case hb => rfl)) | ((with_reducible refine' w_ixT ?ha ?hb ?_); (case ha => walk_at "hp"); (case hb => rfl))
  | ((with_reducible refine' w_lenL ?ha ?_); (case ha => walk_at "hp")) | ((with_reducible refine' w_lenT ?ha ?_); (case ha => walk_at "hp"))
  | with_reducible refine w_min2 ?_ | with_reducible refine w_max2 ?_ | with_reducible refine w_bm ?_ | with_reducible refine w_lc ?_ | ((with_reducible refine' w_tyL ?ha ?_); (case ha => walk_at "at"))
  | with_reducible refine isi_ii ?_ | with_reducible refine isi_ib ?_ | with_reducible refine isi_bb ?_ | with_reducible refine isi_ss ?_
  | ((with_reducible refine' isi_tt ?ha ?_); (case ha => walk_at "at")) | ((with_reducible refine' isi_ll ?ha ?_); (case ha => walk_at "at"))
  | with_reducible refine w_par ?_ | with_reducible refine w_par2 ?_ | with_reducible refine w_for ?_ | with_reducible refine w_iL ?_ | with_reducible refine w_iT ?_ | with_reducible refine w_iR1 ?_ | with_reducible refine w_iR2 ?_
  | with_reducible refine w_tup ?_ | with_reducible refine w_lst ?_
  | with_reducible refine w_asg ?_ | with_reducible refine w_gname ?_ | with_reducible refine w_gcons ?_ | with_reducible refine w_gnil ?_ | with_reducible refine w_gsub ?_
  | ((with_reducible refine' w_gtup ?ha ?hb ?_); (case ha => walk_at "hp"); (case hb => rfl))
  | ((with_reducible refine' w_fdiv ?hc ?_); (case hc => walk_at "cond")) | ((with_reducible refine' w_mul ?hc ?_); (case hc => walk_at "cond"))
  | ((with_reducible refine' w_mod ?hc ?_); (case hc => walk_at "cond")) | ((with_reducible refine' w_pow ?hc ?_); (case hc => walk_at "cond")))
local macro_rules | `(tactic| walk_at "wp") => `(tactic| repeat walk_at "wp1")
section
variable {P : Program} {w : World} {K : PySem.W.Frag} {mg : Str → Option Value} {base : Heap}
section
variable (T : Fre mg) (CS : Cst K mg) (CF : ClsF K clsL attL) (MF : MthF K)
include T CS CF MF
theorem m_Row_took (F : MDef K "Row" "took" "Row.took" s_Row_took) (m_Row_now : Met P w K mg base 1 "Row" "now" (spNow K)) : Met P w K mg base 2 "Row" "took" (spTook K) := by
  refine met_of F (CF.cl _ (by decide +kernel)) (MF.m _ _ (by decide +kernel)) sc_Row_took b_Row_took (fun vs H Q E h => ?_) (fun cdv A outer s H vs Q E hr h => ?_)
  · obtain ⟨_, _, _, _, _, _, _, rfl, _⟩ := h
    rfl
  · obtain ⟨r, ml, ms, p, n, b, x, rfl, R, hy, hn⟩ := h
    have po := passes_of (X := cxOf (L2N.CX P w) P w K mg base ["self", "mark"] "Row.took" (defScope s_Row_took) (He.ma K (He.ga K "Row") "took") cdv A outer s H E) rfl
    have tk := L2N.takes_of (X := cxOf (L2N.CX P w) P w K mg base ["self", "mark"] "Row.took" (defScope s_Row_took) (He.ma K (He.ga K "Row") "took") cdv A outer s H E) (E := E) rfl rfl rfl rfl
    have pc := L2N.passes_call tk (fun _ _ _ _ h => h) (E := E)
    refine ⟨_, (pss_cons (ps_if (pt_cmpR op_ne (pe_mt0 m_Row_now (pv 0) hr (by omega) pc) (pv 1) (nomark _)) (pss_one (ps_ret pe_bl)) pss_nil)
      (pss_cons (ps_fld (pv 0) (pe_op o_add (pe_fld (pv 0) rfl) pe_int) rfl)
      (pss_one (ps_ret pe_bl)))), ?_⟩
    refine w_start [some (.ref r), some (.str x)] rfl ?_
    try dsimp only [cxOf]
    obtain ⟨ok, dx, er, el⟩ := id R
    walk_at "wp"
    refine ⟨r, ml, ms, p, n, b, rfl, R, ?_⟩
    walk_at "wp"
    refine w_decN (fun h1 => ?_) (fun h1 => ?_)
    · walk_at "wp"
      exact hn h1
    · walk_at "wp"
      refine fun H1 e1 k1 => ?_
      walk_at "wp"
      exact hy h1 H1 (RowAt.adv ok er el e1 k1) k1
theorem m_Row_must (F : MDef K "Row" "must" "Row.must" s_Row_must) (m_Row_took : Met P w K mg base 2 "Row" "took" (spTook K)) (m_Row_bad : Met P w K mg base 3 "Row" "bad" (spBad K)) : Met P w K mg base 4 "Row" "must" (spMust K) := by
  refine met_of F (CF.cl _ (by decide +kernel)) (MF.m _ _ (by decide +kernel)) sc_Row_must b_Row_must (fun vs H Q E h => ?_) (fun cdv A outer s H vs Q E hr h => ?_)
  · obtain ⟨_, _, _, _, _, _, _, rfl, _⟩ := h
    rfl
  · obtain ⟨r, ml, ms, p, n, b, x, rfl, R, h⟩ := h
    have po := passes_of (X := cxOf (L2N.CX P w) P w K mg base ["self", "mark"] "Row.must" (defScope s_Row_must) (He.ma K (He.ga K "Row") "must") cdv A outer s H E) rfl
    have tk := L2N.takes_of (X := cxOf (L2N.CX P w) P w K mg base ["self", "mark"] "Row.must" (defScope s_Row_must) (He.ma K (He.ga K "Row") "must") cdv A outer s H E) (E := E) rfl rfl rfl rfl
    have pc := L2N.passes_call tk (fun _ _ _ _ h => h) (E := E)
    refine ⟨_, (pss_one (ps_if (pt_not (pt_val (pe_mt m_Row_took (pv 0) hr (by omega) pc (pa_cons (pv 1) pa_nil)))) (pss_one (ps_expr (pe_mt0 m_Row_bad (pv 0) hr (by omega) pc))) pss_nil)), ?_⟩
    refine w_start [some (.ref r), some (.str x)] rfl ?_
    try dsimp only [cxOf]
    obtain ⟨ok, dx, er, el⟩ := id R
    walk_at "wp"
    refine ⟨r, ml, ms, p, n, b, x, rfl, R, fun h1 H1 R1 k1 => ?_, fun h1 => ?_⟩
    · have e : must ms x p = some (p + 1) := if_pos h1
      rw [e] at h
      walk_at "wp"
      exact h H1 R1 k1
    · have e : must ms x p = none := if_neg h1
      rw [e] at h
      walk_at "wp"
      exact ⟨r, ml, ms, p, n, b, rfl, R, h⟩
theorem m_Row_ended (F : MDef K "Row" "ended" "Row.ended" s_Row_ended) (m_Row_bad : Met P w K mg base 3 "Row" "bad" (spBad K)) : Met P w K mg base 4 "Row" "ended" (spEnded K) := by
  refine met_of F (CF.cl _ (by decide +kernel)) (MF.m _ _ (by decide +kernel)) sc_Row_ended b_Row_ended (fun vs H Q E h => ?_) (fun cdv A outer s H vs Q E hr h => ?_)
  · obtain ⟨_, _, _, _, _, _, rfl, _⟩ := h
    rfl
  · obtain ⟨r, ml, ms, p, n, b, rfl, R, hy, hn⟩ := h
    have po := passes_of (X := cxOf (L2N.CX P w) P w K mg base ["self"] "Row.ended" (defScope s_Row_ended) (He.ma K (He.ga K "Row") "ended") cdv A outer s H E) rfl
    have tk := L2N.takes_of (X := cxOf (L2N.CX P w) P w K mg base ["self"] "Row.ended" (defScope s_Row_ended) (He.ma K (He.ga K "Row") "ended") cdv A outer s H E) (E := E) rfl rfl rfl rfl
    have pc := L2N.passes_call tk (fun _ _ _ _ h => h) (E := E)
    refine ⟨_, (pss_one (ps_if (pt_cmpR o_lt (pe_fld (pv 0) rfl) (pe_callB (c_lenK (K := K) rfl) (by rfl) T.f_len (by decide +kernel) (pa_cons (pe_fld (pv 0) rfl) pa_nil)) (nomark _)) (pss_one (ps_expr (pe_mt0 m_Row_bad (pv 0) hr (by omega) pc))) pss_nil)), ?_⟩
    refine w_start [some (.ref r)] rfl ?_
    try dsimp only [cxOf]
    obtain ⟨ok, dx, er, el⟩ := id R
    walk_at "wp"
    rw [List.length_map]
    refine w_dec (fun h1 => ?_) (fun h1 => ?_)
    · walk_at "wp"
      exact ⟨r, ml, ms, p, n, b, rfl, R, hn (by omega)⟩
    · walk_at "wp"
      exact hy (by omega)
theorem m_Row_read_name (F : MDef K "Row" "read_name" "Row.read_name" s_Row_read_name) (m_Row_now : Met P w K mg base 1 "Row" "now" (spNow K)) (m_Row_bad : Met P w K mg base 3 "Row" "bad" (spBad K)) (c_is_name : Cal P w K mg base 1 "is_name" ["mark"] spIsName) : Met P w K mg base 4 "Row" "read_name" (spName K) := by
  refine met_of F (CF.cl _ (by decide +kernel)) (MF.m _ _ (by decide +kernel)) sc_Row_read_name b_Row_read_name (fun vs H Q E h => ?_) (fun cdv A outer s H vs Q E hr h => ?_)
  · obtain ⟨_, _, _, _, _, _, rfl, _⟩ := h
    rfl
  · obtain ⟨r, ml, ms, p, n, b, rfl, R, h⟩ := h
    have po := passes_of (X := cxOf (L2N.CX P w) P w K mg base ["self", "mark"] "Row.read_name" (defScope s_Row_read_name) (He.ma K (He.ga K "Row") "read_name") cdv A outer s H E) rfl
    have tk := L2N.takes_of (X := cxOf (L2N.CX P w) P w K mg base ["self", "mark"] "Row.read_name" (defScope s_Row_read_name) (He.ma K (He.ga K "Row") "read_name") cdv A outer s H E) (E := E) rfl rfl rfl rfl
    have pc := L2N.passes_call tk (fun _ _ _ _ h => h) (E := E)
    refine ⟨_, (pss_cons (ps_set (i := 1) sc_Row_read_name.nd rfl (loc_of rfl) (pe_mt0 m_Row_now (pv 0) hr (by omega) pc))
      (pss_cons (ps_if (pt_not (pt_val (pe_cal c_is_name hr (by omega) pc (pa_cons (pv 1) pa_nil)))) (pss_one (ps_expr (pe_mt0 m_Row_bad (pv 0) hr (by omega) pc))) pss_nil)
      (pss_cons (ps_fld (pv 0) (pe_op o_add (pe_fld (pv 0) rfl) pe_int) rfl)
      (pss_one (ps_ret (pv 1)))))), ?_⟩
    refine w_start [some (.ref r), none] rfl ?_
    try dsimp only [cxOf]
    obtain ⟨ok, dx, er, el⟩ := id R
    walk_at "wp"
    refine ⟨r, ml, ms, p, n, b, rfl, R, ?_⟩
    walk_at "wp"
    refine ⟨_, rfl, (mksNow ok p).2, ?_⟩
    walk_at "wp"
    cases e : isName (now ms p) with
    | false =>
      have e2 : rName ms p = none := if_neg (by rw [e]; exact Bool.false_ne_true)
      rw [e2] at h
      walk_at "wp"
      exact ⟨r, ml, ms, p, n, b, rfl, R, h⟩
    | true =>
      have e2 : rName ms p = some (now ms p, p + 1) := if_pos e
      rw [e2] at h
      walk_at "wp"
      refine fun H1 e1 k1 => ?_
      walk_at "wp"
      exact h H1 (RowAt.adv ok er el e1 k1) k1
theorem m_Row_read_whole (F : MDef K "Row" "read_whole" "Row.read_whole" s_Row_read_whole) (m_Row_now : Met P w K mg base 1 "Row" "now" (spNow K)) (m_Row_bad : Met P w K mg base 3 "Row" "bad" (spBad K)) (c_is_number : Cal P w K mg base 1 "is_number" ["mark"] spIsNumber) : Met P w K mg base 4 "Row" "read_whole" (spWh K) := by
  refine met_of F (CF.cl _ (by decide +kernel)) (MF.m _ _ (by decide +kernel)) sc_Row_read_whole b_Row_read_whole (fun vs H Q E h => ?_) (fun cdv A outer s H vs Q E hr h => ?_)
  · obtain ⟨_, _, _, _, _, _, _, _, rfl, _⟩ := h
    rfl
  · obtain ⟨r, ml, ms, p, n, b, lo, hi, rfl, R, h⟩ := h
    have po := passes_of (X := cxOf (L2N.CX P w) P w K mg base ["self", "least", "most", "mark"] "Row.read_whole" (defScope s_Row_read_whole) (He.ma K (He.ga K "Row") "read_whole") cdv A outer s H E) rfl
    have tk := L2N.takes_of (X := cxOf (L2N.CX P w) P w K mg base ["self", "least", "most", "mark"] "Row.read_whole" (defScope s_Row_read_whole) (He.ma K (He.ga K "Row") "read_whole") cdv A outer s H E) (E := E) rfl rfl rfl rfl
    have pc := L2N.passes_call tk (fun _ _ _ _ h => h) (E := E)
    refine ⟨_, (pss_cons (ps_set (i := 3) sc_Row_read_whole.nd rfl (loc_of rfl) (pe_mt0 m_Row_now (pv 0) hr (by omega) pc))
      (pss_cons (ps_if (PW.pt (pw_or (pt_not (pt_val (pe_cal c_is_number hr (by omega) pc (pa_cons (pv 3) pa_nil)))) (pw_or1 (pt_not (pt_chain o_le o_le (pv 1) (pe_callTy c_intS (by rfl) T.f_int (by decide +kernel) (pa_cons (pv 3) pa_nil)) (pv 2)))))) (pss_one (ps_expr (pe_mt0 m_Row_bad (pv 0) hr (by omega) pc))) pss_nil)
      (pss_cons (ps_fld (pv 0) (pe_op o_add (pe_fld (pv 0) rfl) pe_int) rfl)
      (pss_one (ps_ret (pe_callTy c_intS (by rfl) T.f_int (by decide +kernel) (pa_cons (pv 3) pa_nil))))))), ?_⟩
    refine w_start [some (.ref r), some (.int lo), some (.int hi), none] rfl ?_
    try dsimp only [cxOf]
    obtain ⟨ok, dx, er, el⟩ := id R
    walk_at "wp"
    refine ⟨r, ml, ms, p, n, b, rfl, R, ?_⟩
    walk_at "wp"
    refine ⟨_, rfl, (mksNow ok p).2, (mksNow ok p).1, ?_⟩
    cases e : numVal (now ms p) with
    | none =>
      have e2 : rWhole ms lo hi p = none := by
        unfold rWhole
        rw [e]
        rfl
      rw [e2] at h
      dsimp only [Option.isSome]
      walk_at "wp"
      exact ⟨r, ml, ms, p, n, b, rfl, R, h⟩
    | some k =>
      obtain ⟨k1, k2⟩ := numVal_some e
      have ei : PySem.intText? (now ms p) = some (k : Int) := by
        rw [k2]
        exact num_int k1
      have e2 : rWhole ms lo hi p = if lo ≤ k ∧ k ≤ hi then some (k, p + 1) else none := by
        unfold rWhole
        rw [e]
        rfl
      have hl : (now ms p).length ≤ 640 := by
        rw [k2]
        exact num_len k1
      dsimp only [Option.isSome]
      walk_at "wp"
      refine w_intS ei hl ?_
      walk_at "wp"
      refine w_dec (fun h1 => ?_) (fun h1 => ?_)
      · walk_at "wp"
        refine w_decN (fun h2 => ?_) (fun h2 => ?_)
        · rw [e2, if_neg (by omega)] at h
          walk_at "wp"
          exact ⟨r, ml, ms, p, n, b, rfl, R, h⟩
        · rw [e2, if_pos (by omega)] at h
          walk_at "wp"
          refine fun H1 e1 k1 => ?_
          walk_at "wp"
          refine w_intS ei hl ?_
          exact h H1 (RowAt.adv ok er el e1 k1) k1
      · rw [e2, if_neg (by omega)] at h
        walk_at "wp"
        exact ⟨r, ml, ms, p, n, b, rfl, R, h⟩
end
end
end Lw

namespace Lw
open PySem PySem.Spec PyProof.Rows L2 Fw Htx Ob Tx Rd Lk
local macro_rules | `(tactic| walk_at "cond") => `(tactic| first | assumption | (with_reducible exact cdiv_small (by omega) (by omega)) | (with_reducible exact cmul_small (by omega) (by omega)) | (with_reducible exact cpow_mk (by omega) (by omega) (by omega)) | omega)
local macro_rules | `(tactic| walk_at "ne") => `(tactic| first | assumption | exact Ne.symm (by assumption) | exact ne_of_none (by assumption) (by assumption) | exact Ne.symm (ne_of_none (by assumption) (by assumption)))
local macro_rules | `(tactic| walk_at "at") => `(tactic| first
  | assumption
  | (with_reducible exact upd_same)
  | ((with_reducible refine' at_same ?hk ?hh); (case hk => assumption); (case hh => walk_at "at"))
  | ((with_reducible refine' at_keepT ?hk ?hh ?hd); (case hk => assumption); (case hh => walk_at "at"); (case hd => walk_at "at"))
  | ((with_reducible refine' at_keep ?hk ?hh ?hn); (case hk => assumption); (case hh => walk_at "at"); (case hn => walk_at "ne")))
local macro_rules | `(tactic| walk_at "hp") => `(tactic| first
  | assumption
  | (with_reducible exact FrL.sql (by assumption))
  | ((with_reducible refine' SqT.of ?hq); (case hq => walk_at "at")) | ((with_reducible refine' SqL.of ?hq); (case hq => walk_at "at"))
  | ((with_reducible refine' sql_same ?hk ?hh); (case hk => assumption); (case hh => walk_at "hp"))
  | ((with_reducible refine' sql_keep ?hk ?hh ?hn); (case hk => assumption); (case hh => walk_at "hp"); (case hn => walk_at "ne"))
  | ((with_reducible refine' sqt_same ?hk ?hh); (case hk => assumption); (case hh => walk_at "hp")))
local macro_rules | `(tactic| walk_at "wp1") => `(tactic| first
  | with_reducible refine w_mt ?_ | ((with_reducible refine' w_mt1 ?ha ?hl ?_); (case ha => walk_at "at"); (case hl => rfl))
  | with_reducible refine w_fld ?_ | ((with_reducible refine' w_fld1 ?ha (ClsF.cl (cs := clsL) (as := attL) (by assumption) _ ?hc) (ClsF.no (cs := clsL) (as := attL) (by assumption) _ _ ?hn) ?hl ?_); (case ha => walk_at "at"); (case hc => decide +kernel); (case hn => decide +kernel); (case hl => rfl))
  | with_reducible refine w_sfld ?_ | ((with_reducible refine' w_sfld1 ?ha (ClsF.cl (cs := clsL) (as := attL) (by assumption) _ ?hc) (ClsF.no (cs := clsL) (as := attL) (by assumption) _ _ ?hn) ?he ?hl ?_); (case ha => walk_at "at"); (case hc => decide +kernel); (case hn => decide +kernel); (case he => rfl); (case hl => rfl))
  | with_reducible refine w_lk ?_ | ((with_reducible refine' lkL ?ha ?_); (case ha => walk_at "at")) | with_reducible refine w_mkS ?_ | with_reducible refine w_mk ?_ | with_reducible refine w_bas ?_ | with_reducible refine w_m1 ?_ | with_reducible refine w_isS ?_ | with_reducible refine w_bm0 ?_ | with_reducible refine w_iS ?_ | with_reducible refine w_chain ?_
  | with_reducible refine w_inSg ?_ | with_reducible refine w_ninSg ?_
  | with_reducible refine w_rz ?_ | with_reducible refine w_calX ?_ | with_reducible refine w_calS ?_ | with_reducible refine w_row ?_
  | with_reducible refine w_seq ?_ | with_reducible refine w_set ?_ | with_reducible refine w_drop ?_ | with_reducible refine w_ret ?_ | with_reducible refine w_ifS ?_ | with_reducible refine w_next ?_
  | ((with_reducible refine' w_var ?hv ?_); (case hv => rfl)) | with_reducible refine w_c ?_
  | with_reducible refine w_op ?_ | with_reducible refine w_un ?_ | with_reducible refine w_cb ?_ | with_reducible refine w_cal ?_ | with_reducible refine w_cons ?_ | with_reducible refine w_nil ?_
  | with_reducible refine w_plus ?_ | with_reducible refine w_minus ?_ | with_reducible refine w_lt ?_ | with_reducible refine w_le ?_ | with_reducible refine w_gt ?_ | with_reducible refine w_ge ?_
  | with_reducible refine w_eqI ?_ | with_reducible refine w_neI ?_ | with_reducible refine w_eqB ?_ | with_reducible refine w_neB ?_ | with_reducible refine w_eqS ?_ | with_reducible refine w_neS ?_
  | with_reducible refine w_neg ?_ | with_reducible refine w_abs ?_ | with_reducible refine w_intB ?_ | with_reducible refine w_test ?_ | with_reducible refine w_tB ?_ | with_reducible refine w_bl ?_
  | with_reducible refine w_and ?_ | with_reducible refine w_or ?_ | with_reducible refine w_not ?_ | with_reducible refine w_andV ?_ | with_reducible refine w_orV ?_ | with_reducible refine w_notV ?_ | with_reducible refine w_ifE ?_
  | with_reducible refine w_nyes ?_ | with_reducible refine w_nno ?_ | with_reducible refine w_yes ?_ | with_reducible refine w_no ?_
  | ((with_reducible refine' w_ixL ?ha ?hb ?_); (case ha => walk_at "hp"); (case hb => rfl)) | ((with_reducible refine' w_ixT ?ha ?hb ?_); (case ha => walk_at "hp"); (case hb => rfl))
  | ((with_reducible refine' w_lenL ?ha ?_); (case ha => walk_at "hp")) | ((with_reducible refine' w_lenT ?ha ?_); (case ha => walk_at "hp"))
  | with_reducible refine w_min2 ?_ | with_reducible refine w_max2 ?_ | with_reducible refine w_bm ?_ | with_reducible refine w_lc ?_ | ((with_reducible refine' w_tyL ?ha ?_); (case ha => walk_at "at"))
  | with_reducible refine isi_ii ?_ | with_reducible refine isi_ib ?_ | with_reducible refine isi_bb ?_ | with_reducible refine isi_ss ?_
  | ((with_reducible refine' isi_tt ?ha ?_); (case ha => walk_at "at")) | ((with_reducible refine' isi_ll ?ha ?_); (case ha => walk_at "at"))
  | with_reducible refine w_par ?_ | with_reducible refine w_par2 ?_ | with_reducible refine w_for ?_ | with_reducible refine w_iL ?_ | with_reducible refine w_iT ?_ | with_reducible refine w_iR1 ?_ | with_reducible refine w_iR2 ?_
  | with_reducible refine w_tup ?_ | with_reducible refine w_lst ?_
  | with_reducible refine w_asg ?_ | with_reducible refine w_gname ?_ | with_reducible refine w_gcons ?_ | with_reducible refine w_gnil ?_ | with_reducible refine w_gsub ?_
  | ((with_reducible refine' w_gtup ?ha ?hb ?_); (case ha => walk_at "hp"); (case hb => rfl))
  | ((with_reducible refine' w_fdiv ?hc ?_); (case hc => walk_at "cond")) | ((with_reducible refine' w_mul ?hc ?_); (case hc => walk_at "cond"))
  | ((with_reducible refine' w_mod ?hc ?_); (case hc => walk_at "cond")) | ((with_reducible refine' w_pow ?hc ?_); (case hc => walk_at "cond")))
local macro_rules | `(tactic| walk_at "wp") => `(tactic| repeat walk_at "wp1")
section
variable {P : Program} {w : World} {K : PySem.W.Frag} {mg : Str → Option Value} {base : Heap}
/-! ### a base's own __init__ -/
theorem bas_of {c m q : Str} {st : Stmt} {N ps : List Str} {k : Nat} {sp : Sp} (F : MDef K c m q st) (B : BasF K c m) (g : mg c = some (.ref (He.ga K c))) (S : FnScope N ps (defScope st)) (b : BindsOk m q ps st)
    (len : ∀ vs H Q E, sp vs H Q E → vs.length = ps.length)
    (hbody : ∀ (cdv : Value) (A : Around) (outer : List Env) (s : Shared) (H : Hp) (vs : List V) (Q : VK) (E : XK), Room k (A.deeper (envOfC q (defScope st) s.heap.objs.size (He.ma K (He.ga K c) m) cdv)) → sp vs H Q E →
      ∃ t, PSs (cxOf (L2N.CX P w) P w K mg base N q (defScope st) (He.ma K (He.ga K c) m) cdv A outer s H E) (defBody st) t ∧ t { nx := fun _ H' => Q .non H', rt := Q } (start N vs) H) : Bas P w K mg base (k + 1) c m sp := by
  obtain ⟨fd, F⟩ := F
  exact ⟨_, fd, _, B.1, B.2.1, B.2.2, F.ok S len hbody, F.bindsN b, g⟩
/-! ### terms in the heap -/
def TermAt (K : PySem.W.Frag) (H : Hp) : Addr → T → Prop
  | a, .num n => ∃ dx p, H a = some (.ins (He.ga K "Number") dx [("value", .ref p)]) ∧ H p = some (.tup [.int (n : Int), .int 1])
  | a, .kn x none => ∃ dx, H a = some (.ins (He.ga K "Known") dx [("name", .str x), ("place", .non)])
  | a, .kn x (some q) => ∃ dx p, H a = some (.ins (He.ga K "Known") dx [("name", .str x), ("place", .ref p)]) ∧ H p = some (.tup [.str q.1, .int q.2])
  | a, .bin i s t => i < 4 ∧ ∃ dx b c, H a = some (.ins (He.ga K (C4 i)) dx [("sign", .str (S4 i)), ("one", .ref b), ("two", .ref c)]) ∧ TermAt K H b s ∧ TermAt K H c t
/-- the first fields of what is changed: rows of marks, readers, frames, reckoners, looks, backs -/
def nodeF : List Str := ["marks", "rows", "program", "many", "helpers", "slopes"]
/-- what never changes once it is made -/
def Node : HO → Prop
  | .ins _ _ ((f, v) :: _) => f ∉ nodeF ∧ (f = "row" → ∃ n, v = .int n)
  | .tup _ => True
  | .frz _ _ => True
  | _ => False
theorem node_ins {C dx : Addr} {f : Str} {v : V} {fs : List (Str × V)} (h : decide (f ∉ nodeF ∧ f ≠ "row") = true) : Node (.ins C dx ((f, v) :: fs)) := by
  have := of_decide_eq_true h
  exact ⟨this.1, fun z => absurd z this.2⟩
theorem node_row {C dx : Addr} {n : Int} {fs : List (Str × V)} : Node (.ins C dx (("row", .int n) :: fs)) := ⟨by decide, fun _ => ⟨n, rfl⟩⟩
def KeepN (H H' : Hp) : Prop := ∀ a o, Node o → H a = some o → H' a = some o
theorem _root_.L2.Same.keepN {H H' : Hp} (s : Same H H') : KeepN H H' := fun a o _ h => s a o h
theorem KeepN.refl {H : Hp} : KeepN H H := fun _ _ _ h => h
theorem Keep.keepN' {H H' : Hp} {r : Addr} {o : HO} (k : Fw.Keep r H H') (h : H r = some o) (hn : ¬ Node o) : KeepN H H' := fun a u hu ha => k a u (by
  intro z
  subst z
  rw [h] at ha
  cases ha
  exact hn hu) ha
theorem Keep.keepN {H H' : Hp} {r C dx : Addr} {f : Str} {v : V} {fs : List (Str × V)} (k : Fw.Keep r H H') (h : H r = some (.ins C dx ((f, v) :: fs))) (hf : f = "marks" ∨ f = "rows") : KeepN H H' := Keep.keepN' k h (fun hn => hn.1 (by
  rcases hf with rfl | rfl <;> decide))
theorem KeepN.trans {H H1 H2 : Hp} (a : KeepN H H1) (b : KeepN H1 H2) : KeepN H H2 := fun x o n h => b x o n (a x o n h)
theorem TermAt.keep {H H' : Hp} (k : KeepN H H') : ∀ {a : Addr} {t : T}, TermAt K H a t → TermAt K H' a t
  | a, .num n, h => by
    obtain ⟨dx, p, h1, h2⟩ := h
    exact ⟨dx, p, k _ _ (node_ins (by decide)) h1, k _ _ trivial h2⟩
  | a, .kn x none, h => by
    obtain ⟨dx, h1⟩ := h
    exact ⟨dx, k _ _ (node_ins (by decide)) h1⟩
  | a, .kn x (some q), h => by
    obtain ⟨dx, p, h1, h2⟩ := h
    exact ⟨dx, p, k _ _ (node_ins (by decide)) h1, k _ _ trivial h2⟩
  | a, .bin i s t, h => by
    obtain ⟨hi, dx, b, c, h1, h2, h3⟩ := h
    exact ⟨hi, dx, b, c, k _ _ (node_ins (by decide)) h1, TermAt.keep k h2, TermAt.keep k h3⟩
theorem RowAt.kn {H H' : Hp} {r ml : Addr} {ms : List Str} {p : Nat} {n : Int} {b : Nat} (R : RowAt K H r ml ms p n b) (k : Fw.Keep r H H') : KeepN H H' := by
  obtain ⟨_, dx, er, _⟩ := R
  exact Keep.keepN k er (.inl rfl)
theorem RowAt.some {H : Hp} {r ml : Addr} {ms : List Str} {p : Nat} {n : Int} {b : Nat} (R : RowAt K H r ml ms p n b) : ∃ o, H r = some o := by
  obtain ⟨_, dx, er, _⟩ := R
  exact ⟨_, er⟩
theorem RowAt.same {H H' : Hp} {r ml : Addr} {ms : List Str} {p : Nat} {n : Int} {b : Nat} (R : RowAt K H r ml ms p n b) (s : Same H H') : RowAt K H' r ml ms p n b := by
  obtain ⟨ok, dx, er, el⟩ := R
  exact ⟨ok, dx, s _ _ er, s _ _ el⟩
theorem BadR.on {E : XK} {n : Int} {r ml : Addr} {H H1 : Hp} {ms : List Str} {p b : Nat} {n' : Int} (h : BadR K E n r H) (k : Fw.Keep r H H1) (R : RowAt K H1 r ml ms p n' b) : BadR K E n r H1 := by
  obtain ⟨o, ho⟩ := R.some
  exact h.keep k ho
/-! ### making them -/
section
variable (CF : ClsF K clsL attL) (MF : MthF K)
include CF
theorem k_Number (F : MDef K "Number" "__init__" "Number.__init__" s_Number___init__) (mk : Mk K (He.ga K "Number") (He.ma K (He.ga K "Number") "__init__")) (g : mg "Number" = some (.ref (He.ga K "Number"))) :
    Mak P w K mg base 1 "Number" (spIni (He.ga K "Number") [] ["value"]) := by
  refine mak_of F mk g sc_Number___init__ b_Number___init__ (fun vs H Q E h => ?_) (fun cdv A outer s H vs Q E hr h => ?_)
  · obtain ⟨x, dx, args, rfl, hl, _⟩ := h
    exact congrArg Nat.succ hl
  · obtain ⟨x, dx, args, rfl, hl, ex, h⟩ := h
    match args, hl with
    | [v], _ =>
      refine ⟨_, (pss_one (ps_fld (pv 0) (pv 1) rfl)), ?_⟩
      refine w_start [some (.ref x), some v] rfl ?_
      try dsimp only [cxOf]
      walk_at "wp"
      exact fun H1 e1 k1 => h H1 e1 k1
theorem k_Known (F : MDef K "Known" "__init__" "Known.__init__" s_Known___init__) (mk : Mk K (He.ga K "Known") (He.ma K (He.ga K "Known") "__init__")) (g : mg "Known" = some (.ref (He.ga K "Known"))) :
    Mak P w K mg base 1 "Known" (spIni (He.ga K "Known") [] ["name", "place"]) := by
  refine mak_of F mk g sc_Known___init__ b_Known___init__ (fun vs H Q E h => ?_) (fun cdv A outer s H vs Q E hr h => ?_)
  · obtain ⟨x, dx, args, rfl, hl, _⟩ := h
    exact congrArg Nat.succ hl
  · obtain ⟨x, dx, args, rfl, hl, ex, h⟩ := h
    match args, hl with
    | [v, u], _ =>
      refine ⟨_, (pss_cons (ps_fld (pv 0) (pv 1) rfl)
      (pss_one (ps_fld (pv 0) (pv 2) rfl))), ?_⟩
      refine w_start [some (.ref x), some v, some u] rfl ?_
      try dsimp only [cxOf]
      walk_at "wp"
      refine fun H1 e1 k1 => ?_
      walk_at "wp"
      exact fun H2 e2 k2 => h H2 e2 (k1.trans k2)
def spPair (K : PySem.W.Frag) : Sp := fun vs H Q _ => ∃ x c dx s one two, vs = [.ref x, s, one, two] ∧ c ∈ clsL ∧ ((c, ("sign" : Str)) ∈ attL ∧ (c, ("one" : Str)) ∈ attL ∧ (c, ("two" : Str)) ∈ attL) ∧ H x = some (.ins (He.ga K c) dx []) ∧
  ∀ H', H' x = some (.ins (He.ga K c) dx [("sign", s), ("one", one), ("two", two)]) → Fw.Keep x H H' → Q .non H'
theorem B_Pairwise (F : MDef K "Pairwise" "__init__" "Pairwise.__init__" s_Pairwise___init__) (B : BasF K "Pairwise" "__init__") (g : mg "Pairwise" = some (.ref (He.ga K "Pairwise"))) : Bas P w K mg base 1 "Pairwise" "__init__" (spPair K) := by
  refine bas_of F B g sc_Pairwise___init__ b_Pairwise___init__ (fun vs H Q E h => ?_) (fun cdv A outer s H vs Q E hr h => ?_)
  · obtain ⟨_, _, _, _, _, _, rfl, _⟩ := h
    rfl
  · obtain ⟨x, c, dx, sg, o, t, rfl, hc, ⟨h1, h2, h3⟩, ex, h⟩ := h
    refine ⟨_, (pss_cons (ps_fld (pv 0) (pv 1) rfl)
      (pss_cons (ps_fld (pv 0) (pv 2) rfl)
      (pss_one (ps_fld (pv 0) (pv 3) rfl)))), ?_⟩
    refine w_start [some (.ref x), some sg, some o, some t] rfl ?_
    try dsimp only [cxOf]
    walk_at "wp"
    refine w_sfld1 ex (CF.cl _ hc) (CF.no _ _ h1) rfl rfl fun H1 e1 k1 => ?_
    walk_at "wp"
    refine w_sfld1 e1 (CF.cl _ hc) (CF.no _ _ h2) rfl rfl fun H2 e2 k2 => ?_
    walk_at "wp"
    refine w_sfld1 e2 (CF.cl _ hc) (CF.no _ _ h3) rfl rfl fun H3 e3 k3 => ?_
    exact h H3 e3 ((k1.trans k2).trans k3)
theorem k_Sum (F : MDef K "Sum" "__init__" "Sum.__init__" s_Sum___init__) (mk : Mk K (He.ga K "Sum") (He.ma K (He.ga K "Sum") "__init__")) (g : mg "Sum" = some (.ref (He.ga K "Sum"))) (B_Pairwise : Bas P w K mg base 1 "Pairwise" "__init__" (spPair K)) :
    Mak P w K mg base 2 "Sum" (spIni (He.ga K "Sum") [("sign", .str (S4 0))] ["one", "two"]) := by
  refine mak_of F mk g sc_Sum___init__ b_Sum___init__ (fun vs H Q E h => ?_) (fun cdv A outer s H vs Q E hr h => ?_)
  · obtain ⟨x, dx, args, rfl, hl, _⟩ := h
    exact congrArg Nat.succ hl
  · obtain ⟨x, dx, args, rfl, hl, ex, h⟩ := h
    match args, hl with
    | [v, u], _ =>
      have tk := L2N.takes_of (X := cxOf (L2N.CX P w) P w K mg base ["self", "one", "two"] "Sum.__init__" (defScope s_Sum___init__) (He.ma K (He.ga K "Sum") "__init__") cdv A outer s H E) (E := E) rfl rfl rfl rfl
      have pc := L2N.passes_call tk (fun _ _ _ _ h => h) (E := E)
      refine ⟨_, (pss_one (ps_expr (pe_bas B_Pairwise hr (by omega) pc (pa_cons (pv 0) (pa_cons pe_str (pa_cons (pv 1) (pa_cons (pv 2) pa_nil))))))), ?_⟩
      refine w_start [some (.ref x), some v, some u] rfl ?_
      try dsimp only [cxOf]
      walk_at "wp"
      refine ⟨x, "Sum", dx, _, v, u, rfl, by decide +kernel, ⟨by decide +kernel, by decide +kernel, by decide +kernel⟩, ex, fun H1 e1 k1 => ?_⟩
      exact h H1 e1 k1
theorem k_Less (F : MDef K "Less" "__init__" "Less.__init__" s_Less___init__) (mk : Mk K (He.ga K "Less") (He.ma K (He.ga K "Less") "__init__")) (g : mg "Less" = some (.ref (He.ga K "Less"))) (B_Pairwise : Bas P w K mg base 1 "Pairwise" "__init__" (spPair K)) :
    Mak P w K mg base 2 "Less" (spIni (He.ga K "Less") [("sign", .str (S4 1))] ["one", "two"]) := by
  refine mak_of F mk g sc_Less___init__ b_Less___init__ (fun vs H Q E h => ?_) (fun cdv A outer s H vs Q E hr h => ?_)
  · obtain ⟨x, dx, args, rfl, hl, _⟩ := h
    exact congrArg Nat.succ hl
  · obtain ⟨x, dx, args, rfl, hl, ex, h⟩ := h
    match args, hl with
    | [v, u], _ =>
      have tk := L2N.takes_of (X := cxOf (L2N.CX P w) P w K mg base ["self", "one", "two"] "Less.__init__" (defScope s_Less___init__) (He.ma K (He.ga K "Less") "__init__") cdv A outer s H E) (E := E) rfl rfl rfl rfl
      have pc := L2N.passes_call tk (fun _ _ _ _ h => h) (E := E)
      refine ⟨_, (pss_one (ps_expr (pe_bas B_Pairwise hr (by omega) pc (pa_cons (pv 0) (pa_cons pe_str (pa_cons (pv 1) (pa_cons (pv 2) pa_nil))))))), ?_⟩
      refine w_start [some (.ref x), some v, some u] rfl ?_
      try dsimp only [cxOf]
      walk_at "wp"
      refine ⟨x, "Less", dx, _, v, u, rfl, by decide +kernel, ⟨by decide +kernel, by decide +kernel, by decide +kernel⟩, ex, fun H1 e1 k1 => ?_⟩
      exact h H1 e1 k1
theorem k_Times (F : MDef K "Times" "__init__" "Times.__init__" s_Times___init__) (mk : Mk K (He.ga K "Times") (He.ma K (He.ga K "Times") "__init__")) (g : mg "Times" = some (.ref (He.ga K "Times"))) (B_Pairwise : Bas P w K mg base 1 "Pairwise" "__init__" (spPair K)) :
    Mak P w K mg base 2 "Times" (spIni (He.ga K "Times") [("sign", .str (S4 2))] ["one", "two"]) := by
  refine mak_of F mk g sc_Times___init__ b_Times___init__ (fun vs H Q E h => ?_) (fun cdv A outer s H vs Q E hr h => ?_)
  · obtain ⟨x, dx, args, rfl, hl, _⟩ := h
    exact congrArg Nat.succ hl
  · obtain ⟨x, dx, args, rfl, hl, ex, h⟩ := h
    match args, hl with
    | [v, u], _ =>
      have tk := L2N.takes_of (X := cxOf (L2N.CX P w) P w K mg base ["self", "one", "two"] "Times.__init__" (defScope s_Times___init__) (He.ma K (He.ga K "Times") "__init__") cdv A outer s H E) (E := E) rfl rfl rfl rfl
      have pc := L2N.passes_call tk (fun _ _ _ _ h => h) (E := E)
      refine ⟨_, (pss_one (ps_expr (pe_bas B_Pairwise hr (by omega) pc (pa_cons (pv 0) (pa_cons pe_str (pa_cons (pv 1) (pa_cons (pv 2) pa_nil))))))), ?_⟩
      refine w_start [some (.ref x), some v, some u] rfl ?_
      try dsimp only [cxOf]
      walk_at "wp"
      refine ⟨x, "Times", dx, _, v, u, rfl, by decide +kernel, ⟨by decide +kernel, by decide +kernel, by decide +kernel⟩, ex, fun H1 e1 k1 => ?_⟩
      exact h H1 e1 k1
theorem k_Over (F : MDef K "Over" "__init__" "Over.__init__" s_Over___init__) (mk : Mk K (He.ga K "Over") (He.ma K (He.ga K "Over") "__init__")) (g : mg "Over" = some (.ref (He.ga K "Over"))) (B_Pairwise : Bas P w K mg base 1 "Pairwise" "__init__" (spPair K)) :
    Mak P w K mg base 2 "Over" (spIni (He.ga K "Over") [("sign", .str (S4 3))] ["one", "two"]) := by
  refine mak_of F mk g sc_Over___init__ b_Over___init__ (fun vs H Q E h => ?_) (fun cdv A outer s H vs Q E hr h => ?_)
  · obtain ⟨x, dx, args, rfl, hl, _⟩ := h
    exact congrArg Nat.succ hl
  · obtain ⟨x, dx, args, rfl, hl, ex, h⟩ := h
    match args, hl with
    | [v, u], _ =>
      have tk := L2N.takes_of (X := cxOf (L2N.CX P w) P w K mg base ["self", "one", "two"] "Over.__init__" (defScope s_Over___init__) (He.ma K (He.ga K "Over") "__init__") cdv A outer s H E) (E := E) rfl rfl rfl rfl
      have pc := L2N.passes_call tk (fun _ _ _ _ h => h) (E := E)
      refine ⟨_, (pss_one (ps_expr (pe_bas B_Pairwise hr (by omega) pc (pa_cons (pv 0) (pa_cons pe_str (pa_cons (pv 1) (pa_cons (pv 2) pa_nil))))))), ?_⟩
      refine w_start [some (.ref x), some v, some u] rfl ?_
      try dsimp only [cxOf]
      walk_at "wp"
      refine ⟨x, "Over", dx, _, v, u, rfl, by decide +kernel, ⟨by decide +kernel, by decide +kernel, by decide +kernel⟩, ex, fun H1 e1 k1 => ?_⟩
      exact h H1 e1 k1
end
theorem lg {x : Int} {n m : Nat} (h : x.natAbs < 2 ^ n) (h0 : 0 < n) (hm : n ≤ m) : x.natAbs.log2 < m := Nat.lt_of_lt_of_le (PySem.Flt.log2_lt_of h0 h) hm
/-! ### what terms tell -/
def cls6 : T → Str
  | .num _ => "Number"
  | .kn _ _ => "Known"
  | .bin i _ _ => C4 i
def TOk : T → Prop
  | .num n => n < 1000
  | .kn x none => x.length ≤ 100
  | .kn x (some q) => x.length ≤ 100 ∧ q.1.length ≤ 100 ∧ q.2.natAbs < 1000
  | .bin i a b => i < 4 ∧ TOk a ∧ TOk b
theorem small_len {i : Int} (h : i.natAbs < 1000) : (toString i : Str).length ≤ 1921 := int_text_len_1921 (i := i) (lg (n := 10) (by omega) (by decide) (by decide))
theorem brk_len (b : Bool) (s : Str) : (T.brk b s).length ≤ s.length + 2 := by
  unfold T.brk
  split
  · rw [Str.length_append, Str.length_append]
    have e1 : (Str.ofString "(").length = 1 := by decide +kernel
    have e2 : (Str.ofString ")").length = 1 := by decide +kernel
    omega
  · omega
theorem plTold_len {q : Str × Int} (h1 : q.1.length ≤ 100) (h2 : q.2.natAbs < 1000) : (T.plTold q).length ≤ 2100 := by
  have l1 := small_len h2
  have l2 := small_len (i := 0 - q.2) (by omega)
  have e1 : (Str.ofString " - ").length = 3 := by decide +kernel
  have e2 : (Str.ofString " + ").length = 3 := by decide +kernel
  unfold T.plTold
  split
  · omega
  · split
    · omega
    · split
      · rw [Str.length_append, Str.length_append]
        omega
      · rw [Str.length_append, Str.length_append]
        omega
theorem C4_ne {i : Nat} (hi : i < 4) : C4 i ≠ "Number" ∧ C4 i ≠ "Known" := by
  have h : i = 0 ∨ i = 1 ∨ i = 2 ∨ i = 3 := by omega
  rcases h with rfl | rfl | rfl | rfl <;> decide
theorem S4_len {i : Nat} (hi : i < 4) : (S4 i).length = 1 := by
  have h : i = 0 ∨ i = 1 ∨ i = 2 ∨ i = 3 := by omega
  rcases h with rfl | rfl | rfl | rfl <;> decide +kernel
theorem told_len : ∀ {t : T}, TOk t → t.told.length + 7 ≤ 2500 * t.leaves
  | .num n, h => by
    have := small_len (i := (n : Int)) (by
      have : n < 1000 := h
      omega)
    show (toString (n : Int) : Str).length + 7 ≤ 2500 * 1
    omega
  | .kn x none, h => by
    have h : x.length ≤ 100 := h
    show x.length + 7 ≤ 2500 * 1
    omega
  | .kn x (some q), h => by
    obtain ⟨h1, h2, h3⟩ := h
    have l := plTold_len h2 h3
    have e1 : (Str.ofString "[").length = 1 := by decide +kernel
    have e2 : (Str.ofString "]").length = 1 := by decide +kernel
    show (x ++ "[" ++ T.plTold q ++ "]").length + 7 ≤ 2500 * 1
    rw [Str.length_append, Str.length_append, Str.length_append]
    omega
  | .bin i a b, h => by
    obtain ⟨hi, ha, hb⟩ := h
    have l1 := told_len ha
    have l2 := told_len hb
    have b1 := brk_len (decide (a.rank < rk i)) a.told
    have b2 := brk_len (decide (b.rank < rk i + 1)) b.told
    have e1 : (Str.ofString " ").length = 1 := by decide +kernel
    have e2 := S4_len hi
    show (T.brk (decide (a.rank < rk i)) a.told ++ " " ++ S4 i ++ " " ++ T.brk (decide (b.rank < rk i + 1)) b.told).length + 7 ≤ 2500 * (a.leaves + b.leaves)
    rw [Str.length_append, Str.length_append, Str.length_append, Str.length_append]
    omega
end
end Lw

namespace Lw
open PySem PySem.Spec PyProof.Rows L2 Fw Htx Ob Tx Rd Lk
local macro_rules | `(tactic| walk_at "cond") => `(tactic| first | assumption | (with_reducible exact cdiv_small (by omega) (by omega)) | (with_reducible exact cmul_small (by omega) (by omega)) | (with_reducible exact cpow_mk (by omega) (by omega) (by omega)) | omega)
local macro_rules | `(tactic| walk_at "ne") => `(tactic| first | assumption | exact Ne.symm (by assumption) | exact ne_of_none (by assumption) (by assumption) | exact Ne.symm (ne_of_none (by assumption) (by assumption)))
local macro_rules | `(tactic| walk_at "at") => `(tactic| first
  | assumption
  | (with_reducible exact upd_same)
  | ((with_reducible refine' at_same ?hk ?hh); (case hk => assumption); (case hh => walk_at "at"))
  | ((with_reducible refine' at_keepT ?hk ?hh ?hd); (case hk => assumption); (case hh => walk_at "at"); (case hd => walk_at "at"))
  | ((with_reducible refine' at_keep ?hk ?hh ?hn); (case hk => assumption); (case hh => walk_at "at"); (case hn => walk_at "ne")))
local macro_rules | `(tactic| walk_at "hp") => `(tactic| first
  | assumption
  | (with_reducible exact FrL.sql (by assumption))
  | ((with_reducible refine' SqT.of ?hq); (case hq => walk_at "at")) | ((with_reducible refine' SqL.of ?hq); (case hq => walk_at "at"))
  | ((with_reducible refine' sql_same ?hk ?hh); (case hk => assumption); (case hh => walk_at "hp"))
  | ((with_reducible refine' sql_keep ?hk ?hh ?hn); (case hk => assumption); (case hh => walk_at "hp"); (case hn => walk_at "ne"))
  | ((with_reducible refine' sqt_same ?hk ?hh); (case hk => assumption); (case hh => walk_at "hp")))
local macro_rules | `(tactic| walk_at "wp1") => `(tactic| first
  | with_reducible refine w_mt ?_ | ((with_reducible refine' w_mt1 ?ha ?hl ?_); (case ha => walk_at "at"); (case hl => rfl))
  | with_reducible refine w_fld ?_ | ((with_reducible refine' w_fld1 ?ha (ClsF.cl (cs := clsL) (as := attL) (by assumption) _ ?hc) (ClsF.no (cs := clsL) (as := attL) (by assumption) _ _ ?hn) ?hl ?_); (case ha => walk_at "at"); (case hc => decide +kernel); (case hn => decide +kernel); (case hl => rfl))
  | with_reducible refine w_sfld ?_ | ((with_reducible refine' w_sfld1 ?ha (ClsF.cl (cs := clsL) (as := attL) (by assumption) _ ?hc) (ClsF.no (cs := clsL) (as := attL) (by assumption) _ _ ?hn) ?he ?hl ?_); (case ha => walk_at "at"); (case hc => decide +kernel); (case hn => decide +kernel); (case he => rfl); (case hl => rfl))
  | with_reducible refine w_lk ?_ | ((with_reducible refine' lkL ?ha ?_); (case ha => walk_at "at")) | with_reducible refine w_mkS ?_ | with_reducible refine w_mk ?_ | with_reducible refine w_bas ?_ | with_reducible refine w_m1 ?_ | with_reducible refine w_isS ?_ | with_reducible refine w_bm0 ?_ | with_reducible refine w_iS ?_ | with_reducible refine w_chain ?_
  | with_reducible refine w_inSg ?_ | with_reducible refine w_ninSg ?_
  | with_reducible refine w_rz ?_ | with_reducible refine w_calX ?_ | with_reducible refine w_calS ?_ | with_reducible refine w_row ?_
  | with_reducible refine w_seq ?_ | with_reducible refine w_set ?_ | with_reducible refine w_drop ?_ | with_reducible refine w_ret ?_ | with_reducible refine w_ifS ?_ | with_reducible refine w_next ?_
  | ((with_reducible refine' w_var ?hv ?_); (case hv => rfl)) | with_reducible refine w_c ?_
  | with_reducible refine w_op ?_ | with_reducible refine w_un ?_ | with_reducible refine w_cb ?_ | with_reducible refine w_cal ?_ | with_reducible refine w_cons ?_ | with_reducible refine w_nil ?_
  | with_reducible refine w_plus ?_ | with_reducible refine w_minus ?_ | with_reducible refine w_lt ?_ | with_reducible refine w_le ?_ | with_reducible refine w_gt ?_ | with_reducible refine w_ge ?_
  | with_reducible refine w_eqI ?_ | with_reducible refine w_neI ?_ | with_reducible refine w_eqB ?_ | with_reducible refine w_neB ?_ | with_reducible refine w_eqS ?_ | with_reducible refine w_neS ?_
  | with_reducible refine w_neg ?_ | with_reducible refine w_abs ?_ | with_reducible refine w_intB ?_ | with_reducible refine w_test ?_ | with_reducible refine w_tB ?_ | with_reducible refine w_bl ?_
  | with_reducible refine w_and ?_ | with_reducible refine w_or ?_ | with_reducible refine w_not ?_ | with_reducible refine w_andV ?_ | with_reducible refine w_orV ?_ | with_reducible refine w_notV ?_ | with_reducible refine w_ifE ?_
  | with_reducible refine w_nyes ?_ | with_reducible refine w_nno ?_ | with_reducible refine w_yes ?_ | with_reducible refine w_no ?_
  | ((with_reducible refine' w_ixL ?ha ?hb ?_); (case ha => walk_at "hp"); (case hb => rfl)) | ((with_reducible refine' w_ixT ?ha ?hb ?_); (case ha => walk_at "hp"); (case hb => rfl))
  | ((with_reducible refine' w_lenL ?ha ?_); (case ha => walk_at "hp")) | ((with_reducible refine' w_lenT ?ha ?_); (case ha => walk_at "hp"))
  | with_reducible refine w_min2 ?_ | with_reducible refine w_max2 ?_ | with_reducible refine w_bm ?_ | with_reducible refine w_lc ?_ | ((with_reducible refine' w_tyL ?ha ?_); (case ha => walk_at "at"))
  | with_reducible refine isi_ii ?_ | with_reducible refine isi_ib ?_ | with_reducible refine isi_bb ?_ | with_reducible refine isi_ss ?_
  | ((with_reducible refine' isi_tt ?ha ?_); (case ha => walk_at "at")) | ((with_reducible refine' isi_ll ?ha ?_); (case ha => walk_at "at"))
  | with_reducible refine w_par ?_ | with_reducible refine w_par2 ?_ | with_reducible refine w_for ?_ | with_reducible refine w_iL ?_ | with_reducible refine w_iT ?_ | with_reducible refine w_iR1 ?_ | with_reducible refine w_iR2 ?_
  | with_reducible refine w_tup ?_ | with_reducible refine w_lst ?_
  | with_reducible refine w_asg ?_ | with_reducible refine w_gname ?_ | with_reducible refine w_gcons ?_ | with_reducible refine w_gnil ?_ | with_reducible refine w_gsub ?_
  | ((with_reducible refine' w_gtup ?ha ?hb ?_); (case ha => walk_at "hp"); (case hb => rfl))
  | ((with_reducible refine' w_fdiv ?hc ?_); (case hc => walk_at "cond")) | ((with_reducible refine' w_mul ?hc ?_); (case hc => walk_at "cond"))
  | ((with_reducible refine' w_mod ?hc ?_); (case hc => walk_at "cond")) | ((with_reducible refine' w_pow ?hc ?_); (case hc => walk_at "cond")))
local macro_rules | `(tactic| walk_at "wp") => `(tactic| repeat walk_at "wp1")
section
variable {P : Program} {w : World} {K : PySem.W.Frag} {mg : Str → Option Value} {base : Heap}
def spPlace (K : PySem.W.Frag) : Sp := fun vs H Q E => ∃ r ml ms p n b, vs = [.ref r] ∧ RowAt K H r ml ms p n b ∧
  match rPlace ms p with
  | some (x, p') => ∀ a H', H' a = some (.tup [.str x.1, .int x.2]) → RowAt K H' r ml ms p' n b → Fw.Keep r H H' → Q (.ref a) H'
  | none => BadR K E n r H
/-- a method that reads a term by f -/
def spRd (K : PySem.W.Frag) (b : Nat) (f : List Str → Ps) : Sp := fun vs H Q E => ∃ r ml ms p n, vs = [.ref r] ∧ RowAt K H r ml ms p n b ∧
  match f ms p with
  | some (t, p') => ∀ a H', TermAt K H' a t → RowAt K H' r ml ms p' n b → Fw.Keep r H H' → Q (.ref a) H'
  | none => BadR K E n r H
def spKnown (K : PySem.W.Frag) : Sp := fun vs H Q E => ∃ b, spRd K b rKnown vs H Q E
section
variable (T : Fre mg) (CS : Cst K mg) (CF : ClsF K clsL attL) (MF : MthF K)
include T CS CF MF
theorem m_Row_read_place (F : MDef K "Row" "read_place" "Row.read_place" s_Row_read_place) (m_Row_now : Met P w K mg base 1 "Row" "now" (spNow K)) (m_Row_took : Met P w K mg base 2 "Row" "took" (spTook K)) (m_Row_read_name : Met P w K mg base 4 "Row" "read_name" (spName K)) (m_Row_read_whole : Met P w K mg base 4 "Row" "read_whole" (spWh K)) (c_is_number : Cal P w K mg base 1 "is_number" ["mark"] spIsNumber) : Met P w K mg base 5 "Row" "read_place" (spPlace K) := by
  refine met_of F (CF.cl _ (by decide +kernel)) (MF.m _ _ (by decide +kernel)) sc_Row_read_place b_Row_read_place (fun vs H Q E h => ?_) (fun cdv A outer s H vs Q E hr h => ?_)
  · obtain ⟨_, _, _, _, _, _, rfl, _⟩ := h
    rfl
  · obtain ⟨r, ml, ms, p, n, b, rfl, R, h⟩ := h
    have po := passes_of (X := cxOf (L2N.CX P w) P w K mg base ["self", "counter"] "Row.read_place" (defScope s_Row_read_place) (He.ma K (He.ga K "Row") "read_place") cdv A outer s H E) rfl
    have tk := L2N.takes_of (X := cxOf (L2N.CX P w) P w K mg base ["self", "counter"] "Row.read_place" (defScope s_Row_read_place) (He.ma K (He.ga K "Row") "read_place") cdv A outer s H E) (E := E) rfl rfl rfl rfl
    have pc := L2N.passes_call tk (fun _ _ _ _ h => h) (E := E)
    refine ⟨_, (pss_cons (ps_if (pt_val (pe_cal c_is_number hr (by omega) pc (pa_cons (pe_mt0 m_Row_now (pv 0) hr (by omega) pc) pa_nil))) (pss_one (ps_ret (pe_tup (pa_cons pe_str (pa_cons (pe_mt m_Row_read_whole (pv 0) hr (by omega) pc (pa_cons pe_int (pa_cons pe_int pa_nil))) pa_nil))))) pss_nil)
      (pss_cons (ps_set (i := 1) sc_Row_read_place.nd rfl (loc_of rfl) (pe_mt0 m_Row_read_name (pv 0) hr (by omega) pc))
      (pss_cons (ps_if (pt_val (pe_mt m_Row_took (pv 0) hr (by omega) pc (pa_cons pe_str pa_nil))) (pss_one (ps_ret (pe_tup (pa_cons (pv 1) (pa_cons (pe_mt m_Row_read_whole (pv 0) hr (by omega) pc (pa_cons pe_int (pa_cons pe_int pa_nil))) pa_nil))))) pss_nil)
      (pss_cons (ps_if (pt_val (pe_mt m_Row_took (pv 0) hr (by omega) pc (pa_cons pe_str pa_nil))) (pss_one (ps_ret (pe_tup (pa_cons (pv 1) (pa_cons (pe_op o_sub pe_int (pe_mt m_Row_read_whole (pv 0) hr (by omega) pc (pa_cons pe_int (pa_cons pe_int pa_nil)))) pa_nil))))) pss_nil)
      (pss_one (ps_ret (pe_tup (pa_cons (pv 1) (pa_cons pe_int pa_nil))))))))), ?_⟩
    refine w_start [some (.ref r), none] rfl ?_
    try dsimp only [cxOf]
    obtain ⟨ok, dx, er, el⟩ := id R
    unfold rPlace at h
    walk_at "wp"
    refine ⟨r, ml, ms, p, n, b, rfl, R, ?_⟩
    walk_at "wp"
    refine ⟨_, rfl, (mksNow ok p).2, (mksNow ok p).1, ?_⟩
    walk_at "wp"
    cases e : (numVal (now ms p)).isSome with
    | true =>
      rw [if_pos e] at h
      walk_at "wp"
      refine ⟨r, ml, ms, p, n, b, 0, 99, rfl, R, ?_⟩
      cases e2 : rWhole ms 0 99 p with
      | none =>
        rw [e2] at h
        exact h
      | some z =>
        rw [e2] at h
        refine fun H1 R1 k1 => ?_
        walk_at "wp"
        refine newT fun a H2 na e3 s3 => ?_
        exact h a H2 e3 (R1.same s3) (k1.same s3)
    | false =>
      rw [if_neg (by rw [e]; exact Bool.false_ne_true)] at h
      walk_at "wp"
      refine ⟨r, ml, ms, p, n, b, rfl, R, ?_⟩
      cases e2 : rName ms p with
      | none =>
        rw [e2] at h
        exact h
      | some z =>
        rw [e2] at h
        obtain ⟨x, p1⟩ := z
        refine fun H1 R1 k1 => ?_
        simp only [Option.bind_some] at h
        obtain ⟨_, dx1, er1, el1⟩ := id R1
        walk_at "wp"
        refine ⟨r, ml, ms, p1, n, b, _, rfl, R1, fun h1 H2 R2 k2 => ?_, fun h1 => ?_⟩
        · rw [if_pos h1] at h
          obtain ⟨_, dx2, er2, el2⟩ := id R2
          walk_at "wp"
          refine ⟨r, ml, ms, p1 + 1, n, b, 0, 99, rfl, R2, ?_⟩
          cases e3 : rWhole ms 0 99 (p1 + 1) with
          | none =>
            rw [e3] at h
            exact h.on (k1.trans k2) R2
          | some z =>
            rw [e3] at h
            refine fun H3 R3 k3 => ?_
            walk_at "wp"
            refine newT fun a H4 na e4 s4 => ?_
            exact h a H4 e4 (R3.same s4) (((k1.trans k2).trans k3).same s4)
        · rw [if_neg h1] at h
          walk_at "wp"
          refine ⟨r, ml, ms, p1, n, b, _, rfl, R1, fun h2 H2 R2 k2 => ?_, fun h2 => ?_⟩
          · rw [if_pos h2] at h
            obtain ⟨_, dx2, er2, el2⟩ := id R2
            walk_at "wp"
            refine ⟨r, ml, ms, p1 + 1, n, b, 0, 99, rfl, R2, ?_⟩
            cases e3 : rWhole ms 0 99 (p1 + 1) with
            | none =>
              rw [e3] at h
              exact h.on (k1.trans k2) R2
            | some z =>
              rw [e3] at h
              refine fun H3 R3 k3 => ?_
              walk_at "wp"
              refine newT fun a H4 na e4 s4 => ?_
              exact h a H4 e4 (R3.same s4) (((k1.trans k2).trans k3).same s4)
          · rw [if_neg h2] at h
            walk_at "wp"
            refine newT fun a H4 na e4 s4 => ?_
            exact h a H4 e4 (R1.same s4) (k1.same s4)
theorem m_Row_read_known (F : MDef K "Row" "read_known" "Row.read_known" s_Row_read_known) (m_Row_took : Met P w K mg base 2 "Row" "took" (spTook K)) (m_Row_must : Met P w K mg base 4 "Row" "must" (spMust K)) (m_Row_read_name : Met P w K mg base 4 "Row" "read_name" (spName K)) (m_Row_read_place : Met P w K mg base 5 "Row" "read_place" (spPlace K)) (k_Known : Mak P w K mg base 1 "Known" (spIni (He.ga K "Known") [] ["name", "place"])) : Met P w K mg base 6 "Row" "read_known" (spKnown K) := by
  refine met_of F (CF.cl _ (by decide +kernel)) (MF.m _ _ (by decide +kernel)) sc_Row_read_known b_Row_read_known (fun vs H Q E h => ?_) (fun cdv A outer s H vs Q E hr h => ?_)
  · obtain ⟨_, _, _, _, _, _, rfl, _⟩ := h
    rfl
  · obtain ⟨b, r, ml, ms, p, n, rfl, R, h⟩ := h
    have po := passes_of (X := cxOf (L2N.CX P w) P w K mg base ["self", "name", "place"] "Row.read_known" (defScope s_Row_read_known) (He.ma K (He.ga K "Row") "read_known") cdv A outer s H E) rfl
    have tk := L2N.takes_of (X := cxOf (L2N.CX P w) P w K mg base ["self", "name", "place"] "Row.read_known" (defScope s_Row_read_known) (He.ma K (He.ga K "Row") "read_known") cdv A outer s H E) (E := E) rfl rfl rfl rfl
    have pc := L2N.passes_call tk (fun _ _ _ _ h => h) (E := E)
    refine ⟨_, (pss_cons (ps_set (i := 1) sc_Row_read_known.nd rfl (loc_of rfl) (pe_mt0 m_Row_read_name (pv 0) hr (by omega) pc))
      (pss_cons (ps_if (pt_not (pt_val (pe_mt m_Row_took (pv 0) hr (by omega) pc (pa_cons pe_str pa_nil)))) (pss_one (ps_ret (pe_mkS k_Known hr (by omega) pc (pa_cons (pv 1) (pa_cons pe_non pa_nil))))) pss_nil)
      (pss_cons (ps_set (i := 2) sc_Row_read_known.nd rfl (loc_of rfl) (pe_mt0 m_Row_read_place (pv 0) hr (by omega) pc))
      (pss_cons (ps_expr (pe_mt m_Row_must (pv 0) hr (by omega) pc (pa_cons pe_str pa_nil)))
      (pss_one (ps_ret (pe_mkS k_Known hr (by omega) pc (pa_cons (pv 1) (pa_cons (pv 2) pa_nil))))))))), ?_⟩
    refine w_start [some (.ref r), none, none] rfl ?_
    try dsimp only [cxOf]
    obtain ⟨ok, dx, er, el⟩ := id R
    unfold rKnown at h
    walk_at "wp"
    refine ⟨r, ml, ms, p, n, b, rfl, R, ?_⟩
    cases e2 : rName ms p with
    | none =>
      rw [e2] at h
      exact h
    | some z =>
      rw [e2] at h
      obtain ⟨x, p1⟩ := z
      refine fun H1 R1 k1 => ?_
      simp only [Option.bind_some] at h
      obtain ⟨_, dx1, er1, el1⟩ := id R1
      walk_at "wp"
      refine ⟨r, ml, ms, p1, n, b, _, rfl, R1, fun h1 H2 R2 k2 => ?_, fun h1 => ?_⟩
      · rw [if_pos h1] at h
        obtain ⟨_, dx2, er2, el2⟩ := id R2
        walk_at "wp"
        refine ⟨r, ml, ms, p1 + 1, n, b, rfl, R2, ?_⟩
        cases e3 : rPlace ms (p1 + 1) with
        | none =>
          rw [e3] at h
          exact h.on (k1.trans k2) R2
        | some z =>
          rw [e3] at h
          obtain ⟨pl, p2⟩ := z
          simp only [Option.bind_some] at h
          refine fun a H3 e4 R3 k3 => ?_
          obtain ⟨_, dx3, er3, el3⟩ := id R3
          walk_at "wp"
          refine ⟨r, ml, ms, p2, n, b, _, rfl, R3, ?_⟩
          cases e5 : must ms "]" p2 with
          | none =>
            rw [e5] at h
            exact h.on ((k1.trans k2).trans k3) R3
          | some p3 =>
            rw [e5] at h
            refine fun H4 R4 k4 => ?_
            have e4' := R3.kn k4 a _ (show Node (.tup _) from trivial) e4
            walk_at "wp"
            refine ⟨rfl, fun y dy H5 ny e6 s6 => ?_⟩
            exact h y H5 ⟨dy, a, e6, s6 _ _ e4'⟩ (R4.same s6) ((((k1.trans k2).trans k3).trans k4).same s6)
      · rw [if_neg h1] at h
        walk_at "wp"
        refine ⟨rfl, fun y dy H5 ny e6 s6 => ?_⟩
        exact h y H5 ⟨dy, e6⟩ (R1.same s6) (k1.same s6)
/-- what is read within brackets: nothing where none is left -/
def spIn (K : PySem.W.Frag) (b : Nat) : Nat → Sp
  | 0 => fun _ _ _ _ => False
  | k + 1 => spRd K b fun ms => rTerm ms k
theorem m_unit {b k L : Nat} (hL : 6 ≤ L) (hb : b + k = 9) (F : MDef K "Row" "read_unit" "Row.read_unit" s_Row_read_unit) (m_Row_now : Met P w K mg base 1 "Row" "now" (spNow K)) (m_Row_bad : Met P w K mg base 3 "Row" "bad" (spBad K)) (m_Row_took : Met P w K mg base 2 "Row" "took" (spTook K)) (m_Row_must : Met P w K mg base 4 "Row" "must" (spMust K)) (m_Row_read_whole : Met P w K mg base 4 "Row" "read_whole" (spWh K)) (c_is_number : Cal P w K mg base 1 "is_number" ["mark"] spIsNumber) (k_Number : Mak P w K mg base 1 "Number" (spIni (He.ga K "Number") [] ["value"])) (m_Row_read_known : Met P w K mg base 6 "Row" "read_known" (spKnown K)) (m_Row_read_term : Met P w K mg base L "Row" "read_term" (spIn K (b + 1) k)) : Met P w K mg base (L + 1) "Row" "read_unit" (spRd K b fun ms => rUnit ms (inner ms k)) := by
  refine met_of F (CF.cl _ (by decide +kernel)) (MF.m _ _ (by decide +kernel)) sc_Row_read_unit b_Row_read_unit (fun vs H Q E h => ?_) (fun cdv A outer s H vs Q E hr h => ?_)
  · obtain ⟨_, _, _, _, _, rfl, _⟩ := h
    rfl
  · obtain ⟨r, ml, ms, p, n, rfl, R, h⟩ := h
    have g_MOST_BRACKETS := CS.g_MOST_BRACKETS
    have po := passes_of (X := cxOf (L2N.CX P w) P w K mg base ["self", "found"] "Row.read_unit" (defScope s_Row_read_unit) (He.ma K (He.ga K "Row") "read_unit") cdv A outer s H E) rfl
    have tk := L2N.takes_of (X := cxOf (L2N.CX P w) P w K mg base ["self", "found"] "Row.read_unit" (defScope s_Row_read_unit) (He.ma K (He.ga K "Row") "read_unit") cdv A outer s H E) (E := E) rfl rfl rfl rfl
    have pc := L2N.passes_call tk (fun _ _ _ _ h => h) (E := E)
    refine ⟨_, (pss_cons (ps_if (pt_val (pe_mt m_Row_took (pv 0) hr (by omega) pc (pa_cons pe_str pa_nil))) (pss_cons (ps_fld (pv 0) (pe_op o_add (pe_fld (pv 0) rfl) pe_int) rfl)
      (pss_cons (ps_if (pt_cmpR o_gt (pe_fld (pv 0) rfl) (C8.pe_gc (v := .int 9) (by rfl) g_MOST_BRACKETS) (nomark _)) (pss_one (ps_expr (pe_mt0 m_Row_bad (pv 0) hr (by omega) pc))) pss_nil)
      (pss_cons (ps_set (i := 1) sc_Row_read_unit.nd rfl (loc_of rfl) (pe_mt0 m_Row_read_term (pv 0) hr (by omega) pc))
      (pss_cons (ps_expr (pe_mt m_Row_must (pv 0) hr (by omega) pc (pa_cons pe_str pa_nil)))
      (pss_cons (ps_fld (pv 0) (pe_op o_sub (pe_fld (pv 0) rfl) pe_int) rfl)
      (pss_one (ps_ret (pv 1)))))))) pss_nil)
      (pss_cons (ps_if (pt_val (pe_cal c_is_number hr (by omega) pc (pa_cons (pe_mt0 m_Row_now (pv 0) hr (by omega) pc) pa_nil))) (pss_one (ps_ret (pe_mkS k_Number hr (by omega) pc (pa_cons (pe_tup (pa_cons (pe_mt m_Row_read_whole (pv 0) hr (by omega) pc (pa_cons pe_int (pa_cons pe_int pa_nil))) (pa_cons pe_int pa_nil))) pa_nil)))) pss_nil)
      (pss_one (ps_ret (pe_mt0 m_Row_read_known (pv 0) hr (by omega) pc))))), ?_⟩
    refine w_start [some (.ref r), none] rfl ?_
    try dsimp only [cxOf]
    obtain ⟨ok, dx, er, el⟩ := id R
    dsimp only [rUnit] at h
    walk_at "wp"
    refine ⟨r, ml, ms, p, n, b, _, rfl, R, fun h1 H1 R1 k1 => ?_, fun h1 => ?_⟩
    · rw [if_pos h1] at h
      obtain ⟨_, dx1, er1, el1⟩ := id R1
      walk_at "wp"
      refine fun H2 e2 k2 => ?_
      have R2 := RowAt.opn ok er1 el1 e2 k2
      obtain ⟨_, dx2, er2, el2⟩ := id R2
      have k12 := k1.trans k2
      clear e2
      walk_at "wp"
      refine w_dec (fun h2 => ?_) (fun h2 => ?_)
      · have hk : k = 0 := by omega
        subst hk
        walk_at "wp"
        exact ⟨r, ml, ms, p + 1, n, b + 1, rfl, R2, h.on k12 R2⟩
      · obtain ⟨k', rfl⟩ : ∃ k', k = k' + 1 := ⟨k - 1, by omega⟩
        simp only [inner, Option.bind_some] at h
        walk_at "wp"
        refine ⟨r, ml, ms, p + 1, n, rfl, R2, ?_⟩
        dsimp only
        cases e3 : rTerm ms k' (p + 1) with
        | none =>
          rw [e3] at h
          exact h.on k12 R2
        | some z =>
          rw [e3] at h
          obtain ⟨t, p2⟩ := z
          simp only [Option.bind_some] at h
          refine fun a H3 t3 R3 k3 => ?_
          obtain ⟨_, dx3, er3, el3⟩ := id R3
          walk_at "wp"
          refine ⟨r, ml, ms, p2, n, b + 1, _, rfl, R3, ?_⟩
          cases e5 : must ms ")" p2 with
          | none =>
            rw [e5] at h
            exact h.on (k12.trans k3) R3
          | some p3 =>
            rw [e5] at h
            refine fun H4 R4 k4 => ?_
            obtain ⟨_, dx4, er4, el4⟩ := id R4
            walk_at "wp"
            refine fun H5 e6 k5 => ?_
            have R5 := RowAt.cls ok er4 el4 e6 k5
            walk_at "wp"
            exact h a H5 ((t3.keep (R3.kn k4)).keep (R4.kn k5)) R5 (((k12.trans k3).trans k4).trans k5)
    · rw [if_neg h1] at h
      walk_at "wp"
      refine ⟨r, ml, ms, p, n, b, rfl, R, ?_⟩
      walk_at "wp"
      refine ⟨_, rfl, (mksNow ok p).2, (mksNow ok p).1, ?_⟩
      walk_at "wp"
      cases e : (numVal (now ms p)).isSome with
      | true =>
        rw [if_pos e] at h
        walk_at "wp"
        refine ⟨r, ml, ms, p, n, b, 0, 99, rfl, R, ?_⟩
        cases e2 : rWhole ms 0 99 p with
        | none =>
          rw [e2] at h
          exact h
        | some z =>
          rw [e2] at h
          refine fun H1 R1 k1 => ?_
          walk_at "wp"
          refine newT fun a H2 na e3 s3 => ?_
          walk_at "wp"
          refine ⟨rfl, fun y dy H3 ny e4 s4 => ?_⟩
          exact h y H3 ⟨dy, a, e4, s4 _ _ e3⟩ ((R1.same s3).same s4) ((k1.same s3).same s4)
      | false =>
        rw [if_neg (by rw [e]; exact Bool.false_ne_true)] at h
        walk_at "wp"
        exact ⟨b, r, ml, ms, p, n, rfl, R, h⟩
theorem m_prod {b k L : Nat} (hL : 6 ≤ L) (hb : b + k = 9) (F : MDef K "Row" "read_product" "Row.read_product" s_Row_read_product) (m_Row_now : Met P w K mg base 1 "Row" "now" (spNow K)) (m_Row_took : Met P w K mg base 2 "Row" "took" (spTook K)) (m_Row_must : Met P w K mg base 4 "Row" "must" (spMust K)) (k_Times : Mak P w K mg base 2 "Times" (spIni (He.ga K "Times") [("sign", .str (S4 2))] ["one", "two"])) (k_Over : Mak P w K mg base 2 "Over" (spIni (He.ga K "Over") [("sign", .str (S4 3))] ["one", "two"])) (m_Row_read_unit : Met P w K mg base (L + 1) "Row" "read_unit" (spRd K b fun ms => rUnit ms (inner ms k))) : Met P w K mg base (L + 2) "Row" "read_product" (spRd K b fun ms => rProd ms (inner ms k)) := by
  refine met_of F (CF.cl _ (by decide +kernel)) (MF.m _ _ (by decide +kernel)) sc_Row_read_product b_Row_read_product (fun vs H Q E h => ?_) (fun cdv A outer s H vs Q E hr h => ?_)
  · obtain ⟨_, _, _, _, _, rfl, _⟩ := h
    rfl
  · obtain ⟨r, ml, ms, p, n, rfl, R, h⟩ := h
    have po := passes_of (X := cxOf (L2N.CX P w) P w K mg base ["self", "found"] "Row.read_product" (defScope s_Row_read_product) (He.ma K (He.ga K "Row") "read_product") cdv A outer s H E) rfl
    have tk := L2N.takes_of (X := cxOf (L2N.CX P w) P w K mg base ["self", "found"] "Row.read_product" (defScope s_Row_read_product) (He.ma K (He.ga K "Row") "read_product") cdv A outer s H E) (E := E) rfl rfl rfl rfl
    have pc := L2N.passes_call tk (fun _ _ _ _ h => h) (E := E)
    refine ⟨_, (pss_cons (ps_set (i := 1) sc_Row_read_product.nd rfl (loc_of rfl) (pe_mt0 m_Row_read_unit (pv 0) hr (by omega) pc))
      (pss_cons (ps_while po (PW.pt (pw_or (pt_cmpR op_eq (pe_mt0 m_Row_now (pv 0) hr (by omega) pc) pe_str (nomark _)) (pw_or1 (pt_cmpR op_eq (pe_mt0 m_Row_now (pv 0) hr (by omega) pc) pe_str (nomark _))))) (pss_one (ps_if (pt_val (pe_mt m_Row_took (pv 0) hr (by omega) pc (pa_cons pe_str pa_nil))) (pss_one (ps_set (i := 1) sc_Row_read_product.nd rfl (loc_of rfl) (pe_mkS k_Times hr (by omega) pc (pa_cons (pv 1) (pa_cons (pe_mt0 m_Row_read_unit (pv 0) hr (by omega) pc) pa_nil))))) (pss_cons (ps_expr (pe_mt m_Row_must (pv 0) hr (by omega) pc (pa_cons pe_str pa_nil)))
      (pss_one (ps_set (i := 1) sc_Row_read_product.nd rfl (loc_of rfl) (pe_mkS k_Over hr (by omega) pc (pa_cons (pv 1) (pa_cons (pe_mt0 m_Row_read_unit (pv 0) hr (by omega) pc) pa_nil)))))))))
      (pss_one (ps_ret (pv 1))))), ?_⟩
    refine w_start [some (.ref r), none] rfl ?_
    try dsimp only [cxOf]
    obtain ⟨ok, dx, er, el⟩ := id R
    have hf : Rd.Mono (rUnit ms (inner ms k)) := unit_mono k
    have hres : (rProd ms (inner ms k)) p = ((rUnit ms (inner ms k)) p).bind fun q => lpF ms 2 (rUnit ms (inner ms k)) q.1 q.2 := rfl
    dsimp only at h
    rw [hres] at h
    walk_at "wp"
    refine ⟨r, ml, ms, p, n, rfl, R, ?_⟩
    dsimp only
    cases e1 : (rUnit ms (inner ms k)) p with
    | none =>
      rw [e1] at h
      exact h
    | some z =>
      rw [e1] at h
      obtain ⟨t0, p0⟩ := z
      simp only [Option.bind_some] at h
      refine fun a0 H1 t1 R1 k1 => ?_
      walk_at "wp"
      refine w_while (fun m σ H' => ∃ a t p', σ = [some (.ref r), some (.ref a)] ∧ TermAt K H' a t ∧ RowAt K H' r ml ms p' n b ∧ Fw.Keep r H H' ∧ lpF ms 2 (rUnit ms (inner ms k)) t p' = lpF ms 2 (rUnit ms (inner ms k)) t0 p0 ∧ m = ms.length - p') (ms.length - p0) ⟨a0, t0, p0, rfl, t1, R1, k1, rfl, rfl⟩ fun m σ H2 hw => ?_
      obtain ⟨a, t, p', rfl, t2, R2, k2, hE, rfl⟩ := hw
      obtain ⟨_, dx2, er2, el2⟩ := id R2
      rw [← hE] at h
      walk_at "wp"
      refine ⟨r, ml, ms, p', n, b, rfl, R2, ?_⟩
      walk_at "wp"
      refine w_dec (fun h1 => ?_) (fun h1 => ?_)
      · have hlt : p' < ms.length := now_lt (by rw [h1]; decide)
        have hs := lpF_one (ms := ms) (i := 2) (by decide) hf (t := t) h1
        rw [hs] at h
        walk_at "wp"
        refine w_turn ?_
        walk_at "wp"
        refine ⟨r, ml, ms, p', n, b, _, rfl, R2, fun _ H3 R3 k3 => ?_, fun h2 => absurd h1 h2⟩
        obtain ⟨_, dx3, er3, el3⟩ := id R3
        walk_at "wp"
        refine ⟨r, ml, ms, p' + 1, n, rfl, R3, ?_⟩
        dsimp only
        cases e4 : (rUnit ms (inner ms k)) (p' + 1) with
        | none =>
          rw [e4] at h
          exact h.on (k2.trans k3) R3
        | some z =>
          obtain ⟨t4, p4⟩ := z
          refine fun a4 H4 t4' R4 k4 => ?_
          walk_at "wp"
          refine ⟨rfl, fun y dy H5 ny e5 s5 => ?_⟩
          have hm := hf _ _ _ e4
          refine ⟨ms.length - p4, by omega, y, .bin 2 t t4, p4, rfl, ⟨by decide, dy, a, a4, e5, ((t2.keep (R2.kn k3)).keep (R3.kn k4)).keep s5.keepN, t4'.keep s5.keepN⟩, R4.same s5, ((k2.trans k3).trans k4).same s5, ?_, rfl⟩
          rw [← hE, hs, e4]
          rfl
      · walk_at "wp"
        refine ⟨r, ml, ms, p', n, b, rfl, R2, ?_⟩
        walk_at "wp"
        refine w_dec (fun h2 => ?_) (fun h2 => ?_)
        · have hlt : p' < ms.length := now_lt (by rw [h2]; decide)
          have hs := lpF_two (ms := ms) (i := 2) (by decide) hf (t := t) h1 h2
          rw [hs] at h
          walk_at "wp"
          refine w_turn ?_
          walk_at "wp"
          refine ⟨r, ml, ms, p', n, b, _, rfl, R2, fun h3 _ _ _ => absurd h3 h1, fun _ => ?_⟩
          walk_at "wp"
          refine ⟨r, ml, ms, p', n, b, _, rfl, R2, ?_⟩
          have em : must ms "/" p' = some (p' + 1) := if_pos h2
          rw [em]
          refine fun H3 R3 k3 => ?_
          obtain ⟨_, dx3, er3, el3⟩ := id R3
          walk_at "wp"
          refine ⟨r, ml, ms, p' + 1, n, rfl, R3, ?_⟩
          dsimp only
          cases e4 : (rUnit ms (inner ms k)) (p' + 1) with
          | none =>
            rw [e4] at h
            exact h.on (k2.trans k3) R3
          | some z =>
            obtain ⟨t4, p4⟩ := z
            refine fun a4 H4 t4' R4 k4 => ?_
            walk_at "wp"
            refine ⟨rfl, fun y dy H5 ny e5 s5 => ?_⟩
            have hm := hf _ _ _ e4
            refine ⟨ms.length - p4, by omega, y, .bin 3 t t4, p4, rfl, ⟨by decide, dy, a, a4, e5, ((t2.keep (R2.kn k3)).keep (R3.kn k4)).keep s5.keepN, t4'.keep s5.keepN⟩, R4.same s5, ((k2.trans k3).trans k4).same s5, ?_, rfl⟩
            rw [← hE, hs, e4]
            rfl
        · rw [lpF_end h1 h2] at h
          walk_at "wp"
          exact h a H2 t2 R2 k2
theorem m_term {b k L : Nat} (hL : 6 ≤ L) (hb : b + k = 9) (F : MDef K "Row" "read_term" "Row.read_term" s_Row_read_term) (m_Row_now : Met P w K mg base 1 "Row" "now" (spNow K)) (m_Row_took : Met P w K mg base 2 "Row" "took" (spTook K)) (m_Row_must : Met P w K mg base 4 "Row" "must" (spMust K)) (k_Sum : Mak P w K mg base 2 "Sum" (spIni (He.ga K "Sum") [("sign", .str (S4 0))] ["one", "two"])) (k_Less : Mak P w K mg base 2 "Less" (spIni (He.ga K "Less") [("sign", .str (S4 1))] ["one", "two"])) (m_Row_read_product : Met P w K mg base (L + 2) "Row" "read_product" (spRd K b fun ms => rProd ms (inner ms k))) : Met P w K mg base (L + 3) "Row" "read_term" (spRd K b fun ms => rTermW ms (inner ms k)) := by
  refine met_of F (CF.cl _ (by decide +kernel)) (MF.m _ _ (by decide +kernel)) sc_Row_read_term b_Row_read_term (fun vs H Q E h => ?_) (fun cdv A outer s H vs Q E hr h => ?_)
  · obtain ⟨_, _, _, _, _, rfl, _⟩ := h
    rfl
  · obtain ⟨r, ml, ms, p, n, rfl, R, h⟩ := h
    have po := passes_of (X := cxOf (L2N.CX P w) P w K mg base ["self", "found"] "Row.read_term" (defScope s_Row_read_term) (He.ma K (He.ga K "Row") "read_term") cdv A outer s H E) rfl
    have tk := L2N.takes_of (X := cxOf (L2N.CX P w) P w K mg base ["self", "found"] "Row.read_term" (defScope s_Row_read_term) (He.ma K (He.ga K "Row") "read_term") cdv A outer s H E) (E := E) rfl rfl rfl rfl
    have pc := L2N.passes_call tk (fun _ _ _ _ h => h) (E := E)
    refine ⟨_, (pss_cons (ps_set (i := 1) sc_Row_read_term.nd rfl (loc_of rfl) (pe_mt0 m_Row_read_product (pv 0) hr (by omega) pc))
      (pss_cons (ps_while po (PW.pt (pw_or (pt_cmpR op_eq (pe_mt0 m_Row_now (pv 0) hr (by omega) pc) pe_str (nomark _)) (pw_or1 (pt_cmpR op_eq (pe_mt0 m_Row_now (pv 0) hr (by omega) pc) pe_str (nomark _))))) (pss_one (ps_if (pt_val (pe_mt m_Row_took (pv 0) hr (by omega) pc (pa_cons pe_str pa_nil))) (pss_one (ps_set (i := 1) sc_Row_read_term.nd rfl (loc_of rfl) (pe_mkS k_Sum hr (by omega) pc (pa_cons (pv 1) (pa_cons (pe_mt0 m_Row_read_product (pv 0) hr (by omega) pc) pa_nil))))) (pss_cons (ps_expr (pe_mt m_Row_must (pv 0) hr (by omega) pc (pa_cons pe_str pa_nil)))
      (pss_one (ps_set (i := 1) sc_Row_read_term.nd rfl (loc_of rfl) (pe_mkS k_Less hr (by omega) pc (pa_cons (pv 1) (pa_cons (pe_mt0 m_Row_read_product (pv 0) hr (by omega) pc) pa_nil)))))))))
      (pss_one (ps_ret (pv 1))))), ?_⟩
    refine w_start [some (.ref r), none] rfl ?_
    try dsimp only [cxOf]
    obtain ⟨ok, dx, er, el⟩ := id R
    have hf : Rd.Mono (rProd ms (inner ms k)) := prod_mono k
    have hres : (rTermW ms (inner ms k)) p = ((rProd ms (inner ms k)) p).bind fun q => lpF ms 0 (rProd ms (inner ms k)) q.1 q.2 := rfl
    dsimp only at h
    rw [hres] at h
    walk_at "wp"
    refine ⟨r, ml, ms, p, n, rfl, R, ?_⟩
    dsimp only
    cases e1 : (rProd ms (inner ms k)) p with
    | none =>
      rw [e1] at h
      exact h
    | some z =>
      rw [e1] at h
      obtain ⟨t0, p0⟩ := z
      simp only [Option.bind_some] at h
      refine fun a0 H1 t1 R1 k1 => ?_
      walk_at "wp"
      refine w_while (fun m σ H' => ∃ a t p', σ = [some (.ref r), some (.ref a)] ∧ TermAt K H' a t ∧ RowAt K H' r ml ms p' n b ∧ Fw.Keep r H H' ∧ lpF ms 0 (rProd ms (inner ms k)) t p' = lpF ms 0 (rProd ms (inner ms k)) t0 p0 ∧ m = ms.length - p') (ms.length - p0) ⟨a0, t0, p0, rfl, t1, R1, k1, rfl, rfl⟩ fun m σ H2 hw => ?_
      obtain ⟨a, t, p', rfl, t2, R2, k2, hE, rfl⟩ := hw
      obtain ⟨_, dx2, er2, el2⟩ := id R2
      rw [← hE] at h
      walk_at "wp"
      refine ⟨r, ml, ms, p', n, b, rfl, R2, ?_⟩
      walk_at "wp"
      refine w_dec (fun h1 => ?_) (fun h1 => ?_)
      · have hlt : p' < ms.length := now_lt (by rw [h1]; decide)
        have hs := lpF_one (ms := ms) (i := 0) (by decide) hf (t := t) h1
        rw [hs] at h
        walk_at "wp"
        refine w_turn ?_
        walk_at "wp"
        refine ⟨r, ml, ms, p', n, b, _, rfl, R2, fun _ H3 R3 k3 => ?_, fun h2 => absurd h1 h2⟩
        obtain ⟨_, dx3, er3, el3⟩ := id R3
        walk_at "wp"
        refine ⟨r, ml, ms, p' + 1, n, rfl, R3, ?_⟩
        dsimp only
        cases e4 : (rProd ms (inner ms k)) (p' + 1) with
        | none =>
          rw [e4] at h
          exact h.on (k2.trans k3) R3
        | some z =>
          obtain ⟨t4, p4⟩ := z
          refine fun a4 H4 t4' R4 k4 => ?_
          walk_at "wp"
          refine ⟨rfl, fun y dy H5 ny e5 s5 => ?_⟩
          have hm := hf _ _ _ e4
          refine ⟨ms.length - p4, by omega, y, .bin 0 t t4, p4, rfl, ⟨by decide, dy, a, a4, e5, ((t2.keep (R2.kn k3)).keep (R3.kn k4)).keep s5.keepN, t4'.keep s5.keepN⟩, R4.same s5, ((k2.trans k3).trans k4).same s5, ?_, rfl⟩
          rw [← hE, hs, e4]
          rfl
      · walk_at "wp"
        refine ⟨r, ml, ms, p', n, b, rfl, R2, ?_⟩
        walk_at "wp"
        refine w_dec (fun h2 => ?_) (fun h2 => ?_)
        · have hlt : p' < ms.length := now_lt (by rw [h2]; decide)
          have hs := lpF_two (ms := ms) (i := 0) (by decide) hf (t := t) h1 h2
          rw [hs] at h
          walk_at "wp"
          refine w_turn ?_
          walk_at "wp"
          refine ⟨r, ml, ms, p', n, b, _, rfl, R2, fun h3 _ _ _ => absurd h3 h1, fun _ => ?_⟩
          walk_at "wp"
          refine ⟨r, ml, ms, p', n, b, _, rfl, R2, ?_⟩
          have em : must ms "-" p' = some (p' + 1) := if_pos h2
          rw [em]
          refine fun H3 R3 k3 => ?_
          obtain ⟨_, dx3, er3, el3⟩ := id R3
          walk_at "wp"
          refine ⟨r, ml, ms, p' + 1, n, rfl, R3, ?_⟩
          dsimp only
          cases e4 : (rProd ms (inner ms k)) (p' + 1) with
          | none =>
            rw [e4] at h
            exact h.on (k2.trans k3) R3
          | some z =>
            obtain ⟨t4, p4⟩ := z
            refine fun a4 H4 t4' R4 k4 => ?_
            walk_at "wp"
            refine ⟨rfl, fun y dy H5 ny e5 s5 => ?_⟩
            have hm := hf _ _ _ e4
            refine ⟨ms.length - p4, by omega, y, .bin 1 t t4, p4, rfl, ⟨by decide, dy, a, a4, e5, ((t2.keep (R2.kn k3)).keep (R3.kn k4)).keep s5.keepN, t4'.keep s5.keepN⟩, R4.same s5, ((k2.trans k3).trans k4).same s5, ?_, rfl⟩
            rw [← hE, hs, e4]
            rfl
        · rw [lpF_end h1 h2] at h
          walk_at "wp"
          exact h a H2 t2 R2 k2
/-- no promise at all -/
theorem m_none {m q : Str} {st : Stmt} {N ps : List Str} (F : MDef K "Row" m q st) (me : Meth K (He.ga K "Row") m (He.ma K (He.ga K "Row") m)) (S : FnScope N ps (defScope st)) (b : BindsOk m q ps st) : Met P w K mg base 6 "Row" m (fun _ _ _ _ => False) :=
  met_of F (CF.cl _ (by decide +kernel)) me S b (fun _ _ _ _ h => h.elim) (fun _ _ _ _ _ _ _ _ _ h => h.elim)
theorem read_term_at (FU : MDef K "Row" "read_unit" "Row.read_unit" s_Row_read_unit) (FP : MDef K "Row" "read_product" "Row.read_product" s_Row_read_product) (FT : MDef K "Row" "read_term" "Row.read_term" s_Row_read_term) (m_Row_now : Met P w K mg base 1 "Row" "now" (spNow K)) (m_Row_bad : Met P w K mg base 3 "Row" "bad" (spBad K)) (m_Row_took : Met P w K mg base 2 "Row" "took" (spTook K)) (m_Row_must : Met P w K mg base 4 "Row" "must" (spMust K))
    (m_Row_read_whole : Met P w K mg base 4 "Row" "read_whole" (spWh K)) (c_is_number : Cal P w K mg base 1 "is_number" ["mark"] spIsNumber) (k_Number : Mak P w K mg base 1 "Number" (spIni (He.ga K "Number") [] ["value"])) (m_Row_read_known : Met P w K mg base 6 "Row" "read_known" (spKnown K))
    (k_Sum : Mak P w K mg base 2 "Sum" (spIni (He.ga K "Sum") [("sign", .str (S4 0))] ["one", "two"])) (k_Less : Mak P w K mg base 2 "Less" (spIni (He.ga K "Less") [("sign", .str (S4 1))] ["one", "two"]))
    (k_Times : Mak P w K mg base 2 "Times" (spIni (He.ga K "Times") [("sign", .str (S4 2))] ["one", "two"])) (k_Over : Mak P w K mg base 2 "Over" (spIni (He.ga K "Over") [("sign", .str (S4 3))] ["one", "two"])) :
    ∀ k b : Nat, b + k = 9 → Met P w K mg base (9 + 3 * k) "Row" "read_term" (spRd K b fun ms => rTerm ms k)
  | 0, b, hb => by
    have m0 : Met P w K mg base 6 "Row" "read_term" (spIn K (b + 1) 0) := m_none T CS CF MF FT (MF.m _ _ (by decide +kernel)) sc_Row_read_term b_Row_read_term
    have mu := m_unit T CS CF MF (L := 6) (Nat.le_refl _) hb FU m_Row_now m_Row_bad m_Row_took m_Row_must m_Row_read_whole c_is_number k_Number m_Row_read_known m0
    have mp := m_prod T CS CF MF (L := 6) (Nat.le_refl _) hb FP m_Row_now m_Row_took m_Row_must k_Times k_Over mu
    exact m_term T CS CF MF (L := 6) (Nat.le_refl _) hb FT m_Row_now m_Row_took m_Row_must k_Sum k_Less mp
  | k + 1, b, hb => by
    have m0 := read_term_at FU FP FT m_Row_now m_Row_bad m_Row_took m_Row_must m_Row_read_whole c_is_number k_Number m_Row_read_known k_Sum k_Less k_Times k_Over k (b + 1) (by omega)
    have mu := m_unit T CS CF MF (L := 9 + 3 * k) (k := k + 1) (b := b) (by omega) hb FU m_Row_now m_Row_bad m_Row_took m_Row_must m_Row_read_whole c_is_number k_Number m_Row_read_known m0
    have mp := m_prod T CS CF MF (L := 9 + 3 * k) (k := k + 1) (b := b) (by omega) hb FP m_Row_now m_Row_took m_Row_must k_Times k_Over mu
    exact m_term T CS CF MF (L := 9 + 3 * k) (k := k + 1) (b := b) (by omega) hb FT m_Row_now m_Row_took m_Row_must k_Sum k_Less mp
end
-- CHAIN have m_Row_read_term : Met P w K mg base 36 "Row" "read_term" (spRd K 0 fun ms => rTerm ms 9) := read_term_at T CS CF MF F_Row_read_unit F_Row_read_product F_Row_read_term m_Row_now m_Row_bad m_Row_took m_Row_must m_Row_read_whole c_is_number k_Number m_Row_read_known k_Sum k_Less k_Times k_Over 9 0 rfl
end
end Lw

namespace Lw
open PySem PySem.Spec PyProof.Rows L2 Fw Htx Ob Tx Rd Lk
local macro_rules | `(tactic| walk_at "cond") => `(tactic| first | assumption | (with_reducible exact cdiv_small (by omega) (by omega)) | (with_reducible exact cmul_small (by omega) (by omega)) | (with_reducible exact cpow_mk (by omega) (by omega) (by omega)) | omega)
local macro_rules | `(tactic| walk_at "ne") => `(tactic| first | assumption | exact Ne.symm (by assumption) | exact ne_of_none (by assumption) (by assumption) | exact Ne.symm (ne_of_none (by assumption) (by assumption)))
local macro_rules | `(tactic| walk_at "at") => `(tactic| first
  | assumption
  | (with_reducible exact upd_same)
  | ((with_reducible refine' at_same ?hk ?hh); (case hk => assumption); (case hh => walk_at "at"))
  | ((with_reducible refine' at_keepT ?hk ?hh ?hd); (case hk => assumption); (case hh => walk_at "at"); (case hd => walk_at "at"))
  | ((with_reducible refine' at_keep ?hk ?hh ?hn); (case hk => assumption); (case hh => walk_at "at"); (case hn => walk_at "ne")))
local macro_rules | `(tactic| walk_at "hp") => `(tactic| first
  | assumption
  | (with_reducible exact FrL.sql (by assumption))
  | ((with_reducible refine' SqT.of ?hq); (case hq => walk_at "at")) | ((with_reducible refine' SqL.of ?hq); (case hq => walk_at "at"))
  | ((with_reducible refine' sql_same ?hk ?hh); (case hk => assumption); (case hh => walk_at "hp"))
  | ((with_reducible refine' sql_keep ?hk ?hh ?hn); (case hk => assumption); (case hh => walk_at "hp"); (case hn => walk_at "ne"))
  | ((with_reducible refine' sqt_same ?hk ?hh); (case hk => assumption); (case hh => walk_at "hp")))
local macro_rules | `(tactic| walk_at "wp1") => `(tactic| first
  | with_reducible refine w_mt ?_ | ((with_reducible refine' w_mt1 ?ha ?hl ?_); (case ha => walk_at "at"); (case hl => rfl))
  | with_reducible refine w_fld ?_ | ((with_reducible refine' w_fld1 ?ha (ClsF.cl (cs := clsL) (as := attL) (by assumption) _ ?hc) (ClsF.no (cs := clsL) (as := attL) (by assumption) _ _ ?hn) ?hl ?_); (case ha => walk_at "at"); (case hc => decide +kernel); (case hn => decide +kernel); (case hl => rfl))
  | with_reducible refine w_sfld ?_ | ((with_reducible refine' w_sfld1 ?ha (ClsF.cl (cs := clsL) (as := attL) (by assumption) _ ?hc) (ClsF.no (cs := clsL) (as := attL) (by assumption) _ _ ?hn) ?he ?hl ?_); (case ha => walk_at "at"); (case hc => decide +kernel); (case hn => decide +kernel); (case he => rfl); (case hl => rfl))
  | with_reducible refine w_lk ?_ | ((with_reducible refine' lkL ?ha ?_); (case ha => walk_at "at")) | with_reducible refine w_mkS ?_ | with_reducible refine w_mk ?_ | with_reducible refine w_bas ?_ | with_reducible refine w_m1 ?_ | with_reducible refine w_isS ?_ | with_reducible refine w_bm0 ?_ | with_reducible refine w_iS ?_ | with_reducible refine w_chain ?_
  | with_reducible refine w_inSg ?_ | with_reducible refine w_ninSg ?_
  | with_reducible refine w_rz ?_ | with_reducible refine w_calX ?_ | with_reducible refine w_calS ?_ | with_reducible refine w_row ?_
  | with_reducible refine w_seq ?_ | with_reducible refine w_set ?_ | with_reducible refine w_drop ?_ | with_reducible refine w_ret ?_ | with_reducible refine w_ifS ?_ | with_reducible refine w_next ?_
  | ((with_reducible refine' w_var ?hv ?_); (case hv => rfl)) | with_reducible refine w_c ?_
  | with_reducible refine w_op ?_ | with_reducible refine w_un ?_ | with_reducible refine w_cb ?_ | with_reducible refine w_cal ?_ | with_reducible refine w_cons ?_ | with_reducible refine w_nil ?_
  | with_reducible refine w_plus ?_ | with_reducible refine w_minus ?_ | with_reducible refine w_lt ?_ | with_reducible refine w_le ?_ | with_reducible refine w_gt ?_ | with_reducible refine w_ge ?_
  | with_reducible refine w_eqI ?_ | with_reducible refine w_neI ?_ | with_reducible refine w_eqB ?_ | with_reducible refine w_neB ?_ | with_reducible refine w_eqS ?_ | with_reducible refine w_neS ?_
  | with_reducible refine w_neg ?_ | with_reducible refine w_abs ?_ | with_reducible refine w_intB ?_ | with_reducible refine w_test ?_ | with_reducible refine w_tB ?_ | with_reducible refine w_bl ?_
  | with_reducible refine w_and ?_ | with_reducible refine w_or ?_ | with_reducible refine w_not ?_ | with_reducible refine w_andV ?_ | with_reducible refine w_orV ?_ | with_reducible refine w_notV ?_ | with_reducible refine w_ifE ?_
  | with_reducible refine w_nyes ?_ | with_reducible refine w_nno ?_ | with_reducible refine w_yes ?_ | with_reducible refine w_no ?_
  | ((with_reducible refine' w_ixL ?ha ?hb ?_); (case ha => walk_at "hp"); (case hb => rfl)) | ((with_reducible refine' w_ixT ?ha ?hb ?_); (case ha => walk_at "hp"); (case hb => rfl))
  | ((with_reducible refine' w_lenL ?ha ?_); (case ha => walk_at "hp")) | ((with_reducible refine' w_lenT ?ha ?_); (case ha => walk_at "hp"))
  | with_reducible refine w_min2 ?_ | with_reducible refine w_max2 ?_ | with_reducible refine w_bm ?_ | with_reducible refine w_lc ?_ | ((with_reducible refine' w_tyL ?ha ?_); (case ha => walk_at "at"))
  | with_reducible refine isi_ii ?_ | with_reducible refine isi_ib ?_ | with_reducible refine isi_bb ?_ | with_reducible refine isi_ss ?_
  | ((with_reducible refine' isi_tt ?ha ?_); (case ha => walk_at "at")) | ((with_reducible refine' isi_ll ?ha ?_); (case ha => walk_at "at"))
  | with_reducible refine w_par ?_ | with_reducible refine w_par2 ?_ | with_reducible refine w_for ?_ | with_reducible refine w_iL ?_ | with_reducible refine w_iT ?_ | with_reducible refine w_iR1 ?_ | with_reducible refine w_iR2 ?_
  | with_reducible refine w_tup ?_ | with_reducible refine w_lst ?_
  | with_reducible refine w_asg ?_ | with_reducible refine w_gname ?_ | with_reducible refine w_gcons ?_ | with_reducible refine w_gnil ?_ | with_reducible refine w_gsub ?_
  | ((with_reducible refine' w_gtup ?ha ?hb ?_); (case ha => walk_at "hp"); (case hb => rfl))
  | ((with_reducible refine' w_fdiv ?hc ?_); (case hc => walk_at "cond")) | ((with_reducible refine' w_mul ?hc ?_); (case hc => walk_at "cond"))
  | ((with_reducible refine' w_mod ?hc ?_); (case hc => walk_at "cond")) | ((with_reducible refine' w_pow ?hc ?_); (case hc => walk_at "cond")))
local macro_rules | `(tactic| walk_at "wp") => `(tactic| repeat walk_at "wp1")
section
variable {P : Program} {w : World} {K : PySem.W.Frag} {mg : Str → Option Value} {base : Heap}
/-- a tuple of two whole numbers of at most n bits, the second above nought -/
def FrAt (n : Nat) (H : Hp) (p : Addr) (t b : Int) : Prop := H p = some (.tup [.int t, .int b]) ∧ t.natAbs < 2 ^ n ∧ 0 < b ∧ b.natAbs < 2 ^ n
def wrt (t b : Int) : Str := if b = 1 then toString t else (toString t : Str) ++ "/" ++ (toString b : Str)
def spWritten : Sp := fun vs H Q _ => ∃ p t b, vs = [.ref p] ∧ FrAt 300 H p t b ∧ Q (.str (wrt t b)) H
theorem c_written (F : Def K mg "written" s_written) (T : Fre mg) : Cal P w K mg base 1 "written" ["one"] spWritten := by
  refine cal_of F sc_written b_written (fun vs H Q E h => ?_) (fun cdv A outer s H vs Q E hr h => ?_)
  · obtain ⟨p, t, b, rfl, _⟩ := h
    rfl
  · obtain ⟨p, t, b, rfl, ⟨e1, h1, h2, h3⟩, k⟩ := h
    refine ⟨_, (pss_cons (ps_if (pt_cmpR op_eq (pe_ix (ixT (K := K) rfl) (pv 0) pe_int (fun _ _ => rfl)) pe_int (nomark _)) (pss_one (ps_ret (pe_callTy c_strI (by rfl) T.f_str (by decide +kernel) (pa_cons (pe_ix (ixT (K := K) rfl) (pv 0) pe_int (fun _ _ => rfl)) pa_nil)))) pss_nil)
      (pss_one (ps_ret (pe_op o_catS (pe_op o_catS (pe_callTy c_strI (by rfl) T.f_str (by decide +kernel) (pa_cons (pe_ix (ixT (K := K) rfl) (pv 0) pe_int (fun _ _ => rfl)) pa_nil)) pe_str) (pe_callTy c_strI (by rfl) T.f_str (by decide +kernel) (pa_cons (pe_ix (ixT (K := K) rfl) (pv 0) pe_int (fun _ _ => rfl)) pa_nil)))))), ?_⟩
    refine w_start [some (.ref p)] rfl ?_
    try dsimp only [cxOf]
    walk_at "wp"
    unfold wrt at k
    refine w_dec (fun hb => ?_) (fun hb => ?_)
    · rw [if_pos hb] at k
      walk_at "wp"
      exact w_strI (lg h1 (by decide) (by decide)) k
    · rw [if_neg hb] at k
      walk_at "wp"
      refine w_strI (lg h1 (by decide) (by decide)) ?_
      walk_at "wp"
      have l1 := int_text_len_1921 (i := t) (lg h1 (by decide) (by decide))
      have l2 := int_text_len_1921 (i := b) (lg h3 (by decide) (by decide))
      have l3 : (Str.ofString "/").length = 1 := by decide +kernel
      have sl : sizeLine = 16777216 := sizeLine_eq
      refine w_catS (by rw [l3, sl]; omega) ?_
      walk_at "wp"
      refine w_strI (lg h3 (by decide) (by decide)) ?_
      refine w_catS (by rw [Str.length_append, l3, sl]; omega) ?_
      exact k
/-! ### told: terms in the heap -/
theorem TermAt.obj {H : Hp} : ∀ {t : T} {a : Addr}, TermAt K H a t → ∃ dx fs, H a = some (.ins (He.ga K (cls6 t)) dx fs) ∧ fs.lookup ("rank" : Str) = none ∧ fs.lookup ("told" : Str) = none ∧ fs.lookup ("bound" : Str) = none
  | .num n, a, h => by
    obtain ⟨dx, p, h1, _⟩ := h
    exact ⟨dx, _, h1, rfl, rfl, rfl⟩
  | .kn x none, a, h => by
    obtain ⟨dx, h1⟩ := h
    exact ⟨dx, _, h1, rfl, rfl, rfl⟩
  | .kn x (some q), a, h => by
    obtain ⟨dx, p, h1, _⟩ := h
    exact ⟨dx, _, h1, rfl, rfl, rfl⟩
  | .bin i s t, a, h => by
    obtain ⟨_, dx, b, c, h1, _⟩ := h
    exact ⟨dx, _, h1, rfl, rfl, rfl⟩
def spRk (n : Nat) : Sp := fun vs H Q _ => ∃ a : Addr, vs = [.ref a] ∧ Q (.int n) H
/-- a term of this many leaves and this depth at most -/
def TmD (K : PySem.W.Frag) (H : Hp) (a : Addr) (t : T) (d : Nat) : Prop := TermAt K H a t ∧ TOk t ∧ t.leaves ≤ 5000 ∧ t.depth ≤ d
def spTold (K : PySem.W.Frag) (c : Str) (d : Nat) : Sp := fun vs H Q _ => ∃ a t, vs = [.ref a] ∧ cls6 t = c ∧ TmD K H a t d ∧ Q (.str t.told) H
def spBound (K : PySem.W.Frag) (d : Nat) : Sp := fun vs H Q _ => ∃ a t, ∃ firm : Nat, vs = [.ref a, .int firm] ∧ TmD K H a t d ∧ Q (.str (t.bnd firm)) H
def spPl : Sp := fun vs H Q _ => ∃ p, ∃ q : Str × Int, vs = [.ref p] ∧ H p = some (.tup [.str q.1, .int q.2]) ∧ q.1.length ≤ 100 ∧ q.2.natAbs < 1000 ∧ Q (.str (T.plTold q)) H
section
variable (T_ : Fre mg) (CF : ClsF K clsL attL) (MF : MthF K)
include T_ CF MF
omit CF MF in
theorem c_place_told (F : Def K mg "place_told" s_place_told) : Cal P w K mg base 1 "place_told" ["place"] spPl := by
  refine cal_of F sc_place_told b_place_told (fun vs H Q E h => ?_) (fun cdv A outer s H vs Q E hr h => ?_)
  · obtain ⟨_, _, rfl, _⟩ := h
    rfl
  · obtain ⟨p, ⟨c, k⟩, rfl, hp, hc, hk, q⟩ := h
    have T := T_
    dsimp only at hp hc hk
    have l1 := small_len hk
    have l2 := small_len (i := 0 - k) (by omega)
    have sl : sizeLine = 16777216 := sizeLine_eq
    have e1 : (Str.ofString " - ").length = 3 := by decide +kernel
    have e2 : (Str.ofString " + ").length = 3 := by decide +kernel
    unfold Rd.T.plTold at q
    dsimp only at q
    refine ⟨_, (pss_cons (ps_if (pt_cmpR op_eq (pe_ix (ixT (K := K) rfl) (pv 0) pe_int (fun _ _ => rfl)) pe_str (nomark _)) (pss_one (ps_ret (pe_callTy c_strI (by rfl) T.f_str (by decide +kernel) (pa_cons (pe_ix (ixT (K := K) rfl) (pv 0) pe_int (fun _ _ => rfl)) pa_nil)))) pss_nil)
      (pss_cons (ps_if (pt_cmpR op_eq (pe_ix (ixT (K := K) rfl) (pv 0) pe_int (fun _ _ => rfl)) pe_int (nomark _)) (pss_one (ps_ret (pe_ix (ixT (K := K) rfl) (pv 0) pe_int (fun _ _ => rfl)))) pss_nil)
      (pss_cons (ps_if (pt_cmpR o_lt (pe_ix (ixT (K := K) rfl) (pv 0) pe_int (fun _ _ => rfl)) pe_int (nomark _)) (pss_one (ps_ret (pe_op o_catS (pe_op o_catS (pe_ix (ixT (K := K) rfl) (pv 0) pe_int (fun _ _ => rfl)) pe_str) (pe_callTy c_strI (by rfl) T.f_str (by decide +kernel) (pa_cons (pe_op o_sub pe_int (pe_ix (ixT (K := K) rfl) (pv 0) pe_int (fun _ _ => rfl))) pa_nil))))) pss_nil)
      (pss_one (ps_ret (pe_op o_catS (pe_op o_catS (pe_ix (ixT (K := K) rfl) (pv 0) pe_int (fun _ _ => rfl)) pe_str) (pe_callTy c_strI (by rfl) T.f_str (by decide +kernel) (pa_cons (pe_ix (ixT (K := K) rfl) (pv 0) pe_int (fun _ _ => rfl)) pa_nil)))))))), ?_⟩
    refine w_start [some (.ref p)] rfl ?_
    try dsimp only [cxOf]
    walk_at "wp"
    refine w_dec (fun h1 => ?_) (fun h1 => ?_)
    · rw [if_pos h1] at q
      walk_at "wp"
      exact w_strI (lg (n := 10) (by omega) (by decide) (by decide)) q
    rw [if_neg h1] at q
    walk_at "wp"
    refine w_dec (fun h2 => ?_) (fun h2 => ?_)
    · rw [if_pos h2] at q
      walk_at "wp"
      exact q
    rw [if_neg h2] at q
    walk_at "wp"
    refine w_dec (fun h3 => ?_) (fun h3 => ?_)
    · rw [if_pos h3] at q
      walk_at "wp"
      refine w_catS (by omega) ?_
      walk_at "wp"
      refine w_strI (lg (n := 10) (by omega) (by decide) (by decide)) ?_
      refine w_catS (by rw [Str.length_append]; omega) ?_
      exact q
    · rw [if_neg h3] at q
      walk_at "wp"
      refine w_catS (by omega) ?_
      walk_at "wp"
      refine w_strI (lg (n := 10) (by omega) (by decide) (by decide)) ?_
      refine w_catS (by rw [Str.length_append]; omega) ?_
      exact q
theorem m_Number_told (F : MDef K "Number" "told" "Number.told" s_Number_told) (c_written : Cal P w K mg base 1 "written" ["one"] spWritten) (d : Nat) : Met P w K mg base 2 "Number" "told" (spTold K "Number" d) := by
  refine met_of F (CF.cl _ (by decide +kernel)) (MF.m _ _ (by decide +kernel)) sc_Number_told b_Number_told (fun vs H Q E h => ?_) (fun cdv A outer s H vs Q E hr h => ?_)
  · obtain ⟨_, _, rfl, _⟩ := h
    rfl
  · obtain ⟨a, t, rfl, hc, ⟨ta, ok, _, _⟩, q⟩ := h
    have tk := L2N.takes_of (X := cxOf (L2N.CX P w) P w K mg base ["self"] "Number.told" (defScope s_Number_told) (He.ma K (He.ga K "Number") "told") cdv A outer s H E) (E := E) rfl rfl rfl rfl
    have pc := L2N.passes_call tk (fun _ _ _ _ h => h) (E := E)
    refine ⟨_, (pss_one (ps_ret (pe_cal c_written hr (by omega) pc (pa_cons (pe_fld (pv 0) rfl) pa_nil)))), ?_⟩
    refine w_start [some (.ref a)] rfl ?_
    try dsimp only [cxOf]
    match t, hc, ta, ok, q with
    | .num n, _, ta, ok, q =>
      obtain ⟨dx, p, ea, ep⟩ := ta
      have ok : n < 1000 := ok
      walk_at "wp"
      refine ⟨p, n, 1, rfl, ⟨ep, ?_, by decide, by decide⟩, ?_⟩
      · have : (n : Int).natAbs < 1000 := by omega
        exact Nat.lt_trans this (by decide)
      · exact q
    | .kn _ _, hc, _, _, _ => exact absurd (show ("Known" : Str) = "Number" from hc) (by decide)
    | .bin i _ _, hc, _, ok, _ => exact absurd (show C4 i = "Number" from hc) (C4_ne ok.1).1
theorem m_Known_told (F : MDef K "Known" "told" "Known.told" s_Known_told) (c_place_told : Cal P w K mg base 1 "place_told" ["place"] spPl) (d : Nat) : Met P w K mg base 2 "Known" "told" (spTold K "Known" d) := by
  refine met_of F (CF.cl _ (by decide +kernel)) (MF.m _ _ (by decide +kernel)) sc_Known_told b_Known_told (fun vs H Q E h => ?_) (fun cdv A outer s H vs Q E hr h => ?_)
  · obtain ⟨_, _, rfl, _⟩ := h
    rfl
  · obtain ⟨a, t, rfl, hc, ⟨ta, ok, _, _⟩, q⟩ := h
    have sl : sizeLine = 16777216 := sizeLine_eq
    have e1 : (Str.ofString "[").length = 1 := by decide +kernel
    have e2 : (Str.ofString "]").length = 1 := by decide +kernel
    have tk := L2N.takes_of (X := cxOf (L2N.CX P w) P w K mg base ["self"] "Known.told" (defScope s_Known_told) (He.ma K (He.ga K "Known") "told") cdv A outer s H E) (E := E) rfl rfl rfl rfl
    have pc := L2N.passes_call tk (fun _ _ _ _ h => h) (E := E)
    refine ⟨_, (pss_cons (ps_if (pt_cmpR op_isN (pe_fld (pv 0) rfl) pe_non (nomark _)) (pss_one (ps_ret (pe_fld (pv 0) rfl))) pss_nil)
      (pss_one (ps_ret (pe_op o_catS (pe_op o_catS (pe_op o_catS (pe_fld (pv 0) rfl) pe_str) (pe_cal c_place_told hr (by omega) pc (pa_cons (pe_fld (pv 0) rfl) pa_nil))) pe_str)))), ?_⟩
    refine w_start [some (.ref a)] rfl ?_
    try dsimp only [cxOf]
    match t, hc, ta, ok, q with
    | .num _, hc, _, _, _ => exact absurd (show ("Number" : Str) = "Known" from hc) (by decide)
    | .bin i _ _, hc, _, ok, _ => exact absurd (show C4 i = "Known" from hc) (C4_ne ok.1).2
    | .kn x none, _, ta, ok, q =>
      obtain ⟨dx, ea⟩ := ta
      walk_at "wp"
      refine ⟨rfl, ?_⟩
      walk_at "wp"
      rw [decide_eq_true rfl]
      walk_at "wp"
      exact q
    | .kn x (some pl), _, ta, ok, q =>
      obtain ⟨dx, p, ea, ep⟩ := ta
      obtain ⟨o1, o2, o3⟩ := ok
      have lp := plTold_len o2 o3
      walk_at "wp"
      refine ⟨rfl, ?_⟩
      walk_at "wp"
      refine w_decO (fun z => by cases z) ?_
      walk_at "wp"
      refine w_catS (by omega) ?_
      walk_at "wp"
      refine ⟨p, pl, rfl, ep, o2, o3, ?_⟩
      refine w_catS (by rw [Str.length_append]; omega) ?_
      walk_at "wp"
      refine w_catS (by rw [Str.length_append, Str.length_append]; omega) ?_
      exact q
/-! ranks -/
theorem m_Term_rank (F : MDef K "Term" "rank" "Term.rank" s_Term_rank) : Met P w K mg base 1 "Term" "rank" (spRk 3) := by
  refine met_of F (CF.cl _ (by decide +kernel)) (MF.m _ _ (by decide +kernel)) sc_Term_rank b_Term_rank (fun vs H Q E h => ?_) (fun cdv A outer s H vs Q E hr h => ?_)
  · obtain ⟨_, rfl, _⟩ := h
    rfl
  · obtain ⟨a, rfl, q⟩ := h
    refine ⟨_, (pss_one (ps_ret pe_int)), ?_⟩
    refine w_start [some (.ref a)] rfl ?_
    try dsimp only [cxOf]
    walk_at "wp"
    exact q
theorem m_Sum_rank (F : MDef K "Sum" "rank" "Sum.rank" s_Sum_rank) : Met P w K mg base 1 "Sum" "rank" (spRk 1) := by
  refine met_of F (CF.cl _ (by decide +kernel)) (MF.m _ _ (by decide +kernel)) sc_Sum_rank b_Sum_rank (fun vs H Q E h => ?_) (fun cdv A outer s H vs Q E hr h => ?_)
  · obtain ⟨_, rfl, _⟩ := h
    rfl
  · obtain ⟨a, rfl, q⟩ := h
    refine ⟨_, (pss_one (ps_ret pe_int)), ?_⟩
    refine w_start [some (.ref a)] rfl ?_
    try dsimp only [cxOf]
    walk_at "wp"
    exact q
theorem m_Less_rank (F : MDef K "Less" "rank" "Less.rank" s_Less_rank) : Met P w K mg base 1 "Less" "rank" (spRk 1) := by
  refine met_of F (CF.cl _ (by decide +kernel)) (MF.m _ _ (by decide +kernel)) sc_Less_rank b_Less_rank (fun vs H Q E h => ?_) (fun cdv A outer s H vs Q E hr h => ?_)
  · obtain ⟨_, rfl, _⟩ := h
    rfl
  · obtain ⟨a, rfl, q⟩ := h
    refine ⟨_, (pss_one (ps_ret pe_int)), ?_⟩
    refine w_start [some (.ref a)] rfl ?_
    try dsimp only [cxOf]
    walk_at "wp"
    exact q
theorem m_Times_rank (F : MDef K "Times" "rank" "Times.rank" s_Times_rank) : Met P w K mg base 1 "Times" "rank" (spRk 2) := by
  refine met_of F (CF.cl _ (by decide +kernel)) (MF.m _ _ (by decide +kernel)) sc_Times_rank b_Times_rank (fun vs H Q E h => ?_) (fun cdv A outer s H vs Q E hr h => ?_)
  · obtain ⟨_, rfl, _⟩ := h
    rfl
  · obtain ⟨a, rfl, q⟩ := h
    refine ⟨_, (pss_one (ps_ret pe_int)), ?_⟩
    refine w_start [some (.ref a)] rfl ?_
    try dsimp only [cxOf]
    walk_at "wp"
    exact q
theorem m_Over_rank (F : MDef K "Over" "rank" "Over.rank" s_Over_rank) : Met P w K mg base 1 "Over" "rank" (spRk 2) := by
  refine met_of F (CF.cl _ (by decide +kernel)) (MF.m _ _ (by decide +kernel)) sc_Over_rank b_Over_rank (fun vs H Q E h => ?_) (fun cdv A outer s H vs Q E hr h => ?_)
  · obtain ⟨_, rfl, _⟩ := h
    rfl
  · obtain ⟨a, rfl, q⟩ := h
    refine ⟨_, (pss_one (ps_ret pe_int)), ?_⟩
    refine w_start [some (.ref a)] rfl ?_
    try dsimp only [cxOf]
    walk_at "wp"
    exact q
theorem m_Term_bound {L d : Nat} (F : MDef K "Term" "bound" "Term.bound" s_Term_bound) (hL : 1 ≤ L) (rks : ∀ t, TOk t → Met P w K mg base 1 (cls6 t) "rank" (spRk t.rank)) (tds : ∀ t, TOk t → Met P w K mg base L (cls6 t) "told" (spTold K (cls6 t) d)) :
    Met P w K mg base (L + 1) "Term" "bound" (spBound K d) := by
  refine met_of F (CF.cl _ (by decide +kernel)) (MF.m _ _ (by decide +kernel)) sc_Term_bound b_Term_bound (fun vs H Q E h => ?_) (fun cdv A outer s H vs Q E hr h => ?_)
  · obtain ⟨_, _, _, rfl, _⟩ := h
    rfl
  · obtain ⟨a, t, firm, rfl, TD, q⟩ := h
    obtain ⟨ta, ok, lv, _⟩ := id TD
    obtain ⟨dx, fs, ea, n1, n2, n3⟩ := ta.obj
    have tl := told_len ok
    have sl : sizeLine = 16777216 := sizeLine_eq
    have e1 : (Str.ofString "(").length = 1 := by decide +kernel
    have e2 : (Str.ofString ")").length = 1 := by decide +kernel
    have tk := L2N.takes_of (X := cxOf (L2N.CX P w) P w K mg base ["self", "firm"] "Term.bound" (defScope s_Term_bound) (He.ma K (He.ga K "Term") "bound") cdv A outer s H E) (E := E) rfl rfl rfl rfl
    have pc := L2N.passes_call tk (fun _ _ _ _ h => h) (E := E)
    refine ⟨_, (pss_cons (ps_if (pt_cmpR o_lt (pe_mtV0 (j := L) (pv 0) hr (by omega) pc) (pv 1) (nomark _)) (pss_one (ps_ret (pe_op o_catS (pe_op o_catS pe_str (pe_mtV0 (j := L) (pv 0) hr (by omega) pc)) pe_str))) pss_nil)
      (pss_one (ps_ret (pe_mtV0 (j := L) (pv 0) hr (by omega) pc)))), ?_⟩
    refine w_start [some (.ref a), some (.int firm)] rfl ?_
    try dsimp only [cxOf]
    unfold T.bnd T.brk at q
    walk_at "wp"
    refine w_mtV ?_
    walk_at "wp"
    refine ⟨a, _, dx, fs, _, rfl, ea, n1, (rks t ok).mono hL, ?_⟩
    walk_at "wp"
    refine ⟨a, rfl, ?_⟩
    walk_at "wp"
    refine w_dec (fun h1 => ?_) (fun h1 => ?_)
    · rw [if_pos (decide_eq_true (by omega))] at q
      walk_at "wp"
      refine w_mtV ?_
      walk_at "wp"
      refine ⟨a, _, dx, fs, _, rfl, ea, n2, tds t ok, ?_⟩
      walk_at "wp"
      refine ⟨a, t, rfl, rfl, TD, ?_⟩
      refine w_catS (by omega) ?_
      walk_at "wp"
      refine w_catS (by rw [Str.length_append]; omega) ?_
      exact q
    · rw [if_neg (by simpa using h1)] at q
      walk_at "wp"
      refine w_mtV ?_
      walk_at "wp"
      refine ⟨a, _, dx, fs, _, rfl, ea, n2, tds t ok, ?_⟩
      walk_at "wp"
      exact ⟨a, t, rfl, rfl, TD, q⟩
def spToldB (K : PySem.W.Frag) (d : Nat) : Sp := fun vs H Q _ => ∃ a i s t, vs = [.ref a] ∧ TmD K H a (.bin i s t) (d + 1) ∧ Q (.str (T.told (.bin i s t))) H
theorem m_Pairwise_told {L d : Nat} (F : MDef K "Pairwise" "told" "Pairwise.told" s_Pairwise_told) (hL : 1 ≤ L) (rks : ∀ t, TOk t → Met P w K mg base 1 (cls6 t) "rank" (spRk t.rank)) (bds : ∀ t, TOk t → Met P w K mg base L (cls6 t) "bound" (spBound K d)) :
    Met P w K mg base (L + 1) "Pairwise" "told" (spToldB K d) := by
  refine met_of F (CF.cl _ (by decide +kernel)) (MF.m _ _ (by decide +kernel)) sc_Pairwise_told b_Pairwise_told (fun vs H Q E h => ?_) (fun cdv A outer s H vs Q E hr h => ?_)
  · obtain ⟨_, _, _, _, rfl, _⟩ := h
    rfl
  · obtain ⟨a, i, s1, s2, rfl, TD, q⟩ := h
    obtain ⟨ta, ok, lv, dp⟩ := id TD
    obtain ⟨hi, dx, b, c, ea, tb, tc⟩ := id ta
    obtain ⟨_, ok1, ok2⟩ := id ok
    have lv' : s1.leaves + s2.leaves ≤ 5000 := lv
    have dp' : max s1.depth s2.depth + 1 ≤ d + 1 := dp
    obtain ⟨dx1, fs1, eb, _, _, n3⟩ := tb.obj
    obtain ⟨dx2, fs2, ec, _, _, m3⟩ := tc.obj
    have tl1 := told_len ok1
    have tl2 := told_len ok2
    have b1 := brk_len (decide (s1.rank < rk i)) s1.told
    have b2 := brk_len (decide (s2.rank < rk i + 1)) s2.told
    have sl : sizeLine = 16777216 := sizeLine_eq
    have e1 : (Str.ofString " ").length = 1 := by decide +kernel
    have e2 := S4_len hi
    have hcl : C4 i ∈ clsL ∧ ((C4 i, ("sign" : Str)) ∈ attL ∧ (C4 i, ("one" : Str)) ∈ attL ∧ (C4 i, ("two" : Str)) ∈ attL) := by
      have h : i = 0 ∨ i = 1 ∨ i = 2 ∨ i = 3 := by omega
      rcases h with rfl | rfl | rfl | rfl <;> decide +kernel
    obtain ⟨hc0, hc1, hc2, hc3⟩ := hcl
    have tk := L2N.takes_of (X := cxOf (L2N.CX P w) P w K mg base ["self", "firm"] "Pairwise.told" (defScope s_Pairwise_told) (He.ma K (He.ga K "Pairwise") "told") cdv A outer s H E) (E := E) rfl rfl rfl rfl
    have pc := L2N.passes_call tk (fun _ _ _ _ h => h) (E := E)
    refine ⟨_, (pss_cons (ps_set (i := 1) sc_Pairwise_told.nd rfl (loc_of rfl) (pe_mtV0 (j := L) (pv 0) hr (by omega) pc))
      (pss_one (ps_ret (pe_op o_catS (pe_op o_catS (pe_op o_catS (pe_op o_catS (pe_mtV (j := L) (pe_fld (pv 0) rfl) hr (by omega) pc (pa_cons (pv 1) pa_nil)) pe_str) (pe_fld (pv 0) rfl)) pe_str) (pe_mtV (j := L) (pe_fld (pv 0) rfl) hr (by omega) pc (pa_cons (pe_op o_add (pv 1) pe_int) pa_nil)))))), ?_⟩
    refine w_start [some (.ref a), none] rfl ?_
    try dsimp only [cxOf]
    walk_at "wp"
    refine w_mtV ?_
    walk_at "wp"
    refine ⟨a, _, dx, _, _, rfl, ea, rfl, (rks _ ok).mono hL, ?_⟩
    walk_at "wp"
    refine ⟨a, rfl, ?_⟩
    walk_at "wp"
    refine w_mtV ?_
    walk_at "wp"
    refine w_fld1 ea (CF.cl _ hc0) (CF.no _ _ hc2) rfl ?_
    refine ⟨b, _, dx1, fs1, _, rfl, eb, n3, bds s1 ok1, ?_⟩
    walk_at "wp"
    refine ⟨b, s1, rk i, rfl, ⟨tb, ok1, by omega, by omega⟩, ?_⟩
    walk_at "wp"
    unfold T.bnd
    refine w_catS (by omega) ?_
    walk_at "wp"
    refine w_fld1 ea (CF.cl _ hc0) (CF.no _ _ hc1) rfl ?_
    refine w_catS (by rw [Str.length_append]; omega) ?_
    walk_at "wp"
    refine w_catS (by rw [Str.length_append, Str.length_append]; omega) ?_
    walk_at "wp"
    refine w_mtV ?_
    walk_at "wp"
    refine w_fld1 ea (CF.cl _ hc0) (CF.no _ _ hc3) rfl ?_
    refine ⟨c, _, dx2, fs2, _, rfl, ec, m3, bds s2 ok2, ?_⟩
    walk_at "wp"
    refine ⟨c, s2, rk i + 1, rfl, ⟨tc, ok2, by omega, by omega⟩, ?_⟩
    refine w_catS (by rw [Str.length_append, Str.length_append, Str.length_append]; unfold T.bnd; omega) ?_
    exact q
end
end
end Lw

namespace Lw
open PySem PySem.Spec PyProof.Rows L2 Fw Htx Ob Tx Rd Lk
local macro_rules | `(tactic| walk_at "cond") => `(tactic| first | assumption | (with_reducible exact cdiv_small (by omega) (by omega)) | (with_reducible exact cmul_small (by omega) (by omega)) | (with_reducible exact cpow_mk (by omega) (by omega) (by omega)) | omega)
local macro_rules | `(tactic| walk_at "ne") => `(tactic| first | assumption | exact Ne.symm (by assumption) | exact ne_of_none (by assumption) (by assumption) | exact Ne.symm (ne_of_none (by assumption) (by assumption)))
local macro_rules | `(tactic| walk_at "at") => `(tactic| first
  | assumption
  | (with_reducible exact upd_same)
  | ((with_reducible refine' at_same ?hk ?hh); (case hk => assumption); (case hh => walk_at "at"))
  | ((with_reducible refine' at_keepT ?hk ?hh ?hd); (case hk => assumption); (case hh => walk_at "at"); (case hd => walk_at "at"))
  | ((with_reducible refine' at_keep ?hk ?hh ?hn); (case hk => assumption); (case hh => walk_at "at"); (case hn => walk_at "ne")))
local macro_rules | `(tactic| walk_at "hp") => `(tactic| first
  | assumption
  | (with_reducible exact FrL.sql (by assumption))
  | ((with_reducible refine' SqT.of ?hq); (case hq => walk_at "at")) | ((with_reducible refine' SqL.of ?hq); (case hq => walk_at "at"))
  | ((with_reducible refine' sql_same ?hk ?hh); (case hk => assumption); (case hh => walk_at "hp"))
  | ((with_reducible refine' sql_keep ?hk ?hh ?hn); (case hk => assumption); (case hh => walk_at "hp"); (case hn => walk_at "ne"))
  | ((with_reducible refine' sqt_same ?hk ?hh); (case hk => assumption); (case hh => walk_at "hp")))
local macro_rules | `(tactic| walk_at "wp1") => `(tactic| first
  | with_reducible refine w_mt ?_ | ((with_reducible refine' w_mt1 ?ha ?hl ?_); (case ha => walk_at "at"); (case hl => rfl))
  | with_reducible refine w_fld ?_ | ((with_reducible refine' w_fld1 ?ha (ClsF.cl (cs := clsL) (as := attL) (by assumption) _ ?hc) (ClsF.no (cs := clsL) (as := attL) (by assumption) _ _ ?hn) ?hl ?_); (case ha => walk_at "at"); (case hc => decide +kernel); (case hn => decide +kernel); (case hl => rfl))
  | with_reducible refine w_sfld ?_ | ((with_reducible refine' w_sfld1 ?ha (ClsF.cl (cs := clsL) (as := attL) (by assumption) _ ?hc) (ClsF.no (cs := clsL) (as := attL) (by assumption) _ _ ?hn) ?he ?hl ?_); (case ha => walk_at "at"); (case hc => decide +kernel); (case hn => decide +kernel); (case he => rfl); (case hl => rfl))
  | with_reducible refine w_lk ?_ | ((with_reducible refine' lkL ?ha ?_); (case ha => walk_at "at")) | with_reducible refine w_mkS ?_ | with_reducible refine w_mk ?_ | with_reducible refine w_bas ?_ | with_reducible refine w_m1 ?_ | with_reducible refine w_isS ?_ | with_reducible refine w_bm0 ?_ | with_reducible refine w_iS ?_ | with_reducible refine w_chain ?_
  | with_reducible refine w_inSg ?_ | with_reducible refine w_ninSg ?_
  | with_reducible refine w_rz ?_ | with_reducible refine w_calX ?_ | with_reducible refine w_calS ?_ | with_reducible refine w_row ?_
  | with_reducible refine w_seq ?_ | with_reducible refine w_set ?_ | with_reducible refine w_drop ?_ | with_reducible refine w_ret ?_ | with_reducible refine w_ifS ?_ | with_reducible refine w_next ?_
  | ((with_reducible refine' w_var ?hv ?_); (case hv => rfl)) | with_reducible refine w_c ?_
  | with_reducible refine w_op ?_ | with_reducible refine w_un ?_ | with_reducible refine w_cb ?_ | with_reducible refine w_cal ?_ | with_reducible refine w_cons ?_ | with_reducible refine w_nil ?_
  | with_reducible refine w_plus ?_ | with_reducible refine w_minus ?_ | with_reducible refine w_lt ?_ | with_reducible refine w_le ?_ | with_reducible refine w_gt ?_ | with_reducible refine w_ge ?_
  | with_reducible refine w_eqI ?_ | with_reducible refine w_neI ?_ | with_reducible refine w_eqB ?_ | with_reducible refine w_neB ?_ | with_reducible refine w_eqS ?_ | with_reducible refine w_neS ?_
  | with_reducible refine w_neg ?_ | with_reducible refine w_abs ?_ | with_reducible refine w_intB ?_ | with_reducible refine w_test ?_ | with_reducible refine w_tB ?_ | with_reducible refine w_bl ?_
  | with_reducible refine w_and ?_ | with_reducible refine w_or ?_ | with_reducible refine w_not ?_ | with_reducible refine w_andV ?_ | with_reducible refine w_orV ?_ | with_reducible refine w_notV ?_ | with_reducible refine w_ifE ?_
  | with_reducible refine w_nyes ?_ | with_reducible refine w_nno ?_ | with_reducible refine w_yes ?_ | with_reducible refine w_no ?_
  | ((with_reducible refine' w_ixL ?ha ?hb ?_); (case ha => walk_at "hp"); (case hb => rfl)) | ((with_reducible refine' w_ixT ?ha ?hb ?_); (case ha => walk_at "hp"); (case hb => rfl))
  | ((with_reducible refine' w_lenL ?ha ?_); (case ha => walk_at "hp")) | ((with_reducible refine' w_lenT ?ha ?_); (case ha => walk_at "hp"))
  | with_reducible refine w_min2 ?_ | with_reducible refine w_max2 ?_ | with_reducible refine w_bm ?_ | with_reducible refine w_lc ?_ | ((with_reducible refine' w_tyL ?ha ?_); (case ha => walk_at "at"))
  | with_reducible refine isi_ii ?_ | with_reducible refine isi_ib ?_ | with_reducible refine isi_bb ?_ | with_reducible refine isi_ss ?_
  | ((with_reducible refine' isi_tt ?ha ?_); (case ha => walk_at "at")) | ((with_reducible refine' isi_ll ?ha ?_); (case ha => walk_at "at"))
  | with_reducible refine w_par ?_ | with_reducible refine w_par2 ?_ | with_reducible refine w_for ?_ | with_reducible refine w_iL ?_ | with_reducible refine w_iT ?_ | with_reducible refine w_iR1 ?_ | with_reducible refine w_iR2 ?_
  | with_reducible refine w_tup ?_ | with_reducible refine w_lst ?_
  | with_reducible refine w_asg ?_ | with_reducible refine w_gname ?_ | with_reducible refine w_gcons ?_ | with_reducible refine w_gnil ?_ | with_reducible refine w_gsub ?_
  | ((with_reducible refine' w_gtup ?ha ?hb ?_); (case ha => walk_at "hp"); (case hb => rfl))
  | ((with_reducible refine' w_fdiv ?hc ?_); (case hc => walk_at "cond")) | ((with_reducible refine' w_mul ?hc ?_); (case hc => walk_at "cond"))
  | ((with_reducible refine' w_mod ?hc ?_); (case hc => walk_at "cond")) | ((with_reducible refine' w_pow ?hc ?_); (case hc => walk_at "cond")))
local macro_rules | `(tactic| walk_at "wp") => `(tactic| repeat walk_at "wp1")
section
variable {P : Program} {w : World} {K : PySem.W.Frag} {mg : Str → Option Value} {base : Heap}
/-! ### told at any depth -/
theorem C4_in {i : Nat} (hi : i < 4) : (C4 i ∈ clsL) ∧ ((C4 i, ("Term" : Str), ("bound" : Str)) ∈ inhL) ∧ ((C4 i, ("Pairwise" : Str), ("told" : Str)) ∈ inhL) := by
  have h : i = 0 ∨ i = 1 ∨ i = 2 ∨ i = 3 := by omega
  rcases h with rfl | rfl | rfl | rfl <;> decide +kernel
section
variable (T_ : Fre mg) (CF : ClsF K clsL attL) (MF : MthF K) (IF : InhF K)
include CF IF
theorem ranks_at (mT : Met P w K mg base 1 "Term" "rank" (spRk 3)) (m0 : Met P w K mg base 1 "Sum" "rank" (spRk 1)) (m1 : Met P w K mg base 1 "Less" "rank" (spRk 1)) (m2 : Met P w K mg base 1 "Times" "rank" (spRk 2)) (m3 : Met P w K mg base 1 "Over" "rank" (spRk 2)) :
    ∀ t, TOk t → Met P w K mg base 1 (cls6 t) "rank" (spRk t.rank)
  | .num _, _ => mT.inh (CF.cl "Number" (by decide +kernel)) (IF.e "Number" "Term" "rank" (by decide +kernel))
  | .kn _ _, _ => mT.inh (CF.cl "Known" (by decide +kernel)) (IF.e "Known" "Term" "rank" (by decide +kernel))
  | .bin i _ _, ok => by
    have hi : i < 4 := ok.1
    have h : i = 0 ∨ i = 1 ∨ i = 2 ∨ i = 3 := by omega
    rcases h with rfl | rfl | rfl | rfl
    · exact m0
    · exact m1
    · exact m2
    · exact m3
theorem bounds_of {L d : Nat} (mB : Met P w K mg base L "Term" "bound" (spBound K d)) : ∀ t, TOk t → Met P w K mg base L (cls6 t) "bound" (spBound K d)
  | .num _, _ => mB.inh (CF.cl "Number" (by decide +kernel)) (IF.e "Number" "Term" "bound" (by decide +kernel))
  | .kn _ _, _ => mB.inh (CF.cl "Known" (by decide +kernel)) (IF.e "Known" "Term" "bound" (by decide +kernel))
  | .bin i _ _, ok => mB.inh (CF.cl _ (C4_in ok.1).1) (IF.e _ _ _ (C4_in ok.1).2.1)
omit CF IF in
theorem told_bin {H : Hp} {c : Str} {d : Nat} {vs : List V} {Q : VK} {E : XK} {i : Nat} (hi : i < 4) (h : spTold K (C4 i) (d + 1) vs H Q E) : spToldB K d vs H Q E := by
  obtain ⟨a, t, rfl, hc, TD, q⟩ := h
  match t, hc, TD, q with
  | .num _, hc, _, _ => exact absurd (show ("Number" : Str) = C4 i from hc).symm (C4_ne hi).1
  | .kn _ _, hc, _, _ => exact absurd (show ("Known" : Str) = C4 i from hc).symm (C4_ne hi).2
  | .bin j s t, _, TD, q => exact ⟨a, j, s, t, rfl, TD, q⟩
include MF T_
theorem told_at (FB : MDef K "Term" "bound" "Term.bound" s_Term_bound) (FP : MDef K "Pairwise" "told" "Pairwise.told" s_Pairwise_told) (rks : ∀ t, TOk t → Met P w K mg base 1 (cls6 t) "rank" (spRk t.rank))
    (mN : ∀ d, Met P w K mg base 2 "Number" "told" (spTold K "Number" d)) (mK : ∀ d, Met P w K mg base 2 "Known" "told" (spTold K "Known" d)) :
    ∀ d : Nat, (∀ t, TOk t → Met P w K mg base (2 * d + 2) (cls6 t) "told" (spTold K (cls6 t) d)) ∧ (∀ t, TOk t → Met P w K mg base (2 * d + 3) (cls6 t) "bound" (spBound K d))
  | 0 => by
    have mP : Met P w K mg base 1 "Pairwise" "told" (fun _ _ _ _ => False) := met_of FP (CF.cl _ (by decide +kernel)) (MF.m _ _ (by decide +kernel)) sc_Pairwise_told b_Pairwise_told (fun _ _ _ _ h => h.elim) (fun _ _ _ _ _ _ _ _ _ h => h.elim)
    have tds : ∀ t, TOk t → Met P w K mg base (2 * 0 + 2) (cls6 t) "told" (spTold K (cls6 t) 0) := fun t => match t with
      | .num _ => fun _ => mN 0
      | .kn _ _ => fun _ => mK 0
      | .bin i _ _ => fun ok => ((mP.inh (CF.cl _ (C4_in ok.1).1) (IF.e _ _ _ (C4_in ok.1).2.2)).mono (by omega)).imp (fun vs H Q E h => by
          obtain ⟨a, t, _, _, TD, _⟩ := h
          have := T.depth_pos t
          have := TD.2.2.2
          omega)
    exact ⟨tds, bounds_of CF IF (m_Term_bound T_ CF MF FB (by omega) rks tds)⟩
  | d + 1 => by
    obtain ⟨_, bds⟩ := told_at FB FP rks mN mK d
    have mP := m_Pairwise_told T_ CF MF (L := 2 * d + 3) FP (by omega) rks bds
    have tds : ∀ t, TOk t → Met P w K mg base (2 * (d + 1) + 2) (cls6 t) "told" (spTold K (cls6 t) (d + 1)) := fun t => match t with
      | .num _ => fun _ => (mN _).mono (by omega)
      | .kn _ _ => fun _ => (mK _).mono (by omega)
      | .bin i _ _ => fun ok => ((mP.inh (CF.cl _ (C4_in ok.1).1) (IF.e _ _ _ (C4_in ok.1).2.2)).mono (by omega)).imp (fun vs H Q E h => told_bin (c := C4 i) ok.1 h)
    exact ⟨tds, bounds_of CF IF (m_Term_bound T_ CF MF (L := 2 * (d + 1) + 2) FB (by omega) rks tds)⟩
end
end
end Lw

/-! the reader, as plain functions: lists of names and terms -/
namespace Rd
open PySem
section
variable {α : Type}
def MonoG (f : Nat → Option (α × Nat)) : Prop := ∀ p t p', f p = some (t, p') → p < p'
/-- f, and again behind each comma -/
def sq (ms : List Str) (f : Nat → Option (α × Nat)) : Nat → List α → Nat → Option (List α × Nat)
  | 0, acc, p => some (acc, p)
  | n + 1, acc, p => if now ms p = "," then (f (p + 1)).bind fun q => sq ms f n (acc ++ [q.1]) q.2 else some (acc, p)
def sqF (ms : List Str) (f : Nat → Option (α × Nat)) (acc : List α) (p : Nat) : Option (List α × Nat) := sq ms f (ms.length + 1) acc p
def sqM (ms : List Str) (f : Nat → Option (α × Nat)) (p : Nat) : Option (List α × Nat) := (f p).bind fun q => sqF ms f [q.1] q.2
variable {ms : List Str} {f : Nat → Option (α × Nat)}
theorem sq_enough (hf : MonoG f) : ∀ (n m : Nat) (acc : List α) (p : Nat), ms.length < n + p → ms.length < m + p → sq ms f n acc p = sq ms f m acc p
  | 0, 0, _, _, _, _ => rfl
  | 0, m + 1, acc, p, h1, _ => by
    have e : now ms p = "" := now_none (by omega)
    unfold sq
    rw [e, if_neg (by decide)]
  | n + 1, 0, acc, p, _, h2 => by
    have e : now ms p = "" := now_none (by omega)
    unfold sq
    rw [e, if_neg (by decide)]
  | n + 1, m + 1, acc, p, h1, h2 => by
    unfold sq
    split
    · cases e : f (p + 1) with
      | none => rfl
      | some q =>
        have := hf (p + 1) q.1 q.2 e
        exact sq_enough hf n m _ _ (by omega) (by omega)
    · rfl
theorem sqF_on (hf : MonoG f) {acc : List α} {p : Nat} (h : now ms p = ",") : sqF ms f acc p = (f (p + 1)).bind fun q => sqF ms f (acc ++ [q.1]) q.2 := by
  unfold sqF
  rw [sq, if_pos h]
  cases e : f (p + 1) with
  | none => rfl
  | some q =>
    have := hf (p + 1) q.1 q.2 e
    exact sq_enough hf _ _ _ _ (by omega) (by omega)
theorem sqF_end {acc : List α} {p : Nat} (h : now ms p ≠ ",") : sqF ms f acc p = some (acc, p) := by
  unfold sqF
  rw [sq, if_neg h]
theorem name_mono : MonoG (rName ms) := fun p x p' h => by
  have := rName_lt h
  omega
end
end Rd

/-! steps, parts, programs, as plain data; the reader of rows -/
namespace Rd
open PySem
abbrev Pl := Option (Str × Int)
inductive S where
  | fill (r : Nat) (x : Str) (pl : Pl) (t : T)
  | call (r : Nat) (x : Str) (pl : Pl) (h : Str) (ps : List T)
  | rowed (r : Nat) (x : Str) (n : Nat)
  | choice (r : Nat) (a b : T) (yes no : List S)
  | turns (r : Nat) (c : Str) (n : Nat) (body : List S)
/-- one row that is a step's -/
inductive LK where
  | fill (x : Str) (pl : Pl) (t : T)
  | call (x : Str) (pl : Pl) (h : Str) (ps : List T)
  | rowed (x : Str) (n : Nat)
  | cond (a b : T)
  | loop (c : Str) (n : Nat)
def ended {α : Type} (ms : List Str) (a : α) (p : Nat) : Option α := if ms.length ≤ p then some a else none
def filledM (ms : List Str) : Option LK := (rKnown ms 0).bind fun k => (must ms "=" k.2).bind fun p =>
  match k.1 with
  | .kn x pl => if now ms (p + 1) = "(" ∧ now ms p ≠ "(" then
      (rName ms p).bind fun h => (must ms "(" h.2).bind fun p1 => (sqM ms (rTerm ms 9) p1).bind fun ts => (must ms ")" ts.2).bind fun p2 => ended ms (LK.call x pl h.1 ts.1) p2
    else (rTerm ms 9 p).bind fun t => ended ms (LK.fill x pl t.1) t.2
  | _ => none
def condM (ms : List Str) : Option LK := (rTerm ms 9 1).bind fun a => (must ms "<" a.2).bind fun p => (rTerm ms 9 p).bind fun b => ended ms (LK.cond a.1 b.1) b.2
def lineStep (ms : List Str) : Option LK :=
  if now ms 0 = "row" then (rName ms 1).bind fun x => (rWhole ms 1 9 x.2).bind fun n => ended ms (LK.rowed x.1 n.1) n.2
  else if now ms 0 = "loop" then (rName ms 1).bind fun x => (rWhole ms 1 9 x.2).bind fun n => ended ms (LK.loop x.1 n.1) n.2
  else if now ms 0 = "if" then condM ms
  else filledM ms
/-- the first mark of the row that is next, if it stands so deep -/
def firstM (rows : List (Nat × List Str)) (p d : Nat) : Str := match rows[p]? with
  | some q => if q.1 = d then now q.2 0 else ""
  | none => ""
abbrev Rows := List (Nat × List Str)
abbrev Bk := Nat → Except Nat (List S × Nat)
section
variable (rows : Rows)
def endL : List Str := ["", "def", "give", "else"]
def marksAt (p : Nat) : List Str := (rows.getD p (0, [])).2
def blockM (st : Bk) (p : Nat) : Except Nat (List S × Nat) := match st p with
  | .error e => .error e
  | .ok ([], p') => .error (p' + 1)
  | .ok r => .ok r
def choiceM (blk : Bk) (d r : Nat) (a b : T) (p : Nat) : Except Nat (S × Nat) := match blk p with
  | .error e => .error e
  | .ok (yes, p1) => if firstM rows p1 d = "else" then
      (if (marksAt rows p1).length ≤ 1 then (match blk (p1 + 1) with
        | .error e => .error e
        | .ok (no, p2) => .ok (.choice r a b yes no, p2)) else .error (p1 + 1))
    else .ok (.choice r a b yes [], p1)
/-- one step, at p; blk: a block that stands further in -/
def stepM (blk : Bk) (d p : Nat) : Except Nat (S × Nat) := match lineStep (marksAt rows p) with
  | none => .error (p + 1)
  | some (.fill x pl t) => .ok (.fill (p + 1) x pl t, p + 1)
  | some (.call x pl h ps) => .ok (.call (p + 1) x pl h ps, p + 1)
  | some (.rowed x n) => .ok (.rowed (p + 1) x n, p + 1)
  | some (.cond a b) => choiceM rows blk d (p + 1) a b (p + 1)
  | some (.loop c n) => match blk (p + 1) with
    | .error e => .error e
    | .ok (body, p1) => .ok (.turns (p + 1) c n body, p1)
def stepsL (blk : Bk) (d : Nat) : Nat → List S → Nat → Except Nat (List S × Nat)
  | 0, acc, p => .ok (acc, p)
  | n + 1, acc, p => if firstM rows p d ∈ endL then .ok (acc, p) else match stepM rows blk d p with
    | .error e => .error e
    | .ok (s, p1) => stepsL blk d n (acc ++ [s]) p1
def stepsF (blk : Bk) (d : Nat) (acc : List S) (p : Nat) : Except Nat (List S × Nat) := stepsL rows blk d (rows.length + 1) acc p
/-- the steps at depth 6 - k -/
def stepsK : Nat → Bk
  | 0 => fun p => .ok ([], p)
  | k + 1 => fun p => stepsF rows (blockM (stepsK k)) (5 - k) [] p
def blockK (k : Nat) : Bk := blockM (stepsK rows k)
end
structure Pt where
  name : Str
  takes : List Str
  body : List S
  gives : List T
  row : Nat
  last : Nat
def defM (ms : List Str) : Option (Str × List Str) := (must ms "def" 0).bind fun p => (rName ms p).bind fun n => (must ms "(" n.2).bind fun p1 => (sqM ms (rName ms) p1).bind fun xs => (must ms ")" xs.2).bind fun p2 =>
  if ms.length ≤ p2 ∧ xs.1.length ≤ 4 then some (n.1, xs.1) else none
def giveM (name : Str) (ms : List Str) : Option (List T) := (must ms "give" 0).bind fun p => (sqM ms (rTerm ms 9) p).bind fun ts =>
  if ms.length ≤ ts.2 ∧ ts.1.length ≤ 4 ∧ (name = "main" ∨ ts.1.length ≤ 1) then some ts.1 else none
section
variable (rows : Rows)
def partM (p : Nat) : Except Nat (Pt × Nat) := match defM (marksAt rows p) with
  | none => .error (p + 1)
  | some (name, takes) => match stepsK rows 5 (p + 1) with
    | .error e => .error e
    | .ok (body, p1) => if firstM rows p1 1 = "give" then (match giveM name (marksAt rows p1) with
        | none => .error (p1 + 1)
        | some gives => .ok (⟨name, takes, body, gives, p + 1, p1 + 1⟩, p1 + 1)) else .error (p1 + 1)
def partsL : Nat → List Pt → Nat → Except Nat (List Pt)
  | 0, acc, _ => .ok acc
  | n + 1, acc, p => if p < rows.length then
      (if firstM rows p 0 ≠ "def" ∨ acc.length = 6 then .error (p + 1) else match partM rows p with
        | .error e => .error e
        | .ok (q, p1) => partsL n (acc ++ [q]) p1)
    else .ok acc
def partsF (acc : List Pt) (p : Nat) : Except Nat (List Pt) := partsL rows (rows.length + 1) acc p
def progM : Except Nat (List Pt) := match partsF rows [] 0 with
  | .error e => .error e
  | .ok ps => match ps.getLast? with
    | some q => if q.name = "main" then .ok ps else .error q.row
    | none => .error 0
end
/-! ### what steps, parts, programs tell -/
mutual
def S.told (ah : Str) : S → List Str
  | .fill _ x pl t => [ah ++ (T.kn x pl).told ++ " = " ++ t.told]
  | .call _ x pl h ps => [ah ++ (T.kn x pl).told ++ " = " ++ h ++ "(" ++ Txt.join ", " (ps.map T.told) ++ ")"]
  | .rowed _ x n => [ah ++ "row " ++ x ++ " " ++ (toString (n : Int) : Str)]
  | .choice _ a b yes no => ((ah ++ "if " ++ a.told ++ " < " ++ b.told) :: toldS (ah ++ "  ") yes) ++ (if no = [] then [] else [ah ++ "else"]) ++ toldS (ah ++ "  ") no
  | .turns _ c n body => (ah ++ "loop " ++ c ++ " " ++ (toString (n : Int) : Str)) :: toldS (ah ++ "  ") body
def toldS (ah : Str) : List S → List Str
  | [] => []
  | s :: r => S.told ah s ++ toldS ah r
end
mutual
def S.depth : S → Nat
  | .choice _ _ _ yes no => max (depthS yes) (depthS no) + 1
  | .turns _ _ _ body => depthS body + 1
  | _ => 1
def depthS : List S → Nat
  | [] => 0
  | s :: r => max s.depth (depthS r)
end
theorem depthS_mem : ∀ {ss : List S} {i : Nat} {s : S}, ss[i]? = some s → s.depth ≤ depthS ss
  | t :: r, 0, s, h => by
    cases h
    rw [depthS]
    omega
  | t :: r, i + 1, s, h => by
    have := depthS_mem (ss := r) (i := i) h
    rw [depthS]
    omega
  | [], _, _, h => by cases h
theorem toldS_append (ah : Str) : ∀ (a b : List S), toldS ah (a ++ b) = toldS ah a ++ toldS ah b
  | [], b => by rw [toldS]; rfl
  | s :: r, b => by
    show toldS ah (s :: (r ++ b)) = _
    rw [toldS, toldS, toldS_append ah r b, List.append_assoc]
theorem toldS_take {ah : Str} {ss : List S} {i : Nat} {s : S} (h : ss[i]? = some s) : toldS ah (ss.take (i + 1)) = toldS ah (ss.take i) ++ S.told ah s := by
  rw [List.take_add_one, h, toldS_append]
  show _ ++ toldS ah [s] = _
  rw [toldS, toldS, List.append_nil]
def Pt.told (q : Pt) : List Str := (("def " : Str) ++ q.name ++ "(" ++ Txt.join ", " q.takes ++ ")") :: toldS "  " q.body ++ [("  give " : Str) ++ Txt.join ", " (q.gives.map T.told)]
def toldP (ps : List Pt) : List Str := ps.flatMap Pt.told
def progTold (ps : List Pt) : Str := Txt.join "\n" (toldP ps)
/-! ### the readers go on -/
variable {rows : Rows}
def BkOn (b : Bk) : Prop := ∀ p ss p', b p = .ok (ss, p') → p ≤ p'
theorem choice_on {blk : Bk} (hb : BkOn blk) {d r : Nat} {a b : T} {p p' : Nat} {s : S} (h : choiceM rows blk d r a b p = .ok (s, p')) : p ≤ p' := by
  unfold choiceM at h
  cases e : blk p with
  | error x => rw [e] at h; cases h
  | ok q =>
    obtain ⟨yes, p1⟩ := q
    have h1 := hb _ _ _ e
    rw [e] at h
    dsimp only at h
    split at h
    · split at h
      · cases e2 : blk (p1 + 1) with
        | error x => rw [e2] at h; cases h
        | ok q =>
          obtain ⟨no, p2⟩ := q
          have h2 := hb _ _ _ e2
          rw [e2] at h
          cases h
          omega
      · cases h
    · cases h
      omega
theorem step_on {blk : Bk} (hb : BkOn blk) {d p p' : Nat} {s : S} (h : stepM rows blk d p = .ok (s, p')) : p < p' := by
  unfold stepM at h
  cases e : lineStep (marksAt rows p) with
  | none => rw [e] at h; cases h
  | some l =>
    rw [e] at h
    cases l with
    | fill x pl t => cases h; omega
    | call x pl y ps => cases h; omega
    | rowed x n => cases h; omega
    | cond a b => exact choice_on hb h
    | loop c n =>
      dsimp only at h
      cases e2 : blk (p + 1) with
      | error x => rw [e2] at h; cases h
      | ok q =>
        obtain ⟨body, p1⟩ := q
        have h2 := hb _ _ _ e2
        rw [e2] at h
        cases h
        omega
theorem firstM_none {p d : Nat} (h : rows.length ≤ p) : firstM rows p d = "" := by
  unfold firstM
  rw [List.getElem?_eq_none h]
theorem firstM_lt {p d : Nat} (h : firstM rows p d ≠ "") : p < rows.length := by
  by_cases hp : p < rows.length
  · exact hp
  · exact absurd (firstM_none (by omega)) h
theorem stepsL_on {blk : Bk} (hb : BkOn blk) {d : Nat} : ∀ (n : Nat) {acc : List S} {p p' : Nat} {ss : List S}, stepsL rows blk d n acc p = .ok (ss, p') → p ≤ p'
  | 0, acc, p, p', ss, h => by
    cases h
    exact Nat.le_refl _
  | n + 1, acc, p, p', ss, h => by
    unfold stepsL at h
    split at h
    · cases h
      exact Nat.le_refl _
    · cases e : stepM rows blk d p with
      | error x => rw [e] at h; cases h
      | ok q =>
        obtain ⟨s, p1⟩ := q
        have h1 := step_on hb e
        rw [e] at h
        have h2 := stepsL_on hb n h
        omega
theorem stepsL_enough {blk : Bk} (hb : BkOn blk) {d : Nat} : ∀ (n m : Nat) (acc : List S) (p : Nat), rows.length < n + p → rows.length < m + p → stepsL rows blk d n acc p = stepsL rows blk d m acc p
  | 0, 0, _, _, _, _ => rfl
  | 0, m + 1, acc, p, h1, _ => by
    rw [stepsL, stepsL, if_pos (by rw [firstM_none (by omega)]; decide)]
  | n + 1, 0, acc, p, _, h2 => by
    rw [stepsL, stepsL, if_pos (by rw [firstM_none (by omega)]; decide)]
  | n + 1, m + 1, acc, p, h1, h2 => by
    rw [stepsL, stepsL]
    split
    · rfl
    · cases e : stepM rows blk d p with
      | error x => rfl
      | ok q =>
        obtain ⟨s, p1⟩ := q
        have := step_on hb e
        exact stepsL_enough hb n m _ _ (by omega) (by omega)
theorem stepsF_on {blk : Bk} (hb : BkOn blk) {d : Nat} {acc : List S} {p : Nat} (h : firstM rows p d ∉ endL) : stepsF rows blk d acc p = match stepM rows blk d p with
    | .error e => .error e
    | .ok (s, p1) => stepsF rows blk d (acc ++ [s]) p1 := by
  unfold stepsF
  rw [stepsL, if_neg h]
  cases e : stepM rows blk d p with
  | error x => rfl
  | ok q =>
    obtain ⟨s, p1⟩ := q
    have := step_on hb e
    exact stepsL_enough hb _ _ _ _ (by omega) (by omega)
theorem stepsF_end {blk : Bk} {d : Nat} {acc : List S} {p : Nat} (h : firstM rows p d ∈ endL) : stepsF rows blk d acc p = .ok (acc, p) := by
  unfold stepsF
  rw [stepsL, if_pos h]
theorem blockM_on {b : Bk} (h : BkOn b) : BkOn (blockM b) := by
  intro p ss p' e
  unfold blockM at e
  cases e1 : b p with
  | error x => rw [e1] at e; cases e
  | ok q =>
    obtain ⟨l, p1⟩ := q
    rw [e1] at e
    have := h _ _ _ e1
    cases l with
    | nil => cases e
    | cons a l =>
      cases e
      exact this
theorem stepsK_on : ∀ k, BkOn (stepsK rows k)
  | 0 => fun p ss p' h => by
    cases h
    exact Nat.le_refl _
  | k + 1 => fun p ss p' h => stepsL_on (blockM_on (stepsK_on k)) _ h
theorem blockK_on (k : Nat) : BkOn (blockK rows k) := blockM_on (stepsK_on k)
theorem part_on {p p' : Nat} {q : Pt} (h : partM rows p = .ok (q, p')) : p < p' := by
  unfold partM at h
  cases e : defM (marksAt rows p) with
  | none => rw [e] at h; cases h
  | some z =>
    obtain ⟨name, takes⟩ := z
    rw [e] at h
    dsimp only at h
    cases e1 : stepsK rows 5 (p + 1) with
    | error x => rw [e1] at h; cases h
    | ok z =>
      obtain ⟨body, p1⟩ := z
      have h1 := stepsK_on 5 _ _ _ e1
      rw [e1] at h
      dsimp only at h
      split at h
      · cases e2 : giveM name (marksAt rows p1) with
        | none => rw [e2] at h; cases h
        | some gives =>
          rw [e2] at h
          cases h
          omega
      · cases h
theorem partsL_enough : ∀ (n m : Nat) (acc : List Pt) (p : Nat), rows.length < n + p → rows.length < m + p → partsL rows n acc p = partsL rows m acc p
  | 0, 0, _, _, _, _ => rfl
  | 0, m + 1, acc, p, h1, _ => by
    rw [partsL, partsL, if_neg (by omega)]
  | n + 1, 0, acc, p, _, h2 => by
    rw [partsL, partsL, if_neg (by omega)]
  | n + 1, m + 1, acc, p, h1, h2 => by
    rw [partsL, partsL]
    split
    · split
      · rfl
      · cases e : partM rows p with
        | error x => rfl
        | ok q =>
          obtain ⟨s, p1⟩ := q
          have := part_on e
          exact partsL_enough n m _ _ (by omega) (by omega)
    · rfl
theorem partsF_bad {acc : List Pt} {p : Nat} (hp : p < rows.length) (h : firstM rows p 0 ≠ "def" ∨ acc.length = 6) : partsF rows acc p = .error (p + 1) := by
  unfold partsF
  rw [partsL, if_pos hp, if_pos h]
theorem partsF_on {acc : List Pt} {p : Nat} (hp : p < rows.length) (h : ¬ (firstM rows p 0 ≠ "def" ∨ acc.length = 6)) : partsF rows acc p = match partM rows p with
    | .error e => .error e
    | .ok (q, p1) => partsF rows (acc ++ [q]) p1 := by
  unfold partsF
  rw [partsL, if_pos hp, if_neg h]
  cases e : partM rows p with
  | error x => rfl
  | ok q =>
    obtain ⟨s, p1⟩ := q
    have := part_on e
    exact partsL_enough _ _ _ _ (by omega) (by omega)
theorem partsF_end {acc : List Pt} {p : Nat} (hp : ¬ p < rows.length) : partsF rows acc p = .ok acc := by
  unfold partsF
  rw [partsL, if_neg hp]
theorem rKnown_kn {ms : List Str} {p p' : Nat} {t : T} (h : rKnown ms p = some (t, p')) : ∃ x pl, t = .kn x pl := by
  unfold rKnown at h
  cases e : rName ms p with
  | none => rw [e] at h; cases h
  | some q =>
    rw [e] at h
    simp only [Option.bind_some] at h
    split at h
    · cases e2 : rPlace ms (q.2 + 1) with
      | none => rw [e2] at h; cases h
      | some z =>
        rw [e2] at h
        simp only [Option.bind_some] at h
        cases e3 : must ms "]" z.2 with
        | none => rw [e3] at h; cases h
        | some p3 =>
          rw [e3] at h
          cases h
          exact ⟨_, _, rfl⟩
    · cases h
      exact ⟨_, _, rfl⟩
end Rd

namespace Lw
open PySem PySem.Spec PyProof.Rows L2 Fw Htx Ob Tx Rd Lk
local macro_rules | `(tactic| walk_at "cond") => `(tactic| first | assumption | (with_reducible exact cdiv_small (by omega) (by omega)) | (with_reducible exact cmul_small (by omega) (by omega)) | (with_reducible exact cpow_mk (by omega) (by omega) (by omega)) | omega)
local macro_rules | `(tactic| walk_at "ne") => `(tactic| first | assumption | exact Ne.symm (by assumption) | exact ne_of_none (by assumption) (by assumption) | exact Ne.symm (ne_of_none (by assumption) (by assumption)))
local macro_rules | `(tactic| walk_at "at") => `(tactic| first
  | assumption
  | (with_reducible exact upd_same)
  | ((with_reducible refine' at_same ?hk ?hh); (case hk => assumption); (case hh => walk_at "at"))
  | ((with_reducible refine' at_keepT ?hk ?hh ?hd); (case hk => assumption); (case hh => walk_at "at"); (case hd => walk_at "at"))
  | ((with_reducible refine' at_keep ?hk ?hh ?hn); (case hk => assumption); (case hh => walk_at "at"); (case hn => walk_at "ne")))
local macro_rules | `(tactic| walk_at "hp") => `(tactic| first
  | assumption
  | (with_reducible exact FrL.sql (by assumption))
  | ((with_reducible refine' SqT.of ?hq); (case hq => walk_at "at")) | ((with_reducible refine' SqL.of ?hq); (case hq => walk_at "at"))
  | ((with_reducible refine' sql_same ?hk ?hh); (case hk => assumption); (case hh => walk_at "hp"))
  | ((with_reducible refine' sql_keep ?hk ?hh ?hn); (case hk => assumption); (case hh => walk_at "hp"); (case hn => walk_at "ne"))
  | ((with_reducible refine' sqt_same ?hk ?hh); (case hk => assumption); (case hh => walk_at "hp")))
local macro_rules | `(tactic| walk_at "wp1") => `(tactic| first
  | with_reducible refine w_mt ?_ | ((with_reducible refine' w_mt1 ?ha ?hl ?_); (case ha => walk_at "at"); (case hl => rfl))
  | with_reducible refine w_fld ?_ | ((with_reducible refine' w_fld1 ?ha (ClsF.cl (cs := clsL) (as := attL) (by assumption) _ ?hc) (ClsF.no (cs := clsL) (as := attL) (by assumption) _ _ ?hn) ?hl ?_); (case ha => walk_at "at"); (case hc => decide +kernel); (case hn => decide +kernel); (case hl => rfl))
  | with_reducible refine w_sfld ?_ | ((with_reducible refine' w_sfld1 ?ha (ClsF.cl (cs := clsL) (as := attL) (by assumption) _ ?hc) (ClsF.no (cs := clsL) (as := attL) (by assumption) _ _ ?hn) ?he ?hl ?_); (case ha => walk_at "at"); (case hc => decide +kernel); (case hn => decide +kernel); (case he => rfl); (case hl => rfl))
  | with_reducible refine w_lk ?_ | ((with_reducible refine' lkL ?ha ?_); (case ha => walk_at "at")) | with_reducible refine w_mkS ?_ | with_reducible refine w_mk ?_ | with_reducible refine w_bas ?_ | with_reducible refine w_m1 ?_ | with_reducible refine w_isS ?_ | with_reducible refine w_bm0 ?_ | with_reducible refine w_iS ?_ | with_reducible refine w_chain ?_
  | with_reducible refine w_inSg ?_ | with_reducible refine w_ninSg ?_
  | with_reducible refine w_rz ?_ | with_reducible refine w_calX ?_ | with_reducible refine w_calS ?_ | with_reducible refine w_row ?_
  | with_reducible refine w_seq ?_ | with_reducible refine w_set ?_ | with_reducible refine w_drop ?_ | with_reducible refine w_ret ?_ | with_reducible refine w_ifS ?_ | with_reducible refine w_next ?_
  | ((with_reducible refine' w_var ?hv ?_); (case hv => rfl)) | with_reducible refine w_c ?_
  | with_reducible refine w_op ?_ | with_reducible refine w_un ?_ | with_reducible refine w_cb ?_ | with_reducible refine w_cal ?_ | with_reducible refine w_cons ?_ | with_reducible refine w_nil ?_
  | with_reducible refine w_plus ?_ | with_reducible refine w_minus ?_ | with_reducible refine w_lt ?_ | with_reducible refine w_le ?_ | with_reducible refine w_gt ?_ | with_reducible refine w_ge ?_
  | with_reducible refine w_eqI ?_ | with_reducible refine w_neI ?_ | with_reducible refine w_eqB ?_ | with_reducible refine w_neB ?_ | with_reducible refine w_eqS ?_ | with_reducible refine w_neS ?_
  | with_reducible refine w_neg ?_ | with_reducible refine w_abs ?_ | with_reducible refine w_intB ?_ | with_reducible refine w_test ?_ | with_reducible refine w_tB ?_ | with_reducible refine w_bl ?_
  | with_reducible refine w_and ?_ | with_reducible refine w_or ?_ | with_reducible refine w_not ?_ | with_reducible refine w_andV ?_ | with_reducible refine w_orV ?_ | with_reducible refine w_notV ?_ | with_reducible refine w_ifE ?_
  | with_reducible refine w_nyes ?_ | with_reducible refine w_nno ?_ | with_reducible refine w_yes ?_ | with_reducible refine w_no ?_
  | ((with_reducible refine' w_ixL ?ha ?hb ?_); (case ha => walk_at "hp"); (case hb => rfl)) | ((with_reducible refine' w_ixT ?ha ?hb ?_); (case ha => walk_at "hp"); (case hb => rfl))
  | ((with_reducible refine' w_lenL ?ha ?_); (case ha => walk_at "hp")) | ((with_reducible refine' w_lenT ?ha ?_); (case ha => walk_at "hp"))
  | with_reducible refine w_min2 ?_ | with_reducible refine w_max2 ?_ | with_reducible refine w_bm ?_ | with_reducible refine w_lc ?_ | ((with_reducible refine' w_tyL ?ha ?_); (case ha => walk_at "at"))
  | with_reducible refine isi_ii ?_ | with_reducible refine isi_ib ?_ | with_reducible refine isi_bb ?_ | with_reducible refine isi_ss ?_
  | ((with_reducible refine' isi_tt ?ha ?_); (case ha => walk_at "at")) | ((with_reducible refine' isi_ll ?ha ?_); (case ha => walk_at "at"))
  | with_reducible refine w_par ?_ | with_reducible refine w_par2 ?_ | with_reducible refine w_for ?_ | with_reducible refine w_iL ?_ | with_reducible refine w_iT ?_ | with_reducible refine w_iR1 ?_ | with_reducible refine w_iR2 ?_
  | with_reducible refine w_tup ?_ | with_reducible refine w_lst ?_
  | with_reducible refine w_asg ?_ | with_reducible refine w_gname ?_ | with_reducible refine w_gcons ?_ | with_reducible refine w_gnil ?_ | with_reducible refine w_gsub ?_
  | ((with_reducible refine' w_gtup ?ha ?hb ?_); (case ha => walk_at "hp"); (case hb => rfl))
  | ((with_reducible refine' w_fdiv ?hc ?_); (case hc => walk_at "cond")) | ((with_reducible refine' w_mul ?hc ?_); (case hc => walk_at "cond"))
  | ((with_reducible refine' w_mod ?hc ?_); (case hc => walk_at "cond")) | ((with_reducible refine' w_pow ?hc ?_); (case hc => walk_at "cond")))
local macro_rules | `(tactic| walk_at "wp") => `(tactic| repeat walk_at "wp1")
section
variable {P : Program} {w : World} {K : PySem.W.Frag} {mg : Str → Option Value} {base : Heap}
-- REG m_Row_read_term = Met P w K mg base 36 "Row" "read_term" (spRd K 0 fun ms => rTerm ms 9)
/-! ### lists of names and of terms -/
theorem keep_new {r l : Addr} {H H1 H2 : Hp} (a : Fw.Keep r H H1) (b : Fw.Keep l H1 H2) (nl : H l = none) : Fw.Keep r H H2 := fun c o hc h => b c o (ne_of_none h nl) (a c o hc h)
theorem Keep.keepL {H H' : Hp} {l : Addr} {xs : List V} (k : Fw.Keep l H H') (h : H l = some (.lst xs)) : KeepN H H' := fun a o hn ho => k a o (by
  intro z
  subst z
  rw [h] at ho
  cases ho
  exact hn) ho
theorem rowAt_lst {H H' : Hp} {r ml l : Addr} {ms : List Str} {p : Nat} {n : Int} {b : Nat} {xs : List V} (R : RowAt K H r ml ms p n b) (k : Fw.Keep l H H') (h : H l = some (.lst xs)) (hn : ml ≠ l) : RowAt K H' r ml ms p n b := by
  obtain ⟨ok, dx, er, el⟩ := R
  exact ⟨ok, dx, k _ _ (ne_of er h (by intro z; cases z)) er, k _ _ hn el⟩
def spNames (K : PySem.W.Frag) : Sp := fun vs H Q E => ∃ r ml ms p n b, vs = [.ref r] ∧ RowAt K H r ml ms p n b ∧
  match sqM ms (rName ms) p with
  | some (xs, p') => ∀ l H', H l = none → H' l = some (.lst (xs.map V.str)) → RowAt K H' r ml ms p' n b → Fw.Keep r H H' → Q (.ref l) H'
  | none => BadR K E n r H
def TermsAt (K : PySem.W.Frag) (H : Hp) : List Addr → List T → Prop
  | [], [] => True
  | a :: as, t :: ts => TermAt K H a t ∧ TermsAt K H as ts
  | _, _ => False
theorem TermsAt.keep {H H' : Hp} (k : KeepN H H') : ∀ {as : List Addr} {ts : List T}, TermsAt K H as ts → TermsAt K H' as ts
  | [], [], _ => trivial
  | _ :: _, _ :: _, h => ⟨h.1.keep k, TermsAt.keep k h.2⟩
  | [], _ :: _, h => h
  | _ :: _, [], h => h
theorem TermsAt.snoc {H : Hp} {a : Addr} {t : T} (ha : TermAt K H a t) : ∀ {as : List Addr} {ts : List T}, TermsAt K H as ts → TermsAt K H (as ++ [a]) (ts ++ [t])
  | [], [], _ => ⟨ha, trivial⟩
  | _ :: _, _ :: _, h => ⟨h.1, TermsAt.snoc ha h.2⟩
  | [], _ :: _, h => h.elim
  | _ :: _, [], h => h.elim
def spTerms (K : PySem.W.Frag) : Sp := fun vs H Q E => ∃ r ml ms p n, vs = [.ref r] ∧ RowAt K H r ml ms p n 0 ∧
  match sqM ms (rTerm ms 9) p with
  | some (ts, p') => ∀ l as H', H l = none → H' l = some (.lst (as.map V.ref)) → TermsAt K H' as ts → RowAt K H' r ml ms p' n 0 → Fw.Keep r H H' → Q (.ref l) H'
  | none => BadR K E n r H
section
variable (T : Fre mg) (CS : Cst K mg) (CF : ClsF K clsL attL) (MF : MthF K)
include T CS CF MF
theorem m_Row_read_names (F : MDef K "Row" "read_names" "Row.read_names" s_Row_read_names) (m_Row_took : Met P w K mg base 2 "Row" "took" (spTook K)) (m_Row_read_name : Met P w K mg base 4 "Row" "read_name" (spName K)) : Met P w K mg base 5 "Row" "read_names" (spNames K) := by
  refine met_of F (CF.cl _ (by decide +kernel)) (MF.m _ _ (by decide +kernel)) sc_Row_read_names b_Row_read_names (fun vs H Q E h => ?_) (fun cdv A outer s H vs Q E hr h => ?_)
  · obtain ⟨_, _, _, _, _, _, rfl, _⟩ := h
    rfl
  · obtain ⟨r, ml, ms, p, n, b, rfl, R, h⟩ := h
    obtain ⟨ok, dx, er, el⟩ := id R
    have po := passes_of (X := cxOf (L2N.CX P w) P w K mg base ["self", "found"] "Row.read_names" (defScope s_Row_read_names) (He.ma K (He.ga K "Row") "read_names") cdv A outer s H E) rfl
    have tk := L2N.takes_of (X := cxOf (L2N.CX P w) P w K mg base ["self", "found"] "Row.read_names" (defScope s_Row_read_names) (He.ma K (He.ga K "Row") "read_names") cdv A outer s H E) (E := E) rfl rfl rfl rfl
    have pc := L2N.passes_call tk (fun _ _ _ _ h => h) (E := E)
    refine ⟨_, (pss_cons (ps_set (i := 1) sc_Row_read_names.nd rfl (loc_of rfl) (pe_lst (pa_cons (pe_mt0 m_Row_read_name (pv 0) hr (by omega) pc) pa_nil)))
      (pss_cons (ps_while po (pt_val (pe_mt m_Row_took (pv 0) hr (by omega) pc (pa_cons pe_str pa_nil))) (pss_one (ps_expr (pe_bm PySem.F.plainAttrs_list PySem.F.slot_list_append PySem.F.type_list_append mt_append (pv 1) (pa_cons (pe_mt0 m_Row_read_name (pv 0) hr (by omega) pc) pa_nil)))))
      (pss_one (ps_ret (pv 1))))), ?_⟩
    refine w_start [some (.ref r), none] rfl ?_
    try dsimp only [cxOf]
    unfold sqM at h
    walk_at "wp"
    refine ⟨r, ml, ms, p, n, b, rfl, R, ?_⟩
    cases e1 : rName ms p with
    | none =>
      rw [e1] at h
      exact h
    | some z =>
      rw [e1] at h
      obtain ⟨x0, p0⟩ := z
      simp only [Option.bind_some] at h
      have hp0 := rName_lt e1
      refine fun H1 R1 k1 => ?_
      walk_at "wp"
      refine newL fun l H2 nl e2 s2 => ?_
      have nl0 : H l = none := by
        cases e : H l with
        | none => rfl
        | some o =>
          by_cases hl : l = r
          · subst hl
            obtain ⟨o', ho'⟩ := R1.some
            rw [ho'] at nl
            cases nl
          · rw [k1 l o hl e] at nl
            cases nl
      have nml : ml ≠ l := ne_of_none el nl0
      walk_at "wp"
      refine w_while (fun m σ H' => ∃ acc p', σ = [some (.ref r), some (.ref l)] ∧ H' l = some (.lst (acc.map V.str)) ∧ RowAt K H' r ml ms p' n b ∧ Fw.Keep r H H' ∧ sqF ms (rName ms) acc p' = sqF ms (rName ms) [x0] p0 ∧ acc.length ≤ p' ∧ m = ms.length - p') (ms.length - p0)
        ⟨[x0], p0, rfl, e2, R1.same s2, k1.same s2, rfl, by rw [List.length_singleton]; omega, rfl⟩ fun m σ H3 hw => ?_
      obtain ⟨acc, p', rfl, e3, R3, k3, hE, hal, rfl⟩ := hw
      obtain ⟨_, dx3, er3, el3⟩ := id R3
      rw [← hE] at h
      walk_at "wp"
      refine ⟨r, ml, ms, p', n, b, _, rfl, R3, fun h1 H4 R4 k4 => ?_, fun h1 => ?_⟩
      · have hlt : p' < ms.length := now_lt (by rw [h1]; decide)
        have hs := sqF_on (ms := ms) (name_mono (ms := ms)) (acc := acc) h1
        rw [hs] at h
        obtain ⟨_, dx4, er4, el4⟩ := id R4
        have nlr : l ≠ r := (ne_of er3 e3 (by intro z; cases z)).symm
        have e4 := k4 l _ nlr e3
        walk_at "wp"
        refine w_turn ?_
        walk_at "wp"
        refine ⟨r, ml, ms, p' + 1, n, b, rfl, R4, ?_⟩
        cases e5 : rName ms (p' + 1) with
        | none =>
          rw [e5] at h
          exact h.on (k3.trans k4) R4
        | some z =>
          obtain ⟨y, p5⟩ := z
          have hp5 := rName_lt e5
          refine fun H5 R5 k5 => ?_
          have e6 := k5 l _ nlr e4
          walk_at "wp"
          have := ok.1
          refine w_app e6 (by rw [List.length_map]; omega) fun H6 e7 k6 => ?_
          walk_at "wp"
          refine ⟨ms.length - p5, by omega, acc ++ [y], p5, rfl, by rw [e7, List.map_append]; rfl, rowAt_lst R5 k6 e6 nml, keep_new ((k3.trans k4).trans k5) k6 nl0, ?_, by rw [List.length_append, List.length_singleton]; omega, rfl⟩
          rw [← hE, hs, e5]
          rfl
      · rw [sqF_end h1] at h
        walk_at "wp"
        exact h l H3 nl0 e3 R3 k3
theorem m_Row_read_terms (F : MDef K "Row" "read_terms" "Row.read_terms" s_Row_read_terms) (m_Row_took : Met P w K mg base 2 "Row" "took" (spTook K)) (m_Row_read_term : Met P w K mg base 36 "Row" "read_term" (spRd K 0 fun ms => rTerm ms 9)) : Met P w K mg base 37 "Row" "read_terms" (spTerms K) := by
  refine met_of F (CF.cl _ (by decide +kernel)) (MF.m _ _ (by decide +kernel)) sc_Row_read_terms b_Row_read_terms (fun vs H Q E h => ?_) (fun cdv A outer s H vs Q E hr h => ?_)
  · obtain ⟨_, _, _, _, _, rfl, _⟩ := h
    rfl
  · obtain ⟨r, ml, ms, p, n, rfl, R, h⟩ := h
    obtain ⟨ok, dx, er, el⟩ := id R
    have po := passes_of (X := cxOf (L2N.CX P w) P w K mg base ["self", "found"] "Row.read_terms" (defScope s_Row_read_terms) (He.ma K (He.ga K "Row") "read_terms") cdv A outer s H E) rfl
    have tk := L2N.takes_of (X := cxOf (L2N.CX P w) P w K mg base ["self", "found"] "Row.read_terms" (defScope s_Row_read_terms) (He.ma K (He.ga K "Row") "read_terms") cdv A outer s H E) (E := E) rfl rfl rfl rfl
    have pc := L2N.passes_call tk (fun _ _ _ _ h => h) (E := E)
    refine ⟨_, (pss_cons (ps_set (i := 1) sc_Row_read_terms.nd rfl (loc_of rfl) (pe_lst (pa_cons (pe_mt0 m_Row_read_term (pv 0) hr (by omega) pc) pa_nil)))
      (pss_cons (ps_while po (pt_val (pe_mt m_Row_took (pv 0) hr (by omega) pc (pa_cons pe_str pa_nil))) (pss_one (ps_expr (pe_bm PySem.F.plainAttrs_list PySem.F.slot_list_append PySem.F.type_list_append mt_append (pv 1) (pa_cons (pe_mt0 m_Row_read_term (pv 0) hr (by omega) pc) pa_nil)))))
      (pss_one (ps_ret (pv 1))))), ?_⟩
    refine w_start [some (.ref r), none] rfl ?_
    try dsimp only [cxOf]
    unfold sqM at h
    walk_at "wp"
    refine ⟨r, ml, ms, p, n, rfl, R, ?_⟩
    dsimp only
    cases e1 : rTerm ms 9 p with
    | none =>
      rw [e1] at h
      exact h
    | some z =>
      rw [e1] at h
      obtain ⟨x0, p0⟩ := z
      simp only [Option.bind_some] at h
      have hm : MonoG (rTerm ms 9) := rTerm_mono 9
      have hp0 := hm _ _ _ e1
      refine fun a0 H1 t1 R1 k1 => ?_
      walk_at "wp"
      refine newL fun l H2 nl e2 s2 => ?_
      have nl0 : H l = none := by
        cases e : H l with
        | none => rfl
        | some o =>
          by_cases hl : l = r
          · subst hl
            obtain ⟨o', ho'⟩ := R1.some
            rw [ho'] at nl
            cases nl
          · rw [k1 l o hl e] at nl
            cases nl
      have nml : ml ≠ l := ne_of_none el nl0
      walk_at "wp"
      refine w_while (fun m σ H' => ∃ as acc p', σ = [some (.ref r), some (.ref l)] ∧ H' l = some (.lst (as.map V.ref)) ∧ TermsAt K H' as acc ∧ RowAt K H' r ml ms p' n 0 ∧ Fw.Keep r H H' ∧ sqF ms (rTerm ms 9) acc p' = sqF ms (rTerm ms 9) [x0] p0 ∧ as.length ≤ p' ∧ m = ms.length - p') (ms.length - p0)
        ⟨[a0], [x0], p0, rfl, e2, ⟨t1.keep s2.keepN, trivial⟩, R1.same s2, k1.same s2, rfl, by rw [List.length_singleton]; omega, rfl⟩ fun m σ H3 hw => ?_
      obtain ⟨as, acc, p', rfl, e3, TA, R3, k3, hE, hal, rfl⟩ := hw
      obtain ⟨_, dx3, er3, el3⟩ := id R3
      rw [← hE] at h
      walk_at "wp"
      refine ⟨r, ml, ms, p', n, 0, _, rfl, R3, fun h1 H4 R4 k4 => ?_, fun h1 => ?_⟩
      · have hlt : p' < ms.length := now_lt (by rw [h1]; decide)
        have hs := sqF_on (ms := ms) hm (acc := acc) h1
        rw [hs] at h
        obtain ⟨_, dx4, er4, el4⟩ := id R4
        have nlr : l ≠ r := (ne_of er3 e3 (by intro z; cases z)).symm
        have e4 := k4 l _ nlr e3
        walk_at "wp"
        refine w_turn ?_
        walk_at "wp"
        refine ⟨r, ml, ms, p' + 1, n, rfl, R4, ?_⟩
        dsimp only
        cases e5 : rTerm ms 9 (p' + 1) with
        | none =>
          rw [e5] at h
          exact h.on (k3.trans k4) R4
        | some z =>
          obtain ⟨y, p5⟩ := z
          have hp5 := hm _ _ _ e5
          refine fun a5 H5 t5 R5 k5 => ?_
          have e6 := k5 l _ nlr e4
          walk_at "wp"
          have := ok.1
          refine w_app e6 (by rw [List.length_map]; omega) fun H6 e7 k6 => ?_
          have kL := Keep.keepL k6 e6
          walk_at "wp"
          refine ⟨ms.length - p5, by omega, as ++ [a5], acc ++ [y], p5, rfl, by rw [e7, List.map_append]; rfl, TermsAt.snoc (t5.keep kL) (((TA.keep (R3.kn k4)).keep (R4.kn k5)).keep kL), rowAt_lst R5 k6 e6 nml, keep_new ((k3.trans k4).trans k5) k6 nl0, ?_, by rw [List.length_append, List.length_singleton]; omega, rfl⟩
          rw [← hE, hs, e5]
          rfl
      · rw [sqF_end h1] at h
        walk_at "wp"
        exact h l as H3 nl0 e3 TA R3 k3
end
end
end Lw

namespace Lw
open PySem PySem.Spec PyProof.Rows L2 Fw Htx Ob Tx Rd Lk
local macro_rules | `(tactic| walk_at "cond") => `(tactic| first | assumption | (with_reducible exact cdiv_small (by omega) (by omega)) | (with_reducible exact cmul_small (by omega) (by omega)) | (with_reducible exact cpow_mk (by omega) (by omega) (by omega)) | omega)
local macro_rules | `(tactic| walk_at "ne") => `(tactic| first | assumption | exact Ne.symm (by assumption) | exact ne_of_none (by assumption) (by assumption) | exact Ne.symm (ne_of_none (by assumption) (by assumption)))
local macro_rules | `(tactic| walk_at "at") => `(tactic| first
  | assumption
  | (with_reducible exact upd_same)
  | ((with_reducible refine' at_same ?hk ?hh); (case hk => assumption); (case hh => walk_at "at"))
  | ((with_reducible refine' at_keepT ?hk ?hh ?hd); (case hk => assumption); (case hh => walk_at "at"); (case hd => walk_at "at"))
  | ((with_reducible refine' at_keep ?hk ?hh ?hn); (case hk => assumption); (case hh => walk_at "at"); (case hn => walk_at "ne")))
local macro_rules | `(tactic| walk_at "hp") => `(tactic| first
  | assumption
  | (with_reducible exact FrL.sql (by assumption))
  | ((with_reducible refine' SqT.of ?hq); (case hq => walk_at "at")) | ((with_reducible refine' SqL.of ?hq); (case hq => walk_at "at"))
  | ((with_reducible refine' sql_same ?hk ?hh); (case hk => assumption); (case hh => walk_at "hp"))
  | ((with_reducible refine' sql_keep ?hk ?hh ?hn); (case hk => assumption); (case hh => walk_at "hp"); (case hn => walk_at "ne"))
  | ((with_reducible refine' sqt_same ?hk ?hh); (case hk => assumption); (case hh => walk_at "hp")))
local macro_rules | `(tactic| walk_at "wp1") => `(tactic| first
  | with_reducible refine w_mt ?_ | ((with_reducible refine' w_mt1 ?ha ?hl ?_); (case ha => walk_at "at"); (case hl => rfl))
  | with_reducible refine w_fld ?_ | ((with_reducible refine' w_fld1 ?ha (ClsF.cl (cs := clsL) (as := attL) (by assumption) _ ?hc) (ClsF.no (cs := clsL) (as := attL) (by assumption) _ _ ?hn) ?hl ?_); (case ha => walk_at "at"); (case hc => decide +kernel); (case hn => decide +kernel); (case hl => rfl))
  | with_reducible refine w_sfld ?_ | ((with_reducible refine' w_sfld1 ?ha (ClsF.cl (cs := clsL) (as := attL) (by assumption) _ ?hc) (ClsF.no (cs := clsL) (as := attL) (by assumption) _ _ ?hn) ?he ?hl ?_); (case ha => walk_at "at"); (case hc => decide +kernel); (case hn => decide +kernel); (case he => rfl); (case hl => rfl))
  | with_reducible refine w_lk ?_ | ((with_reducible refine' lkL ?ha ?_); (case ha => walk_at "at")) | with_reducible refine w_mkS ?_ | with_reducible refine w_mk ?_ | with_reducible refine w_bas ?_ | with_reducible refine w_m1 ?_ | with_reducible refine w_isS ?_ | with_reducible refine w_bm0 ?_ | with_reducible refine w_iS ?_ | with_reducible refine w_chain ?_
  | with_reducible refine w_inSg ?_ | with_reducible refine w_ninSg ?_
  | with_reducible refine w_rz ?_ | with_reducible refine w_calX ?_ | with_reducible refine w_calS ?_ | with_reducible refine w_row ?_
  | with_reducible refine w_seq ?_ | with_reducible refine w_set ?_ | with_reducible refine w_drop ?_ | with_reducible refine w_ret ?_ | with_reducible refine w_ifS ?_ | with_reducible refine w_next ?_
  | ((with_reducible refine' w_var ?hv ?_); (case hv => rfl)) | with_reducible refine w_c ?_
  | with_reducible refine w_op ?_ | with_reducible refine w_un ?_ | with_reducible refine w_cb ?_ | with_reducible refine w_cal ?_ | with_reducible refine w_cons ?_ | with_reducible refine w_nil ?_
  | with_reducible refine w_plus ?_ | with_reducible refine w_minus ?_ | with_reducible refine w_lt ?_ | with_reducible refine w_le ?_ | with_reducible refine w_gt ?_ | with_reducible refine w_ge ?_
  | with_reducible refine w_eqI ?_ | with_reducible refine w_neI ?_ | with_reducible refine w_eqB ?_ | with_reducible refine w_neB ?_ | with_reducible refine w_eqS ?_ | with_reducible refine w_neS ?_
  | with_reducible refine w_neg ?_ | with_reducible refine w_abs ?_ | with_reducible refine w_intB ?_ | with_reducible refine w_test ?_ | with_reducible refine w_tB ?_ | with_reducible refine w_bl ?_
  | with_reducible refine w_and ?_ | with_reducible refine w_or ?_ | with_reducible refine w_not ?_ | with_reducible refine w_andV ?_ | with_reducible refine w_orV ?_ | with_reducible refine w_notV ?_ | with_reducible refine w_ifE ?_
  | with_reducible refine w_nyes ?_ | with_reducible refine w_nno ?_ | with_reducible refine w_yes ?_ | with_reducible refine w_no ?_
  | ((with_reducible refine' w_ixL ?ha ?hb ?_); (case ha => walk_at "hp"); (case hb => rfl)) | ((with_reducible refine' w_ixT ?ha ?hb ?_); (case ha => walk_at "hp"); (case hb => rfl))
  | ((with_reducible refine' w_lenL ?ha ?_); (case ha => walk_at "hp")) | ((with_reducible refine' w_lenT ?ha ?_); (case ha => walk_at "hp"))
  | with_reducible refine w_min2 ?_ | with_reducible refine w_max2 ?_ | with_reducible refine w_bm ?_ | with_reducible refine w_lc ?_ | ((with_reducible refine' w_tyL ?ha ?_); (case ha => walk_at "at"))
  | with_reducible refine isi_ii ?_ | with_reducible refine isi_ib ?_ | with_reducible refine isi_bb ?_ | with_reducible refine isi_ss ?_
  | ((with_reducible refine' isi_tt ?ha ?_); (case ha => walk_at "at")) | ((with_reducible refine' isi_ll ?ha ?_); (case ha => walk_at "at"))
  | with_reducible refine w_par ?_ | with_reducible refine w_par2 ?_ | with_reducible refine w_for ?_ | with_reducible refine w_iL ?_ | with_reducible refine w_iT ?_ | with_reducible refine w_iR1 ?_ | with_reducible refine w_iR2 ?_
  | with_reducible refine w_tup ?_ | with_reducible refine w_lst ?_
  | with_reducible refine w_asg ?_ | with_reducible refine w_gname ?_ | with_reducible refine w_gcons ?_ | with_reducible refine w_gnil ?_ | with_reducible refine w_gsub ?_
  | ((with_reducible refine' w_gtup ?ha ?hb ?_); (case ha => walk_at "hp"); (case hb => rfl))
  | ((with_reducible refine' w_fdiv ?hc ?_); (case hc => walk_at "cond")) | ((with_reducible refine' w_mul ?hc ?_); (case hc => walk_at "cond"))
  | ((with_reducible refine' w_mod ?hc ?_); (case hc => walk_at "cond")) | ((with_reducible refine' w_pow ?hc ?_); (case hc => walk_at "cond")))
local macro_rules | `(tactic| walk_at "wp") => `(tactic| repeat walk_at "wp1")
section
variable {P : Program} {w : World} {K : PySem.W.Frag} {mg : Str → Option Value} {base : Heap}
/-! ### the blanks ahead -/
def aheadM (z : Str) : Nat := z.length - (Txt.lstripChars z " ").length
def depthM (z : Str) : Option Nat := if aheadM z / 2 * 2 ≠ aheadM z ∨ 5 < aheadM z / 2 then none else some (aheadM z / 2)
def spDepth (K : PySem.W.Frag) : Sp := fun vs H Q E => ∃ (z : Str) (n : Int), vs = [.str z, .int n] ∧ z.length ≤ 10000 ∧
  match depthM z with
  | some d => Q (.int d) H
  | none => BadE K E n H
section
variable (T : Fre mg) (CS : Cst K mg) (Z_BadText : Exk K mg "BadText") (ini2 : IniOk P w K mg base [])
include T CS Z_BadText ini2
theorem c_depth_of (F : Def K mg "depth_of" s_depth_of) : Cal P w K mg base 3 "depth_of" ["text", "row"] (spDepth K) := by
  refine cal_of F sc_depth_of b_depth_of (fun vs H Q E h => ?_) (fun cdv A outer s H vs Q E hr h => ?_)
  · obtain ⟨_, _, rfl, _⟩ := h
    rfl
  · obtain ⟨z, n, rfl, hz, h⟩ := h
    have g_MOST_DEEP := CS.g_MOST_DEEP
    have sl : sizeLine = 16777216 := sizeLine_eq
    have hle : (Txt.lstripChars z " ").length ≤ z.length := PyProof.Rows.len_lstripChars z " "
    have tk := L2N.takes_of (X := cxOf (L2N.CX P w) P w K mg base ["text", "row", "ahead"] "depth_of" (defScope s_depth_of) (He.ga K "depth_of") cdv A outer s H E) (E := E) rfl rfl rfl rfl
    refine ⟨_, (pss_cons (ps_set (i := 2) sc_depth_of.nd rfl (loc_of rfl) (pe_op o_sub (pe_callB c_lenT (by rfl) T.f_len (by decide +kernel) (pa_cons (pv 0) pa_nil)) (pe_callB c_lenT (by rfl) T.f_len (by decide +kernel) (pa_cons (pe_m1 PySem.F.slot_str_lstrip PySem.F.type_str_lstrip m_lstrip (pv 0) pe_str) pa_nil))))
      (pss_cons (ps_if (PW.pt (pw_or (pt_cmpR op_ne (pe_op o_mul (pe_op o_fdiv (pv 2) pe_int) pe_int) (pv 2) (nomark _)) (pw_or1 (pt_cmpR o_gt (pe_op o_fdiv (pv 2) pe_int) (C8.pe_gc (v := .int 5) (by rfl) g_MOST_DEEP) (nomark _))))) (pss_one (ps_rz (dv := []) Z_BadText ini2 rfl hr (by omega) tk (pa_cons pe_str (pa_cons (pv 1) pa_nil)))) pss_nil)
      (pss_one (ps_ret (pe_op o_fdiv (pv 2) pe_int))))), ?_⟩
    refine w_start [some (.str z), some (.int n), none] rfl ?_
    try dsimp only [cxOf]
    unfold depthM at h
    have ea : (z.length : Int) - ((Txt.lstripChars z " ").length : Int) = (aheadM z : Int) := by
      unfold aheadM
      omega
    have e2 : ((aheadM z : Int)).fdiv 2 = ((aheadM z / 2 : Nat) : Int) := by
      rw [Int.fdiv_eq_ediv_of_nonneg _ (by omega)]
      omega
    have c2 : CFdiv (aheadM z : Int) 2 := ⟨by decide, by decide⟩
    have ha : aheadM z ≤ 10000 := by
      unfold aheadM
      omega
    walk_at "wp"
    refine w_lenT (by omega) ?_
    walk_at "wp"
    refine w_lstrip (by omega) ?_
    walk_at "wp"
    refine w_lenT (by omega) ?_
    walk_at "wp"
    rw [ea]
    walk_at "wp"
    rw [e2]
    refine w_decN (fun h1 => ?_) (fun h1 => ?_)
    · rw [if_pos (.inl (by omega))] at h
      walk_at "wp"
      exact rzL Z_BadText _ _ rfl fun d H5 nd ed sd => h d H5 nd ed sd
    · walk_at "wp"
      rw [e2]
      refine w_dec (fun h2 => ?_) (fun h2 => ?_)
      · rw [if_pos (.inr (by omega))] at h
        walk_at "wp"
        exact rzL Z_BadText _ _ rfl fun d H5 nd ed sd => h d H5 nd ed sd
      · rw [if_neg (by omega)] at h
        walk_at "wp"
        rw [e2]
        exact h
end
end
end Lw

namespace Lw
open PySem PySem.Spec PyProof.Rows L2 Fw Htx Ob Tx Rd Lk
local macro_rules | `(tactic| walk_at "cond") => `(tactic| first | assumption | (with_reducible exact cdiv_small (by omega) (by omega)) | (with_reducible exact cmul_small (by omega) (by omega)) | (with_reducible exact cpow_mk (by omega) (by omega) (by omega)) | omega)
local macro_rules | `(tactic| walk_at "ne") => `(tactic| first | assumption | exact Ne.symm (by assumption) | exact ne_of_none (by assumption) (by assumption) | exact Ne.symm (ne_of_none (by assumption) (by assumption)))
local macro_rules | `(tactic| walk_at "at") => `(tactic| first
  | assumption
  | (with_reducible exact upd_same)
  | ((with_reducible refine' at_same ?hk ?hh); (case hk => assumption); (case hh => walk_at "at"))
  | ((with_reducible refine' at_keepT ?hk ?hh ?hd); (case hk => assumption); (case hh => walk_at "at"); (case hd => walk_at "at"))
  | ((with_reducible refine' at_keep ?hk ?hh ?hn); (case hk => assumption); (case hh => walk_at "at"); (case hn => walk_at "ne")))
local macro_rules | `(tactic| walk_at "hp") => `(tactic| first
  | assumption
  | (with_reducible exact FrL.sql (by assumption))
  | ((with_reducible refine' SqT.of ?hq); (case hq => walk_at "at")) | ((with_reducible refine' SqL.of ?hq); (case hq => walk_at "at"))
  | ((with_reducible refine' sql_same ?hk ?hh); (case hk => assumption); (case hh => walk_at "hp"))
  | ((with_reducible refine' sql_keep ?hk ?hh ?hn); (case hk => assumption); (case hh => walk_at "hp"); (case hn => walk_at "ne"))
  | ((with_reducible refine' sqt_same ?hk ?hh); (case hk => assumption); (case hh => walk_at "hp")))
local macro_rules | `(tactic| walk_at "wp1") => `(tactic| first
  | with_reducible refine w_mt ?_ | ((with_reducible refine' w_mt1 ?ha ?hl ?_); (case ha => walk_at "at"); (case hl => rfl))
  | with_reducible refine w_fld ?_ | ((with_reducible refine' w_fld1 ?ha (ClsF.cl (cs := clsL) (as := attL) (by assumption) _ ?hc) (ClsF.no (cs := clsL) (as := attL) (by assumption) _ _ ?hn) ?hl ?_); (case ha => walk_at "at"); (case hc => decide +kernel); (case hn => decide +kernel); (case hl => rfl))
  | with_reducible refine w_sfld ?_ | ((with_reducible refine' w_sfld1 ?ha (ClsF.cl (cs := clsL) (as := attL) (by assumption) _ ?hc) (ClsF.no (cs := clsL) (as := attL) (by assumption) _ _ ?hn) ?he ?hl ?_); (case ha => walk_at "at"); (case hc => decide +kernel); (case hn => decide +kernel); (case he => rfl); (case hl => rfl))
  | with_reducible refine w_lk ?_ | ((with_reducible refine' lkL ?ha ?_); (case ha => walk_at "at")) | with_reducible refine w_mkS ?_ | with_reducible refine w_mk ?_ | with_reducible refine w_bas ?_ | with_reducible refine w_m1 ?_ | with_reducible refine w_isS ?_ | with_reducible refine w_bm0 ?_ | with_reducible refine w_iS ?_ | with_reducible refine w_chain ?_
  | with_reducible refine w_inSg ?_ | with_reducible refine w_ninSg ?_
  | with_reducible refine w_rz ?_ | with_reducible refine w_calX ?_ | with_reducible refine w_calS ?_ | with_reducible refine w_row ?_
  | with_reducible refine w_seq ?_ | with_reducible refine w_set ?_ | with_reducible refine w_drop ?_ | with_reducible refine w_ret ?_ | with_reducible refine w_ifS ?_ | with_reducible refine w_next ?_
  | ((with_reducible refine' w_var ?hv ?_); (case hv => rfl)) | with_reducible refine w_c ?_
  | with_reducible refine w_op ?_ | with_reducible refine w_un ?_ | with_reducible refine w_cb ?_ | with_reducible refine w_cal ?_ | with_reducible refine w_cons ?_ | with_reducible refine w_nil ?_
  | with_reducible refine w_plus ?_ | with_reducible refine w_minus ?_ | with_reducible refine w_lt ?_ | with_reducible refine w_le ?_ | with_reducible refine w_gt ?_ | with_reducible refine w_ge ?_
  | with_reducible refine w_eqI ?_ | with_reducible refine w_neI ?_ | with_reducible refine w_eqB ?_ | with_reducible refine w_neB ?_ | with_reducible refine w_eqS ?_ | with_reducible refine w_neS ?_
  | with_reducible refine w_neg ?_ | with_reducible refine w_abs ?_ | with_reducible refine w_intB ?_ | with_reducible refine w_test ?_ | with_reducible refine w_tB ?_ | with_reducible refine w_bl ?_
  | with_reducible refine w_and ?_ | with_reducible refine w_or ?_ | with_reducible refine w_not ?_ | with_reducible refine w_andV ?_ | with_reducible refine w_orV ?_ | with_reducible refine w_notV ?_ | with_reducible refine w_ifE ?_
  | with_reducible refine w_nyes ?_ | with_reducible refine w_nno ?_ | with_reducible refine w_yes ?_ | with_reducible refine w_no ?_
  | ((with_reducible refine' w_ixL ?ha ?hb ?_); (case ha => walk_at "hp"); (case hb => rfl)) | ((with_reducible refine' w_ixT ?ha ?hb ?_); (case ha => walk_at "hp"); (case hb => rfl))
  | ((with_reducible refine' w_lenL ?ha ?_); (case ha => walk_at "hp")) | ((with_reducible refine' w_lenT ?ha ?_); (case ha => walk_at "hp"))
  | with_reducible refine w_min2 ?_ | with_reducible refine w_max2 ?_ | with_reducible refine w_bm ?_ | with_reducible refine w_lc ?_ | ((with_reducible refine' w_tyL ?ha ?_); (case ha => walk_at "at"))
  | with_reducible refine isi_ii ?_ | with_reducible refine isi_ib ?_ | with_reducible refine isi_bb ?_ | with_reducible refine isi_ss ?_
  | ((with_reducible refine' isi_tt ?ha ?_); (case ha => walk_at "at")) | ((with_reducible refine' isi_ll ?ha ?_); (case ha => walk_at "at"))
  | with_reducible refine w_par ?_ | with_reducible refine w_par2 ?_ | with_reducible refine w_for ?_ | with_reducible refine w_iL ?_ | with_reducible refine w_iT ?_ | with_reducible refine w_iR1 ?_ | with_reducible refine w_iR2 ?_
  | with_reducible refine w_tup ?_ | with_reducible refine w_lst ?_
  | with_reducible refine w_asg ?_ | with_reducible refine w_gname ?_ | with_reducible refine w_gcons ?_ | with_reducible refine w_gnil ?_ | with_reducible refine w_gsub ?_
  | ((with_reducible refine' w_gtup ?ha ?hb ?_); (case ha => walk_at "hp"); (case hb => rfl))
  | ((with_reducible refine' w_fdiv ?hc ?_); (case hc => walk_at "cond")) | ((with_reducible refine' w_mul ?hc ?_); (case hc => walk_at "cond"))
  | ((with_reducible refine' w_mod ?hc ?_); (case hc => walk_at "cond")) | ((with_reducible refine' w_pow ?hc ?_); (case hc => walk_at "cond")))
local macro_rules | `(tactic| walk_at "wp") => `(tactic| repeat walk_at "wp1")
section
variable {P : Program} {w : World} {K : PySem.W.Frag} {mg : Str → Option Value} {base : Heap}
/-! ### a new row -/
def spRowI (K : PySem.W.Frag) : Sp := fun vs H Q _ => ∃ x dx ml, ∃ n : Int, vs = [.ref x, .ref ml, .int n] ∧ H x = some (.ins (He.ga K "Row") dx []) ∧
  ∀ H', H' x = some (.ins (He.ga K "Row") dx [("marks", .ref ml), ("at", .int (0 : Nat)), ("number", .int n), ("brackets", .int (0 : Nat))]) → Fw.Keep x H H' → Q .non H'
/-! ### the reader in the heap -/
def RowsAt (H : Hp) : List Addr → List (Nat × List Str) → Prop
  | [], [] => True
  | a :: as, (d, ms) :: r => (∃ ml, H a = some (.tup [.int (d : Int), .ref ml]) ∧ H ml = some (.lst (ms.map V.str)) ∧ MksOk ms ∧ ms ≠ []) ∧ RowsAt H as r
  | _, _ => False
def RdrAt (K : PySem.W.Frag) (H : Hp) (rd : Addr) (rows : List (Nat × List Str)) (p : Nat) : Prop := rows.length ≤ 60 ∧ ∃ dx l as, H rd = some (.ins (He.ga K "Reader") dx [("rows", .ref l), ("at", .int p)]) ∧ H l = some (.lst (as.map V.ref)) ∧ RowsAt H as rows
/-- the same, by its addresses; no row stands deeper than five blocks in -/
def RdrA (K : PySem.W.Frag) (H : Hp) (rd dx l : Addr) (as : List Addr) (rows : Rows) (p : Nat) : Prop := rows.length ≤ 60 ∧ (∀ q ∈ rows, q.1 ≤ 5) ∧ H rd = some (.ins (He.ga K "Reader") dx [("rows", .ref l), ("at", .int p)]) ∧ H l = some (.lst (as.map V.ref)) ∧ RowsAt H as rows
theorem RdrA.at {H : Hp} {rd dx l : Addr} {as : List Addr} {rows : Rows} {p : Nat} (h : RdrA K H rd dx l as rows p) : RdrAt K H rd rows p := ⟨h.1, dx, l, as, h.2.2⟩
theorem RowsAt.len {H : Hp} : ∀ {as : List Addr} {rows : List (Nat × List Str)}, RowsAt H as rows → as.length = rows.length
  | [], [], _ => rfl
  | _ :: _, (_, _) :: _, h => congrArg Nat.succ (RowsAt.len h.2)
  | [], _ :: _, h => h.elim
  | _ :: _, [], h => h.elim
theorem RowsAt.get {H : Hp} : ∀ {as : List Addr} {rows : List (Nat × List Str)} {i : Nat} {d : Nat} {ms : List Str}, RowsAt H as rows → rows[i]? = some (d, ms) →
    ∃ a ml, as[i]? = some a ∧ H a = some (.tup [.int (d : Int), .ref ml]) ∧ H ml = some (.lst (ms.map V.str)) ∧ MksOk ms ∧ ms ≠ []
  | a :: as, (d', ms') :: r, 0, d, ms, h, e => by
    cases e
    obtain ⟨⟨ml, h1, h2, h3⟩, _⟩ := h
    exact ⟨a, ml, rfl, h1, h2, h3⟩
  | _ :: as, (_, _) :: r, i + 1, d, ms, h, e => by
    obtain ⟨a, ml, h1, h2⟩ := RowsAt.get (as := as) (rows := r) (i := i) (d := d) (ms := ms) h.2 e
    exact ⟨a, ml, h1, h2⟩
  | [], [], _, _, _, _, e => by cases e
  | [], _ :: _, _, _, _, h, _ => h.elim
  | _ :: _, [], _, _, _, h, _ => h.elim
def spFirst (K : PySem.W.Frag) : Sp := fun vs H Q _ => ∃ rd rows p, ∃ d : Nat, vs = [.ref rd, .int (d : Int)] ∧ RdrAt K H rd rows p ∧ Q (.str (firstM rows p d)) H
section
variable (T : Fre mg) (CF : ClsF K clsL attL) (MF : MthF K)
include CF
theorem k_Row (F : MDef K "Row" "__init__" "Row.__init__" s_Row___init__) (mk : Mk K (He.ga K "Row") (He.ma K (He.ga K "Row") "__init__")) (g : mg "Row" = some (.ref (He.ga K "Row"))) : Mak P w K mg base 1 "Row" (spRowI K) := by
  refine mak_of F mk g sc_Row___init__ b_Row___init__ (fun vs H Q E h => ?_) (fun cdv A outer s H vs Q E hr h => ?_)
  · obtain ⟨_, _, _, _, rfl, _⟩ := h
    rfl
  · obtain ⟨x, dx, ml, n, rfl, ex, h⟩ := h
    refine ⟨_, (pss_cons (ps_fld (pv 0) (pv 1) rfl)
      (pss_cons (ps_fld (pv 0) pe_int rfl)
      (pss_cons (ps_fld (pv 0) (pv 2) rfl)
      (pss_one (ps_fld (pv 0) pe_int rfl))))), ?_⟩
    refine w_start [some (.ref x), some (.ref ml), some (.int n)] rfl ?_
    try dsimp only [cxOf]
    walk_at "wp"
    refine fun H1 e1 k1 => ?_
    walk_at "wp"
    refine fun H2 e2 k2 => ?_
    walk_at "wp"
    refine fun H3 e3 k3 => ?_
    walk_at "wp"
    refine fun H4 e4 k4 => ?_
    exact h H4 e4 (((k1.trans k2).trans k3).trans k4)
include T MF
theorem m_Reader_first (F : MDef K "Reader" "first" "Reader.first" s_Reader_first) : Met P w K mg base 1 "Reader" "first" (spFirst K) := by
  refine met_of F (CF.cl _ (by decide +kernel)) (MF.m _ _ (by decide +kernel)) sc_Reader_first b_Reader_first (fun vs H Q E h => ?_) (fun cdv A outer s H vs Q E hr h => ?_)
  · obtain ⟨_, _, _, _, rfl, _⟩ := h
    rfl
  · obtain ⟨rd, rows, p, d, rfl, ⟨hl, dx, l, as, er, el, RA⟩, q⟩ := h
    refine ⟨_, (pss_cons (ps_if (PW.pt (pw_and (pt_cmpR o_lt (pe_fld (pv 0) rfl) (pe_callB (c_lenK (K := K) rfl) (by rfl) T.f_len (by decide +kernel) (pa_cons (pe_fld (pv 0) rfl) pa_nil)) (nomark _)) (pw_and1 (pt_cmpR op_eq (pe_ix (ixT (K := K) rfl) (pe_ix (ixL (K := K) rfl) (pe_fld (pv 0) rfl) (pe_fld (pv 0) rfl) (fun _ _ => rfl)) pe_int (fun _ _ => rfl)) (pv 1) (nomark _))))) (pss_one (ps_ret (pe_ix (ixL (K := K) rfl) (pe_ix (ixT (K := K) rfl) (pe_ix (ixL (K := K) rfl) (pe_fld (pv 0) rfl) (pe_fld (pv 0) rfl) (fun _ _ => rfl)) pe_int (fun _ _ => rfl)) pe_int (fun _ _ => rfl)))) pss_nil)
      (pss_one (ps_ret pe_str))), ?_⟩
    refine w_start [some (.ref rd), some (.int (d : Int))] rfl ?_
    try dsimp only [cxOf]
    walk_at "wp"
    rw [List.length_map, RA.len]
    unfold firstM at q
    refine w_dec (fun h1 => ?_) (fun h1 => ?_)
    · have hp : p < rows.length := by omega
      obtain ⟨⟨d', ms⟩, e0⟩ : ∃ q, rows[p]? = some q := ⟨_, List.getElem?_eq_getElem hp⟩
      rw [e0] at q
      obtain ⟨a, ml, ea, eh, em, ok, ne⟩ := RA.get e0
      have ei : atI (as.map V.ref) (p : Int) = some (.ref a) := atI_nat (by rw [List.getElem?_map, ea]; rfl)
      have hne : 0 < ms.length := List.length_pos_iff.mpr ne
      walk_at "wp"
      refine w_ixL (SqL.of el) ei ?_
      walk_at "wp"
      refine w_dec (fun h2 => ?_) (fun h2 => ?_)
      · have hd : d' = d := by omega
        dsimp only at q
        rw [if_pos hd] at q
        walk_at "wp"
        refine w_ixL (SqL.of el) ei ?_
        walk_at "wp"
        exact w_ixL (SqL.of em) (at_now (p := 0) hne) q
      · have hd : ¬ d' = d := by omega
        dsimp only at q
        rw [if_neg hd] at q
        walk_at "wp"
        exact q
    · have e0 : rows[p]? = none := List.getElem?_eq_none (by omega)
      rw [e0] at q
      walk_at "wp"
      exact q
end
end
end Lw

namespace Lw
open PySem PySem.Spec PyProof.Rows L2 Fw Htx Ob Tx Rd Lk
local macro_rules | `(tactic| walk_at "cond") => `(tactic| first | assumption | (with_reducible exact cdiv_small (by omega) (by omega)) | (with_reducible exact cmul_small (by omega) (by omega)) | (with_reducible exact cpow_mk (by omega) (by omega) (by omega)) | omega)
local macro_rules | `(tactic| walk_at "ne") => `(tactic| first | assumption | exact Ne.symm (by assumption) | exact ne_of_none (by assumption) (by assumption) | exact Ne.symm (ne_of_none (by assumption) (by assumption)))
local macro_rules | `(tactic| walk_at "at") => `(tactic| first
  | assumption
  | (with_reducible exact upd_same)
  | ((with_reducible refine' at_same ?hk ?hh); (case hk => assumption); (case hh => walk_at "at"))
  | ((with_reducible refine' at_keepT ?hk ?hh ?hd); (case hk => assumption); (case hh => walk_at "at"); (case hd => walk_at "at"))
  | ((with_reducible refine' at_keep ?hk ?hh ?hn); (case hk => assumption); (case hh => walk_at "at"); (case hn => walk_at "ne")))
local macro_rules | `(tactic| walk_at "hp") => `(tactic| first
  | assumption
  | (with_reducible exact FrL.sql (by assumption))
  | ((with_reducible refine' SqT.of ?hq); (case hq => walk_at "at")) | ((with_reducible refine' SqL.of ?hq); (case hq => walk_at "at"))
  | ((with_reducible refine' sql_same ?hk ?hh); (case hk => assumption); (case hh => walk_at "hp"))
  | ((with_reducible refine' sql_keep ?hk ?hh ?hn); (case hk => assumption); (case hh => walk_at "hp"); (case hn => walk_at "ne"))
  | ((with_reducible refine' sqt_same ?hk ?hh); (case hk => assumption); (case hh => walk_at "hp")))
local macro_rules | `(tactic| walk_at "wp1") => `(tactic| first
  | with_reducible refine w_mt ?_ | ((with_reducible refine' w_mt1 ?ha ?hl ?_); (case ha => walk_at "at"); (case hl => rfl))
  | with_reducible refine w_fld ?_ | ((with_reducible refine' w_fld1 ?ha (ClsF.cl (cs := clsL) (as := attL) (by assumption) _ ?hc) (ClsF.no (cs := clsL) (as := attL) (by assumption) _ _ ?hn) ?hl ?_); (case ha => walk_at "at"); (case hc => decide +kernel); (case hn => decide +kernel); (case hl => rfl))
  | with_reducible refine w_sfld ?_ | ((with_reducible refine' w_sfld1 ?ha (ClsF.cl (cs := clsL) (as := attL) (by assumption) _ ?hc) (ClsF.no (cs := clsL) (as := attL) (by assumption) _ _ ?hn) ?he ?hl ?_); (case ha => walk_at "at"); (case hc => decide +kernel); (case hn => decide +kernel); (case he => rfl); (case hl => rfl))
  | with_reducible refine w_lk ?_ | ((with_reducible refine' lkL ?ha ?_); (case ha => walk_at "at")) | with_reducible refine w_mkS ?_ | with_reducible refine w_mk ?_ | with_reducible refine w_bas ?_ | with_reducible refine w_m1 ?_ | with_reducible refine w_isS ?_ | with_reducible refine w_bm0 ?_ | with_reducible refine w_iS ?_ | with_reducible refine w_chain ?_
  | with_reducible refine w_inSg ?_ | with_reducible refine w_ninSg ?_
  | with_reducible refine w_rz ?_ | with_reducible refine w_calX ?_ | with_reducible refine w_calS ?_ | with_reducible refine w_row ?_
  | with_reducible refine w_seq ?_ | with_reducible refine w_set ?_ | with_reducible refine w_drop ?_ | with_reducible refine w_ret ?_ | with_reducible refine w_ifS ?_ | with_reducible refine w_next ?_
  | ((with_reducible refine' w_var ?hv ?_); (case hv => rfl)) | with_reducible refine w_c ?_
  | with_reducible refine w_op ?_ | with_reducible refine w_un ?_ | with_reducible refine w_cb ?_ | with_reducible refine w_cal ?_ | with_reducible refine w_cons ?_ | with_reducible refine w_nil ?_
  | with_reducible refine w_plus ?_ | with_reducible refine w_minus ?_ | with_reducible refine w_lt ?_ | with_reducible refine w_le ?_ | with_reducible refine w_gt ?_ | with_reducible refine w_ge ?_
  | with_reducible refine w_eqI ?_ | with_reducible refine w_neI ?_ | with_reducible refine w_eqB ?_ | with_reducible refine w_neB ?_ | with_reducible refine w_eqS ?_ | with_reducible refine w_neS ?_
  | with_reducible refine w_neg ?_ | with_reducible refine w_abs ?_ | with_reducible refine w_intB ?_ | with_reducible refine w_test ?_ | with_reducible refine w_tB ?_ | with_reducible refine w_bl ?_
  | with_reducible refine w_and ?_ | with_reducible refine w_or ?_ | with_reducible refine w_not ?_ | with_reducible refine w_andV ?_ | with_reducible refine w_orV ?_ | with_reducible refine w_notV ?_ | with_reducible refine w_ifE ?_
  | with_reducible refine w_nyes ?_ | with_reducible refine w_nno ?_ | with_reducible refine w_yes ?_ | with_reducible refine w_no ?_
  | ((with_reducible refine' w_ixL ?ha ?hb ?_); (case ha => walk_at "hp"); (case hb => rfl)) | ((with_reducible refine' w_ixT ?ha ?hb ?_); (case ha => walk_at "hp"); (case hb => rfl))
  | ((with_reducible refine' w_lenL ?ha ?_); (case ha => walk_at "hp")) | ((with_reducible refine' w_lenT ?ha ?_); (case ha => walk_at "hp"))
  | with_reducible refine w_min2 ?_ | with_reducible refine w_max2 ?_ | with_reducible refine w_bm ?_ | with_reducible refine w_lc ?_ | ((with_reducible refine' w_tyL ?ha ?_); (case ha => walk_at "at"))
  | with_reducible refine isi_ii ?_ | with_reducible refine isi_ib ?_ | with_reducible refine isi_bb ?_ | with_reducible refine isi_ss ?_
  | ((with_reducible refine' isi_tt ?ha ?_); (case ha => walk_at "at")) | ((with_reducible refine' isi_ll ?ha ?_); (case ha => walk_at "at"))
  | with_reducible refine w_par ?_ | with_reducible refine w_par2 ?_ | with_reducible refine w_for ?_ | with_reducible refine w_iL ?_ | with_reducible refine w_iT ?_ | with_reducible refine w_iR1 ?_ | with_reducible refine w_iR2 ?_
  | with_reducible refine w_tup ?_ | with_reducible refine w_lst ?_
  | with_reducible refine w_asg ?_ | with_reducible refine w_gname ?_ | with_reducible refine w_gcons ?_ | with_reducible refine w_gnil ?_ | with_reducible refine w_gsub ?_
  | ((with_reducible refine' w_gtup ?ha ?hb ?_); (case ha => walk_at "hp"); (case hb => rfl))
  | ((with_reducible refine' w_fdiv ?hc ?_); (case hc => walk_at "cond")) | ((with_reducible refine' w_mul ?hc ?_); (case hc => walk_at "cond"))
  | ((with_reducible refine' w_mod ?hc ?_); (case hc => walk_at "cond")) | ((with_reducible refine' w_pow ?hc ?_); (case hc => walk_at "cond")))
local macro_rules | `(tactic| walk_at "wp") => `(tactic| repeat walk_at "wp1")
section
variable {P : Program} {w : World} {K : PySem.W.Frag} {mg : Str → Option Value} {base : Heap}
/-! ### the reader goes on -/
theorem RowsAt.keep {H H' : Hp} (kt : ∀ a xs, H a = some (.tup xs) → H' a = some (.tup xs)) (kl : ∀ a xs, H a = some (.lst xs) → H' a = some (.lst xs)) : ∀ {as : List Addr} {rows : List (Nat × List Str)}, RowsAt H as rows → RowsAt H' as rows
  | [], [], _ => trivial
  | _ :: as, (_, _) :: r, h => by
    obtain ⟨⟨ml, h1, h2, h3⟩, h4⟩ := h
    exact ⟨⟨ml, kt _ _ h1, kl _ _ h2, h3⟩, RowsAt.keep kt kl (as := as) (rows := r) h4⟩
  | [], _ :: _, h => h.elim
  | _ :: _, [], h => h.elim
/-- the reader behind its own changes -/
theorem RdrA.on {H H' : Hp} {rd dx l : Addr} {as : List Addr} {rows : Rows} {p p' : Nat} (R : RdrA K H rd dx l as rows p) (k : Fw.Keep rd H H') (e : H' rd = some (.ins (He.ga K "Reader") dx [("rows", .ref l), ("at", .int p')])) : RdrA K H' rd dx l as rows p' := by
  obtain ⟨h1, h2, er, el, RA⟩ := R
  exact ⟨h1, h2, e, k _ _ (ne_of el er (by intro z; cases z)) el, RA.keep (fun a xs h => k _ _ (ne_of h er (by intro z; cases z)) h) (fun a xs h => k _ _ (ne_of h er (by intro z; cases z)) h)⟩
theorem RdrA.same {H H' : Hp} {rd dx l : Addr} {as : List Addr} {rows : Rows} {p : Nat} (R : RdrA K H rd dx l as rows p) (s : Same H H') : RdrA K H' rd dx l as rows p := R.on s.toKeep (s _ _ R.2.2.1)
theorem RdrA.some {H : Hp} {rd dx l : Addr} {as : List Addr} {rows : Rows} {p : Nat} (R : RdrA K H rd dx l as rows p) : ∃ o, H rd = some o := ⟨_, R.2.2.1⟩
def spTaken (K : PySem.W.Frag) : Sp := fun vs H Q _ => ∃ rd dx l as rows p d ms, vs = [.ref rd] ∧ RdrA K H rd dx l as rows p ∧ rows[p]? = some (d, ms) ∧
  ∀ r ml H', H r = none → RowAt K H' r ml ms 0 ((p + 1 : Nat) : Int) 0 → RdrA K H' rd dx l as rows (p + 1) → Fw.Keep rd H H' → Q (.ref r) H'
section
variable (T : Fre mg) (CF : ClsF K clsL attL) (MF : MthF K)
include T CF MF
theorem m_Reader_taken (F : MDef K "Reader" "taken" "Reader.taken" s_Reader_taken) (k_Row : Mak P w K mg base 1 "Row" (spRowI K)) : Met P w K mg base 3 "Reader" "taken" (spTaken K) := by
  refine met_of F (CF.cl _ (by decide +kernel)) (MF.m _ _ (by decide +kernel)) sc_Reader_taken b_Reader_taken (fun vs H Q E h => ?_) (fun cdv A outer s H vs Q E hr h => ?_)
  · obtain ⟨_, _, _, _, _, _, _, _, rfl, _⟩ := h
    rfl
  · obtain ⟨rd, dx, l, as, rows, p, d, ms, rfl, R, e0, q⟩ := h
    obtain ⟨hl, hdp, er, el, RA⟩ := id R
    obtain ⟨a, ml, ea, eh, em, ok, ne⟩ := RA.get e0
    have ei : atI (as.map V.ref) (p : Int) = some (.ref a) := atI_nat (by rw [List.getElem?_map, ea]; rfl)
    have tk := L2N.takes_of (X := cxOf (L2N.CX P w) P w K mg base ["self", "row"] "Reader.taken" (defScope s_Reader_taken) (He.ma K (He.ga K "Reader") "taken") cdv A outer s H E) (E := E) rfl rfl rfl rfl
    have pc := L2N.passes_call tk (fun _ _ _ _ h => h) (E := E)
    refine ⟨_, (pss_cons (ps_set (i := 1) sc_Reader_taken.nd rfl (loc_of rfl) (pe_mk k_Row hr (by omega) pc (pa_cons (pe_ix (ixT (K := K) rfl) (pe_ix (ixL (K := K) rfl) (pe_fld (pv 0) rfl) (pe_fld (pv 0) rfl) (fun _ _ => rfl)) pe_int (fun _ _ => rfl)) (pa_cons (pe_op o_add (pe_fld (pv 0) rfl) pe_int) pa_nil))))
      (pss_cons (ps_fld (pv 0) (pe_op o_add (pe_fld (pv 0) rfl) pe_int) rfl)
      (pss_one (ps_ret (pv 1))))), ?_⟩
    refine w_start [some (.ref rd), none] rfl ?_
    try dsimp only [cxOf]
    walk_at "wp"
    refine w_ixL (SqL.of el) ei ?_
    walk_at "wp"
    refine fun r dr H1 nr e1 s1 => ?_
    refine ⟨r, dr, ml, _, rfl, e1, fun H2 e2 k2 => ⟨rfl, ?_⟩⟩
    have s2 : Same H H2 := Keep.toSame s1 k2 nr
    have er2 := s2 _ _ er
    have em2 := s2 _ _ em
    walk_at "wp"
    refine fun H3 e3 k3 => ?_
    walk_at "wp"
    have nrd : r ≠ rd := (ne_of_none er nr).symm
    have ep : ((p : Int) + 1) = ((p + 1 : Nat) : Int) := by omega
    rw [ep] at e2 e3
    exact q r ml H3 nr ⟨ok, dr, k3 _ _ nrd e2, k3 _ _ (ne_of em2 er2 (by intro z; cases z)) em2⟩ (R.on (s2.keep k3) e3) (s2.keep k3)
end
end
end Lw

namespace Lw
open PySem PySem.Spec PyProof.Rows L2 Fw Htx Ob Tx Rd Lk
local macro_rules | `(tactic| walk_at "cond") => `(tactic| first | assumption | (with_reducible exact cdiv_small (by omega) (by omega)) | (with_reducible exact cmul_small (by omega) (by omega)) | (with_reducible exact cpow_mk (by omega) (by omega) (by omega)) | omega)
local macro_rules | `(tactic| walk_at "ne") => `(tactic| first | assumption | exact Ne.symm (by assumption) | exact ne_of_none (by assumption) (by assumption) | exact Ne.symm (ne_of_none (by assumption) (by assumption)))
local macro_rules | `(tactic| walk_at "at") => `(tactic| first
  | assumption
  | (with_reducible exact upd_same)
  | ((with_reducible refine' at_same ?hk ?hh); (case hk => assumption); (case hh => walk_at "at"))
  | ((with_reducible refine' at_keepT ?hk ?hh ?hd); (case hk => assumption); (case hh => walk_at "at"); (case hd => walk_at "at"))
  | ((with_reducible refine' at_keep ?hk ?hh ?hn); (case hk => assumption); (case hh => walk_at "at"); (case hn => walk_at "ne")))
local macro_rules | `(tactic| walk_at "hp") => `(tactic| first
  | assumption
  | (with_reducible exact FrL.sql (by assumption))
  | ((with_reducible refine' SqT.of ?hq); (case hq => walk_at "at")) | ((with_reducible refine' SqL.of ?hq); (case hq => walk_at "at"))
  | ((with_reducible refine' sql_same ?hk ?hh); (case hk => assumption); (case hh => walk_at "hp"))
  | ((with_reducible refine' sql_keep ?hk ?hh ?hn); (case hk => assumption); (case hh => walk_at "hp"); (case hn => walk_at "ne"))
  | ((with_reducible refine' sqt_same ?hk ?hh); (case hk => assumption); (case hh => walk_at "hp")))
local macro_rules | `(tactic| walk_at "wp1") => `(tactic| first
  | with_reducible refine w_mt ?_ | ((with_reducible refine' w_mt1 ?ha ?hl ?_); (case ha => walk_at "at"); (case hl => rfl))
  | with_reducible refine w_fld ?_ | ((with_reducible refine' w_fld1 ?ha (ClsF.cl (cs := clsL) (as := attL) (by assumption) _ ?hc) (ClsF.no (cs := clsL) (as := attL) (by assumption) _ _ ?hn) ?hl ?_); (case ha => walk_at "at"); (case hc => decide +kernel); (case hn => decide +kernel); (case hl => rfl))
  | with_reducible refine w_sfld ?_ | ((with_reducible refine' w_sfld1 ?ha (ClsF.cl (cs := clsL) (as := attL) (by assumption) _ ?hc) (ClsF.no (cs := clsL) (as := attL) (by assumption) _ _ ?hn) ?he ?hl ?_); (case ha => walk_at "at"); (case hc => decide +kernel); (case hn => decide +kernel); (case he => rfl); (case hl => rfl))
  | with_reducible refine w_lk ?_ | ((with_reducible refine' lkL ?ha ?_); (case ha => walk_at "at")) | with_reducible refine w_mkS ?_ | with_reducible refine w_mk ?_ | with_reducible refine w_bas ?_ | with_reducible refine w_m1 ?_ | with_reducible refine w_isS ?_ | with_reducible refine w_bm0 ?_ | with_reducible refine w_iS ?_ | with_reducible refine w_chain ?_
  | with_reducible refine w_inSg ?_ | with_reducible refine w_ninSg ?_
  | with_reducible refine w_rz ?_ | with_reducible refine w_calX ?_ | with_reducible refine w_calS ?_ | with_reducible refine w_row ?_
  | with_reducible refine w_seq ?_ | with_reducible refine w_set ?_ | with_reducible refine w_drop ?_ | with_reducible refine w_ret ?_ | with_reducible refine w_ifS ?_ | with_reducible refine w_next ?_
  | ((with_reducible refine' w_var ?hv ?_); (case hv => rfl)) | with_reducible refine w_c ?_
  | with_reducible refine w_op ?_ | with_reducible refine w_un ?_ | with_reducible refine w_cb ?_ | with_reducible refine w_cal ?_ | with_reducible refine w_cons ?_ | with_reducible refine w_nil ?_
  | with_reducible refine w_plus ?_ | with_reducible refine w_minus ?_ | with_reducible refine w_lt ?_ | with_reducible refine w_le ?_ | with_reducible refine w_gt ?_ | with_reducible refine w_ge ?_
  | with_reducible refine w_eqI ?_ | with_reducible refine w_neI ?_ | with_reducible refine w_eqB ?_ | with_reducible refine w_neB ?_ | with_reducible refine w_eqS ?_ | with_reducible refine w_neS ?_
  | with_reducible refine w_neg ?_ | with_reducible refine w_abs ?_ | with_reducible refine w_intB ?_ | with_reducible refine w_test ?_ | with_reducible refine w_tB ?_ | with_reducible refine w_bl ?_
  | with_reducible refine w_and ?_ | with_reducible refine w_or ?_ | with_reducible refine w_not ?_ | with_reducible refine w_andV ?_ | with_reducible refine w_orV ?_ | with_reducible refine w_notV ?_ | with_reducible refine w_ifE ?_
  | with_reducible refine w_nyes ?_ | with_reducible refine w_nno ?_ | with_reducible refine w_yes ?_ | with_reducible refine w_no ?_
  | ((with_reducible refine' w_ixL ?ha ?hb ?_); (case ha => walk_at "hp"); (case hb => rfl)) | ((with_reducible refine' w_ixT ?ha ?hb ?_); (case ha => walk_at "hp"); (case hb => rfl))
  | ((with_reducible refine' w_lenL ?ha ?_); (case ha => walk_at "hp")) | ((with_reducible refine' w_lenT ?ha ?_); (case ha => walk_at "hp"))
  | with_reducible refine w_min2 ?_ | with_reducible refine w_max2 ?_ | with_reducible refine w_bm ?_ | with_reducible refine w_lc ?_ | ((with_reducible refine' w_tyL ?ha ?_); (case ha => walk_at "at"))
  | with_reducible refine isi_ii ?_ | with_reducible refine isi_ib ?_ | with_reducible refine isi_bb ?_ | with_reducible refine isi_ss ?_
  | ((with_reducible refine' isi_tt ?ha ?_); (case ha => walk_at "at")) | ((with_reducible refine' isi_ll ?ha ?_); (case ha => walk_at "at"))
  | with_reducible refine w_par ?_ | with_reducible refine w_par2 ?_ | with_reducible refine w_for ?_ | with_reducible refine w_iL ?_ | with_reducible refine w_iT ?_ | with_reducible refine w_iR1 ?_ | with_reducible refine w_iR2 ?_
  | with_reducible refine w_tup ?_ | with_reducible refine w_lst ?_
  | with_reducible refine w_asg ?_ | with_reducible refine w_gname ?_ | with_reducible refine w_gcons ?_ | with_reducible refine w_gnil ?_ | with_reducible refine w_gsub ?_
  | ((with_reducible refine' w_gtup ?ha ?hb ?_); (case ha => walk_at "hp"); (case hb => rfl))
  | ((with_reducible refine' w_fdiv ?hc ?_); (case hc => walk_at "cond")) | ((with_reducible refine' w_mul ?hc ?_); (case hc => walk_at "cond"))
  | ((with_reducible refine' w_mod ?hc ?_); (case hc => walk_at "cond")) | ((with_reducible refine' w_pow ?hc ?_); (case hc => walk_at "cond")))
local macro_rules | `(tactic| walk_at "wp") => `(tactic| repeat walk_at "wp1")
section
variable {P : Program} {w : World} {K : PySem.W.Frag} {mg : Str → Option Value} {base : Heap}
/-! ### the reader is made -/
def lineM (z : Str) : Option (Nat × List Str) := (depthM z).bind fun d => (marksM z.cps.toList).bind fun ms => some (d, ms)
/-- the rows from the i-th on: the row that is refused, or all -/
def rowsL : Nat → List Str → Nat ⊕ List (Nat × List Str)
  | _, [] => .inr []
  | i, z :: r => if i = 60 then .inl (i + 1) else match lineM z with
    | none => .inl (i + 1)
    | some q => match rowsL (i + 1) r with
      | .inl e => .inl e
      | .inr qs => .inr (q :: qs)
theorem depthM_le {z : Str} {d : Nat} (h : depthM z = some d) : d ≤ 5 := by
  unfold depthM at h
  split at h
  · cases h
  · cases h
    omega
theorem rowsL_deep : ∀ {ls : List Str} {i : Nat} {rows : Rows}, rowsL i ls = .inr rows → ∀ q ∈ rows, q.1 ≤ 5
  | [], i, rows, h, q, hq => by
    cases h
    cases hq
  | z :: r, i, rows, h, q, hq => by
    unfold rowsL at h
    split at h
    · cases h
    · cases e : lineM z with
      | none => rw [e] at h; cases h
      | some y =>
        rw [e] at h
        dsimp only at h
        cases e2 : rowsL (i + 1) r with
        | inl x => rw [e2] at h; cases h
        | inr qs =>
          rw [e2] at h
          cases h
          rcases List.mem_cons.mp hq with rfl | hq
          · unfold lineM at e
            cases e3 : depthM z with
            | none => rw [e3] at e; cases e
            | some d =>
              rw [e3] at e
              simp only [Option.bind_some] at e
              cases e4 : marksM z.cps.toList with
              | none => rw [e4] at e; cases e
              | some ms =>
                rw [e4] at e
                cases e
                exact depthM_le e3
          · exact rowsL_deep e2 q hq
theorem marksM_ok {l : List Nat} {ms : List Str} (h : marksM l = some ms) (hl : l.length ≤ 10000) : MksOk ms ∧ ms ≠ [] := by
  unfold marksM at h
  cases e : scan ([], none) l with
  | none =>
    rw [e] at h
    cases h
  | some st =>
    rw [e] at h
    simp only [Option.bind_some] at h
    split at h
    · cases h
    · rename_i hn
      cases h
      have I := scan_inv SInv.nil (ms' := st.1) (g' := st.2) e
      rw [Nat.zero_add] at I
      exact ⟨⟨by
        have := fun z => hn (.inr z)
        omega, fun m hm => ⟨I.ok m hm, Nat.le_trans (I.len m hm) hl⟩⟩, fun z => hn (.inl z)⟩
theorem RowsAt.snoc {H : Hp} {a ml : Addr} {d : Nat} {ms : List Str} (h1 : H a = some (.tup [.int (d : Int), .ref ml])) (h2 : H ml = some (.lst (ms.map V.str))) (h3 : MksOk ms ∧ ms ≠ []) : ∀ {as : List Addr} {rows : List (Nat × List Str)}, RowsAt H as rows → RowsAt H (as ++ [a]) (rows ++ [(d, ms)])
  | [], [], _ => ⟨⟨ml, h1, h2, h3.1, h3.2⟩, trivial⟩
  | _ :: as, (_, _) :: r, h => ⟨h.1, RowsAt.snoc h1 h2 h3 (as := as) (rows := r) h.2⟩
  | [], _ :: _, h => h.elim
  | _ :: _, [], h => h.elim
theorem RowsAt.keepS {H H' : Hp} (kt : ∀ a xs, H a = some (.tup xs) → H' a = some (.tup xs)) (kl : ∀ a (ms : List Str), ms ≠ [] → H a = some (.lst (ms.map V.str)) → H' a = some (.lst (ms.map V.str))) : ∀ {as : List Addr} {rows : List (Nat × List Str)}, RowsAt H as rows → RowsAt H' as rows
  | [], [], _ => trivial
  | _ :: as, (_, _) :: r, h => by
    obtain ⟨⟨ml, h1, h2, h3, h3'⟩, h4⟩ := h
    exact ⟨⟨ml, kt _ _ h1, kl _ _ h3' h2, h3, h3'⟩, RowsAt.keepS kt kl (as := as) (rows := r) h4⟩
  | [], _ :: _, h => h.elim
  | _ :: _, [], h => h.elim
theorem ne_refs {H : Hp} {l b : Addr} {as : List Addr} {ms : List Str} (h : H l = some (.lst (as.map V.ref))) (hb : H b = some (.lst (ms.map V.str))) (hm : ms ≠ []) : b ≠ l := fun z => by
  subst z
  rw [h] at hb
  cases ms with
  | nil => exact hm rfl
  | cons m ms =>
    cases as with
    | nil => cases hb
    | cons a as =>
      simp only [Option.some.injEq, HO.lst.injEq, List.map_cons, List.cons.injEq] at hb
      exact absurd hb.1 (by intro z; cases z)
def spRdrI (K : PySem.W.Frag) : Sp := fun vs H Q E => ∃ x dx, ∃ z : Str, vs = [.ref x, .str z] ∧ z.length ≤ 10000 ∧ ((Txt.split z "\n").length ≤ 20000 ∧ ∀ y ∈ Txt.split z "\n", y.length ≤ 10000) ∧ H x = some (.ins (He.ga K "Reader") dx []) ∧
  match rowsL 0 (Txt.split z "\n") with
  | .inr rows => ∀ H' l as, RdrA K H' x dx l as rows 0 → Fw.Keep x H H' → Q .non H'
  | .inl i => BadR K E i x H
section
variable (T : Fre mg) (CS : Cst K mg) (CF : ClsF K clsL attL) (Z_BadText : Exk K mg "BadText") (ini2 : IniOk P w K mg base [])
include T CS CF Z_BadText ini2
theorem k_Reader (F : MDef K "Reader" "__init__" "Reader.__init__" s_Reader___init__) (mk : Mk K (He.ga K "Reader") (He.ma K (He.ga K "Reader") "__init__")) (g : mg "Reader" = some (.ref (He.ga K "Reader")))
    (c_depth_of : Cal P w K mg base 3 "depth_of" ["text", "row"] (spDepth K)) (c_marks_of : Cal P w K mg base 3 "marks_of" ["text", "row"] (spMarks K)) : Mak P w K mg base 4 "Reader" (spRdrI K) := by
  refine mak_of F mk g sc_Reader___init__ b_Reader___init__ (fun vs H Q E h => ?_) (fun cdv A outer s H vs Q E hr h => ?_)
  · obtain ⟨_, _, _, rfl, _⟩ := h
    rfl
  · obtain ⟨x, dx, z, rfl, hz, ⟨hn, hy⟩, ex, h⟩ := h
    have g_MOST_ROWS := CS.g_MOST_ROWS
    have sl : sizeLine = 16777216 := sizeLine_eq
    have po := passes_of (X := cxOf (L2N.CX P w) P w K mg base ["self", "text", "lines", "at"] "Reader.__init__" (defScope s_Reader___init__) (He.ma K (He.ga K "Reader") "__init__") cdv A outer s H E) rfl
    have tk := L2N.takes_of (X := cxOf (L2N.CX P w) P w K mg base ["self", "text", "lines", "at"] "Reader.__init__" (defScope s_Reader___init__) (He.ma K (He.ga K "Reader") "__init__") cdv A outer s H E) (E := E) rfl rfl rfl rfl
    have pc := L2N.passes_call tk (fun _ _ _ _ h => h) (E := E)
    refine ⟨_, (pss_cons (ps_fld (pv 0) (pe_lst pa_nil) rfl)
      (pss_cons (ps_fld (pv 0) pe_int rfl)
      (pss_cons (ps_set (i := 2) sc_Reader___init__.nd rfl (loc_of rfl) (pe_m1 PySem.F.slot_str_split PySem.F.type_str_split m_split (pv 1) pe_str))
      (pss_one (ps_for po rfl (pi_range1 (by rfl) T.f_range (pa_cons (pe_callB (c_lenK (K := K) rfl) (by rfl) T.f_len (by decide +kernel) (pa_cons (pv 2) pa_nil)) pa_nil)) (pg_name (i := 3) sc_Reader___init__.nd rfl (loc_of rfl)) (pss_cons (ps_if (pt_cmpR op_eq (pv 3) (C8.pe_gc (v := .int 60) (by rfl) g_MOST_ROWS) (nomark _)) (pss_one (ps_rz (dv := []) Z_BadText ini2 rfl hr (by omega) tk (pa_cons pe_str (pa_cons (pe_op o_add (pv 3) pe_int) pa_nil)))) pss_nil)
      (pss_one (ps_expr (pe_bm PySem.F.plainAttrs_list PySem.F.slot_list_append PySem.F.type_list_append mt_append (pe_fld (pv 0) rfl) (pa_cons (pe_tup (pa_cons (pe_cal c_depth_of hr (by omega) pc (pa_cons (pe_ix (ixL (K := K) rfl) (pv 2) (pv 3) (fun _ _ => rfl)) (pa_cons (pe_op o_add (pv 3) pe_int) pa_nil))) (pa_cons (pe_cal c_marks_of hr (by omega) pc (pa_cons (pe_ix (ixL (K := K) rfl) (pv 2) (pv 3) (fun _ _ => rfl)) (pa_cons (pe_op o_add (pv 3) pe_int) pa_nil))) pa_nil))) pa_nil)))))))))), ?_⟩
    refine w_start [some (.ref x), some (.str z), none, none] rfl ?_
    try dsimp only [cxOf]
    walk_at "wp"
    refine newL fun l H1 nl e1 s1 => ?_
    have ex1 := s1 _ _ ex
    walk_at "wp"
    refine fun H2 e2 k2 => ?_
    walk_at "wp"
    refine fun H3 e3 k3 => ?_
    walk_at "wp"
    refine w_split (by decide +kernel) (by omega) fun p H4 np e4 s4 => ?_
    walk_at "wp"
    have lm := List.length_map (as := Txt.split z "\n") V.str
    rw [lm]
    generalize hls : Txt.split z "\n" = ls at *
    have k03 : Fw.Keep x H H3 := (s1.keep k2).trans k3
    have nlx : l ≠ x := (ne_of_none ex nl).symm
    have e1' : H4 l = some (.lst ([] : List V)) := s4 _ _ (k3 _ _ nlx (k2 _ _ nlx e1))
    have e3' : H4 x = some (.ins (He.ga K "Reader") dx [("rows", .ref l), ("at", .int (0 : Nat))]) := s4 _ _ e3
    have k04 : Fw.Keep x H H4 := k03.same s4
    have np0 : ∀ {b o}, H3 b = some o → b ≠ p := fun hb => ne_of_none hb np
    have npx : p ≠ x := (np0 e3).symm
    have npl : p ≠ l := (np0 (k3 _ _ nlx (k2 _ _ nlx e1))).symm
    refine forR1 (by omega) (by omega) (fun i σ' H' => ∃ acc as w3, σ' = [some (.ref x), some (.str z), some (.ref p), w3] ∧ i ≤ ls.length ∧ acc.length = i ∧ i ≤ 60 ∧ rowsL 0 ls = (match rowsL i (ls.drop i) with | .inl e => .inl e | .inr qs => .inr (acc ++ qs)) ∧
      H' x = some (.ins (He.ga K "Reader") dx [("rows", .ref l), ("at", .int (0 : Nat))]) ∧ H' l = some (.lst (as.map V.ref)) ∧ RowsAt H' as acc ∧ H' p = some (.lst (ls.map V.str)) ∧ Fw.Keep x H H')
      ⟨[], [], none, rfl, Nat.zero_le _, rfl, Nat.zero_le _, by rw [List.drop_zero]; cases rowsL 0 ls <;> rfl, e3', e1', trivial, e4, k04⟩ (fun i σ' H5 hi hp => ?_) (fun σ' H5 hp => ?_)
    · obtain ⟨acc, as, w3, rfl, hil, hal, hi60, hR, ex5, el5, RA, ep5, k5⟩ := hp
      have hlt : i < ls.length := by omega
      have hdr : ls.drop i = ls[i] :: ls.drop (i + 1) := List.drop_eq_getElem_cons hlt
      have ei : atI (ls.map V.str) (i : Int) = some (.str ls[i]) := atI_nat (by rw [List.getElem?_map, List.getElem?_eq_getElem hlt]; rfl)
      have hyi := hy ls[i] (List.getElem_mem hlt)
      have hsp : hy = hy := rfl
      rw [hdr, rowsL] at hR
      walk_at "wp"
      refine w_dec (fun h60 => ?_) (fun h60 => ?_)
      · have h60' : i = 60 := by omega
        rw [if_pos h60'] at hR
        rw [hR] at h
        walk_at "wp"
        exact rzL Z_BadText _ _ rfl fun d H6 nd ed sd => (h.keep k5 ex5) d H6 nd ed sd.toKeep
      · have h60' : ¬ i = 60 := by omega
        rw [if_neg h60'] at hR
        walk_at "wp"
        refine w_ixL (SqL.of ep5) ei ?_
        walk_at "wp"
        refine ⟨ls[i], _, rfl, hyi, ?_⟩
        have hb : ∀ {e : Nat}, rowsL 0 ls = .inl e → BadE K E (e : Int) H5 := fun {e} he d H6 nd ed sd => by
          rw [he] at h
          exact (h.keep k5 ex5) d H6 nd ed sd.toKeep
        cases ed : depthM ls[i] with
        | none =>
          have el : lineM ls[i] = none := by
            unfold lineM
            rw [ed]
            rfl
          rw [el] at hR
          exact hb hR
        | some dd =>
          dsimp only
          walk_at "wp"
          refine w_ixL (SqL.of ep5) ei ?_
          walk_at "wp"
          refine ⟨ls[i], _, rfl, hyi, ?_⟩
          cases em : marksM ls[i].cps.toList with
          | none =>
            have el : lineM ls[i] = none := by
              unfold lineM
              rw [ed]
              simp only [Option.bind_some, em]
              rfl
            rw [el] at hR
            exact hb hR
          | some ms =>
            have el : lineM ls[i] = some (dd, ms) := by
              unfold lineM
              rw [ed]
              simp only [Option.bind_some, em]
            rw [el] at hR
            refine fun ml H6 nml eml s6 => ?_
            walk_at "wp"
            refine newT fun a H7 na ea s7 => ?_
            have s67 := s6.trans s7
            have el7 := s67 _ _ el5
            walk_at "wp"
            refine w_app el7 (by rw [List.length_map, RA.len]; omega) fun H8 e8 k8 => ?_
            walk_at "wp"
            have ok := marksM_ok em (by simp only [Array.length_toList]; exact hyi)
            have nlp : l ≠ p := npl.symm
            have nx8 : x ≠ l := nlx.symm
            have kt : ∀ a xs, H7 a = some (.tup xs) → H8 a = some (.tup xs) := fun b xs hb => k8 _ _ (ne_of hb el7 (by intro z; cases z)) hb
            have kl : ∀ a (ms : List Str), ms ≠ [] → H7 a = some (.lst (ms.map V.str)) → H8 a = some (.lst (ms.map V.str)) := fun b ms' hm hb => k8 _ _ (ne_refs el7 hb hm) hb
            have RA7 : RowsAt H7 as acc := RA.keep (fun a xs hh => s67 _ _ hh) (fun a xs hh => s67 _ _ hh)
            refine ⟨acc ++ [(dd, ms)], as ++ [a], some (.int (i : Int)), rfl, by omega, by rw [List.length_append, List.length_singleton]; omega, by omega, ?_, k8 _ _ nx8 (s67 _ _ ex5), by rw [e8, List.map_append]; rfl, (RowsAt.snoc ea (s7 _ _ eml) ok RA7).keepS kt kl, k8 _ _ npl (s67 _ _ ep5), ?_⟩
            · rw [hR]
              cases rowsL (i + 1) (ls.drop (i + 1)) with
              | inl e => rfl
              | inr qs => simp
            · exact keep_new (k5.same s67) k8 nl
    · obtain ⟨acc, as, w3, rfl, hil, hal, hi60, hR, ex5, el5, RA, ep5, k5⟩ := hp
      have e0 : ((ls.length : Nat) : Int).toNat = ls.length := by omega
      rw [e0, List.drop_length] at hR
      rw [hR] at h
      have e1 : acc ++ [] = acc := List.append_nil _
      simp only [rowsL, e1] at h
      exact h H5 l as ⟨by omega, rowsL_deep (i := 0) (ls := ls) (by rw [hR]; simp only [rowsL, e1]), ex5, el5, RA⟩ k5
end
def spLaw (K : PySem.W.Frag) : Sp := fun vs H Q _ => ∃ (a : Addr) (ns : List Int), vs = [.ref a] ∧ SqS K H a (ns.map V.int) ∧ ∀ H', Q (.bl true) H'
end
end Lw

namespace Lw
open PySem PySem.Spec PyProof.Rows L2 Fw Htx Ob Tx Rd Lk
local macro_rules | `(tactic| walk_at "cond") => `(tactic| first | assumption | (with_reducible exact cdiv_small (by omega) (by omega)) | (with_reducible exact cmul_small (by omega) (by omega)) | (with_reducible exact cpow_mk (by omega) (by omega) (by omega)) | omega)
local macro_rules | `(tactic| walk_at "ne") => `(tactic| first | assumption | exact Ne.symm (by assumption) | exact ne_of_none (by assumption) (by assumption) | exact Ne.symm (ne_of_none (by assumption) (by assumption)))
local macro_rules | `(tactic| walk_at "at") => `(tactic| first
  | assumption
  | (with_reducible exact upd_same)
  | ((with_reducible refine' at_same ?hk ?hh); (case hk => assumption); (case hh => walk_at "at"))
  | ((with_reducible refine' at_keepT ?hk ?hh ?hd); (case hk => assumption); (case hh => walk_at "at"); (case hd => walk_at "at"))
  | ((with_reducible refine' at_keep ?hk ?hh ?hn); (case hk => assumption); (case hh => walk_at "at"); (case hn => walk_at "ne")))
local macro_rules | `(tactic| walk_at "hp") => `(tactic| first
  | assumption
  | (with_reducible exact FrL.sql (by assumption))
  | ((with_reducible refine' SqT.of ?hq); (case hq => walk_at "at")) | ((with_reducible refine' SqL.of ?hq); (case hq => walk_at "at"))
  | ((with_reducible refine' sql_same ?hk ?hh); (case hk => assumption); (case hh => walk_at "hp"))
  | ((with_reducible refine' sql_keep ?hk ?hh ?hn); (case hk => assumption); (case hh => walk_at "hp"); (case hn => walk_at "ne"))
  | ((with_reducible refine' sqt_same ?hk ?hh); (case hk => assumption); (case hh => walk_at "hp")))
local macro_rules | `(tactic| walk_at "wp1") => `(tactic| first
  | with_reducible refine w_mt ?_ | ((with_reducible refine' w_mt1 ?ha ?hl ?_); (case ha => walk_at "at"); (case hl => rfl))
  | with_reducible refine w_fld ?_ | ((with_reducible refine' w_fld1 ?ha (ClsF.cl (cs := clsL) (as := attL) (by assumption) _ ?hc) (ClsF.no (cs := clsL) (as := attL) (by assumption) _ _ ?hn) ?hl ?_); (case ha => walk_at "at"); (case hc => decide +kernel); (case hn => decide +kernel); (case hl => rfl))
  | with_reducible refine w_sfld ?_ | ((with_reducible refine' w_sfld1 ?ha (ClsF.cl (cs := clsL) (as := attL) (by assumption) _ ?hc) (ClsF.no (cs := clsL) (as := attL) (by assumption) _ _ ?hn) ?he ?hl ?_); (case ha => walk_at "at"); (case hc => decide +kernel); (case hn => decide +kernel); (case he => rfl); (case hl => rfl))
  | with_reducible refine w_lk ?_ | ((with_reducible refine' lkL ?ha ?_); (case ha => walk_at "at")) | with_reducible refine w_mkS ?_ | with_reducible refine w_mk ?_ | with_reducible refine w_bas ?_ | with_reducible refine w_m1 ?_ | with_reducible refine w_isS ?_ | with_reducible refine w_bm0 ?_ | with_reducible refine w_iS ?_ | with_reducible refine w_chain ?_
  | with_reducible refine w_inSg ?_ | with_reducible refine w_ninSg ?_
  | with_reducible refine w_rz ?_ | with_reducible refine w_calX ?_ | with_reducible refine w_calS ?_ | with_reducible refine w_row ?_
  | with_reducible refine w_seq ?_ | with_reducible refine w_set ?_ | with_reducible refine w_drop ?_ | with_reducible refine w_ret ?_ | with_reducible refine w_ifS ?_ | with_reducible refine w_next ?_
  | ((with_reducible refine' w_var ?hv ?_); (case hv => rfl)) | with_reducible refine w_c ?_
  | with_reducible refine w_op ?_ | with_reducible refine w_un ?_ | with_reducible refine w_cb ?_ | with_reducible refine w_cal ?_ | with_reducible refine w_cons ?_ | with_reducible refine w_nil ?_
  | with_reducible refine w_plus ?_ | with_reducible refine w_minus ?_ | with_reducible refine w_lt ?_ | with_reducible refine w_le ?_ | with_reducible refine w_gt ?_ | with_reducible refine w_ge ?_
  | with_reducible refine w_eqI ?_ | with_reducible refine w_neI ?_ | with_reducible refine w_eqB ?_ | with_reducible refine w_neB ?_ | with_reducible refine w_eqS ?_ | with_reducible refine w_neS ?_
  | with_reducible refine w_neg ?_ | with_reducible refine w_abs ?_ | with_reducible refine w_intB ?_ | with_reducible refine w_test ?_ | with_reducible refine w_tB ?_ | with_reducible refine w_bl ?_
  | with_reducible refine w_and ?_ | with_reducible refine w_or ?_ | with_reducible refine w_not ?_ | with_reducible refine w_andV ?_ | with_reducible refine w_orV ?_ | with_reducible refine w_notV ?_ | with_reducible refine w_ifE ?_
  | with_reducible refine w_nyes ?_ | with_reducible refine w_nno ?_ | with_reducible refine w_yes ?_ | with_reducible refine w_no ?_
  | ((with_reducible refine' w_ixL ?ha ?hb ?_); (case ha => walk_at "hp"); (case hb => rfl)) | ((with_reducible refine' w_ixT ?ha ?hb ?_); (case ha => walk_at "hp"); (case hb => rfl))
  | ((with_reducible refine' w_lenL ?ha ?_); (case ha => walk_at "hp")) | ((with_reducible refine' w_lenT ?ha ?_); (case ha => walk_at "hp"))
  | with_reducible refine w_min2 ?_ | with_reducible refine w_max2 ?_ | with_reducible refine w_bm ?_ | with_reducible refine w_lc ?_ | ((with_reducible refine' w_tyL ?ha ?_); (case ha => walk_at "at"))
  | with_reducible refine isi_ii ?_ | with_reducible refine isi_ib ?_ | with_reducible refine isi_bb ?_ | with_reducible refine isi_ss ?_
  | ((with_reducible refine' isi_tt ?ha ?_); (case ha => walk_at "at")) | ((with_reducible refine' isi_ll ?ha ?_); (case ha => walk_at "at"))
  | with_reducible refine w_par ?_ | with_reducible refine w_par2 ?_ | with_reducible refine w_for ?_ | with_reducible refine w_iL ?_ | with_reducible refine w_iT ?_ | with_reducible refine w_iR1 ?_ | with_reducible refine w_iR2 ?_
  | with_reducible refine w_tup ?_ | with_reducible refine w_lst ?_
  | with_reducible refine w_asg ?_ | with_reducible refine w_gname ?_ | with_reducible refine w_gcons ?_ | with_reducible refine w_gnil ?_ | with_reducible refine w_gsub ?_
  | ((with_reducible refine' w_gtup ?ha ?hb ?_); (case ha => walk_at "hp"); (case hb => rfl))
  | ((with_reducible refine' w_fdiv ?hc ?_); (case hc => walk_at "cond")) | ((with_reducible refine' w_mul ?hc ?_); (case hc => walk_at "cond"))
  | ((with_reducible refine' w_mod ?hc ?_); (case hc => walk_at "cond")) | ((with_reducible refine' w_pow ?hc ?_); (case hc => walk_at "cond")))
local macro_rules | `(tactic| walk_at "wp") => `(tactic| repeat walk_at "wp1")
section
variable {P : Program} {w : World} {K : PySem.W.Frag} {mg : Str → Option Value} {base : Heap}
/-! ### steps in the heap -/
mutual
def StepAt (K : PySem.W.Frag) (H : Hp) : Addr → S → Prop
  | a, .fill r x pl t => ∃ dx b c, H a = some (.ins (He.ga K "Fill") dx [("row", .int (r : Nat)), ("target", .ref b), ("term", .ref c)]) ∧ TermAt K H b (.kn x pl) ∧ TermAt K H c t
  | a, .call r x pl h ps => ∃ dx b l as, H a = some (.ins (He.ga K "Called") dx [("row", .int (r : Nat)), ("target", .ref b), ("helper", .str h), ("parts", .ref l)]) ∧ TermAt K H b (.kn x pl) ∧ FrL H l (as.map V.ref) ∧ TermsAt K H as ps
  | a, .rowed r x n => ∃ dx, H a = some (.ins (He.ga K "Rowed") dx [("row", .int (r : Nat)), ("name", .str x), ("size", .int (n : Nat))])
  | a, .choice r s t yes no => ∃ dx b c ly as ln bs, H a = some (.ins (He.ga K "Choice") dx [("row", .int (r : Nat)), ("one", .ref b), ("two", .ref c), ("yes", .ref ly), ("no", .ref ln)]) ∧ TermAt K H b s ∧ TermAt K H c t ∧ (FrL H ly (as.map V.ref) ∧ StepsAt K H as yes) ∧ FrL H ln (bs.map V.ref) ∧ StepsAt K H bs no
  | a, .turns r c n body => ∃ dx l as, H a = some (.ins (He.ga K "Turns") dx [("row", .int (r : Nat)), ("counter", .str c), ("many", .int (n : Nat)), ("body", .ref l)]) ∧ FrL H l (as.map V.ref) ∧ StepsAt K H as body
def StepsAt (K : PySem.W.Frag) (H : Hp) : List Addr → List S → Prop
  | [], [] => True
  | a :: as, s :: ss => StepAt K H a s ∧ StepsAt K H as ss
  | _, _ => False
end
def BlkAt (K : PySem.W.Frag) (H : Hp) (l : Addr) (ss : List S) : Prop := ∃ as, FrL H l (as.map V.ref) ∧ StepsAt K H as ss
theorem _root_.Lk.FrL.keepN {H H' : Hp} {a : Addr} {xs : List V} (k : KeepN H H') (h : FrL H a xs) : FrL H' a xs := let ⟨o, e⟩ := h; ⟨o, k _ _ trivial e⟩
mutual
theorem StepAt.keep {H H' : Hp} (k : KeepN H H') : ∀ {s : S} {a : Addr}, StepAt K H a s → StepAt K H' a s
  | .fill r x pl t, a, h => by
    unfold StepAt at h ⊢
    obtain ⟨dx, b, c, h1, h2, h3⟩ := h
    exact ⟨dx, b, c, k _ _ node_row h1, h2.keep k, h3.keep k⟩
  | .call r x pl y ps, a, h => by
    unfold StepAt at h ⊢
    obtain ⟨dx, b, l, as, h1, h2, h3, h4⟩ := h
    exact ⟨dx, b, l, as, k _ _ node_row h1, h2.keep k, h3.keepN k, h4.keep k⟩
  | .rowed r x n, a, h => by
    unfold StepAt at h ⊢
    obtain ⟨dx, h1⟩ := h
    exact ⟨dx, k _ _ node_row h1⟩
  | .choice r s t yes no, a, h => by
    unfold StepAt at h ⊢
    obtain ⟨dx, b, c, ly, as, ln, bs, h1, h2, h3, ⟨h4, h5⟩, h6, h7⟩ := h
    exact ⟨dx, b, c, ly, as, ln, bs, k _ _ node_row h1, h2.keep k, h3.keep k, ⟨h4.keepN k, StepsAt.keep k h5⟩, h6.keepN k, StepsAt.keep k h7⟩
  | .turns r c n body, a, h => by
    unfold StepAt at h ⊢
    obtain ⟨dx, l, as, h1, h2, h3⟩ := h
    exact ⟨dx, l, as, k _ _ node_row h1, h2.keepN k, StepsAt.keep k h3⟩
theorem StepsAt.keep {H H' : Hp} (k : KeepN H H') : ∀ {ss : List S} {as : List Addr}, StepsAt K H as ss → StepsAt K H' as ss
  | [], [], _ => by
    unfold StepsAt
    trivial
  | s :: ss, a :: as, h => by
    unfold StepsAt at h ⊢
    exact ⟨StepAt.keep k h.1, StepsAt.keep k h.2⟩
  | [], _ :: _, h => by
    unfold StepsAt at h
    exact h.elim
  | _ :: _, [], h => by
    unfold StepsAt at h
    exact h.elim
end
theorem BlkAt.keep {H H' : Hp} {l : Addr} {ss : List S} (k : KeepN H H') (h : BlkAt K H l ss) : BlkAt K H' l ss := let ⟨as, h1, h2⟩ := h; ⟨as, h1.keepN k, h2.keep k⟩
theorem StepsAt.snoc {H : Hp} {a : Addr} {s : S} (ha : StepAt K H a s) : ∀ {as : List Addr} {ss : List S}, StepsAt K H as ss → StepsAt K H (as ++ [a]) (ss ++ [s])
  | [], [], _ => by
    show StepsAt K H [a] [s]
    unfold StepsAt StepsAt
    exact ⟨ha, trivial⟩
  | b :: as, t :: ss, h => by
    show StepsAt K H (b :: (as ++ [a])) (t :: (ss ++ [s]))
    unfold StepsAt at h ⊢
    exact ⟨h.1, StepsAt.snoc ha h.2⟩
  | [], _ :: _, h => by
    unfold StepsAt at h
    exact h.elim
  | _ :: _, [], h => by
    unfold StepsAt at h
    exact h.elim
theorem StepsAt.len {H : Hp} : ∀ {as : List Addr} {ss : List S}, StepsAt K H as ss → as.length = ss.length
  | [], [], _ => rfl
  | b :: as, t :: ss, h => by
    unfold StepsAt at h
    exact congrArg Nat.succ (StepsAt.len h.2)
  | [], _ :: _, h => by
    unfold StepsAt at h
    exact h.elim
  | _ :: _, [], h => by
    unfold StepsAt at h
    exact h.elim
theorem StepsAt.nil {H : Hp} : StepsAt K H [] [] := by
  unfold StepsAt
  trivial
def PartAt (K : PySem.W.Frag) (H : Hp) (a : Addr) (q : Pt) : Prop := ∃ dx lt lb lg gs, H a = some (.ins (He.ga K "Part") dx [("name", .str q.name), ("takes", .ref lt), ("body", .ref lb), ("gives", .ref lg), ("row", .int (q.row : Nat)), ("last", .int (q.last : Nat))]) ∧
  FrL H lt (q.takes.map V.str) ∧ BlkAt K H lb q.body ∧ FrL H lg (gs.map V.ref) ∧ TermsAt K H gs q.gives
theorem PartAt.keep {H H' : Hp} {a : Addr} {q : Pt} (k : KeepN H H') (h : PartAt K H a q) : PartAt K H' a q := by
  obtain ⟨dx, lt, lb, lg, gs, h1, h2, h3, h4, h5⟩ := h
  exact ⟨dx, lt, lb, lg, gs, k _ _ (node_ins (by decide)) h1, h2.keepN k, h3.keep k, h4.keepN k, h5.keep k⟩
def PartsAt (K : PySem.W.Frag) (H : Hp) : List Addr → List Pt → Prop
  | [], [] => True
  | a :: as, q :: qs => PartAt K H a q ∧ PartsAt K H as qs
  | _, _ => False
theorem PartsAt.keep {H H' : Hp} (k : KeepN H H') : ∀ {as : List Addr} {qs : List Pt}, PartsAt K H as qs → PartsAt K H' as qs
  | [], [], _ => trivial
  | _ :: _, _ :: _, h => ⟨h.1.keep k, PartsAt.keep k h.2⟩
  | [], _ :: _, h => h.elim
  | _ :: _, [], h => h.elim
theorem PartsAt.snoc {H : Hp} {a : Addr} {q : Pt} (ha : PartAt K H a q) : ∀ {as : List Addr} {qs : List Pt}, PartsAt K H as qs → PartsAt K H (as ++ [a]) (qs ++ [q])
  | [], [], _ => ⟨ha, trivial⟩
  | _ :: _, _ :: _, h => ⟨h.1, PartsAt.snoc ha h.2⟩
  | [], _ :: _, h => h.elim
  | _ :: _, [], h => h.elim
theorem PartsAt.len {H : Hp} : ∀ {as : List Addr} {qs : List Pt}, PartsAt K H as qs → as.length = qs.length
  | [], [], _ => rfl
  | _ :: _, _ :: _, h => congrArg Nat.succ (PartsAt.len h.2)
  | [], _ :: _, h => h.elim
  | _ :: _, [], h => h.elim
theorem PartsAt.get {H : Hp} : ∀ {as : List Addr} {qs : List Pt} {i : Nat} {q : Pt}, PartsAt K H as qs → qs[i]? = some q → ∃ a, as[i]? = some a ∧ PartAt K H a q
  | a :: as, q' :: qs, 0, q, h, e => by
    cases e
    exact ⟨a, rfl, h.1⟩
  | _ :: as, _ :: qs, i + 1, q, h, e => PartsAt.get (as := as) (qs := qs) (i := i) h.2 e
  | [], [], _, _, _, e => by cases e
  | [], _ :: _, _, _, h, _ => h.elim
  | _ :: _, [], _, _, h, _ => h.elim
def ProgAt (K : PySem.W.Frag) (H : Hp) (a : Addr) (qs : List Pt) : Prop := ∃ dx l as, H a = some (.ins (He.ga K "Program") dx [("parts", .ref l)]) ∧ FrL H l (as.map V.ref) ∧ PartsAt K H as qs
theorem ProgAt.keep {H H' : Hp} {a : Addr} {qs : List Pt} (k : KeepN H H') (h : ProgAt K H a qs) : ProgAt K H' a qs := by
  obtain ⟨dx, l, as, h1, h2, h3⟩ := h
  exact ⟨dx, l, as, k _ _ (node_ins (by decide)) h1, h2.keepN k, h3.keep k⟩
/-! ### making them -/
section
variable (CF : ClsF K clsL attL)
include CF
def spStepB (K : PySem.W.Frag) : Sp := fun vs H Q _ => ∃ x c dx r, vs = [.ref x, r] ∧ c ∈ clsL ∧ (c, ("row" : Str)) ∈ attL ∧ H x = some (.ins (He.ga K c) dx []) ∧ ∀ H', H' x = some (.ins (He.ga K c) dx [("row", r)]) → Fw.Keep x H H' → Q .non H'
theorem B_Step (F : MDef K "Step" "__init__" "Step.__init__" s_Step___init__) (B : BasF K "Step" "__init__") (g : mg "Step" = some (.ref (He.ga K "Step"))) : Bas P w K mg base 1 "Step" "__init__" (spStepB K) := by
  refine bas_of F B g sc_Step___init__ b_Step___init__ (fun vs H Q E h => ?_) (fun cdv A outer s H vs Q E hr h => ?_)
  · obtain ⟨_, _, _, _, rfl, _⟩ := h
    rfl
  · obtain ⟨x, c, dx, r, rfl, hc, h1, ex, h⟩ := h
    have po := passes_of (X := cxOf (L2N.CX P w) P w K mg base ["self", "row"] "Step.__init__" (defScope s_Step___init__) (He.ma K (He.ga K "Step") "__init__") cdv A outer s H E) rfl
    have tk := L2N.takes_of (X := cxOf (L2N.CX P w) P w K mg base ["self", "row"] "Step.__init__" (defScope s_Step___init__) (He.ma K (He.ga K "Step") "__init__") cdv A outer s H E) (E := E) rfl rfl rfl rfl
    have pc := L2N.passes_call tk (fun _ _ _ _ h => h) (E := E)
    have hu64 : (cxOf (L2N.CX P w) P w K mg base ["self", "row"] "Step.__init__" (defScope s_Step___init__) (He.ma K (He.ga K "Step") "__init__") cdv A outer s H E).A.units + 64 < cLine := by
      have := hr.un
      show (A.deeper _).units + 64 < cLine
      omega
    refine ⟨_, (pss_one (ps_fld (pv 0) (pv 1) rfl)), ?_⟩
    refine w_start [some (.ref x), some (r)] rfl ?_
    try dsimp only [cxOf]
    walk_at "wp"
    refine w_sfld1 ex (CF.cl _ hc) (CF.no _ _ h1) rfl rfl fun H1 e1 k1 => ?_
    exact h H1 e1 k1
theorem k_Fill (F : MDef K "Fill" "__init__" "Fill.__init__" s_Fill___init__) (mk : Mk K (He.ga K "Fill") (He.ma K (He.ga K "Fill") "__init__")) (g : mg "Fill" = some (.ref (He.ga K "Fill"))) (B_Step : Bas P w K mg base 1 "Step" "__init__" (spStepB K)) : Mak P w K mg base 2 "Fill" (spIni (He.ga K "Fill") [] ["row", "target", "term"]) := by
  refine mak_of F mk g sc_Fill___init__ b_Fill___init__ (fun vs H Q E h => ?_) (fun cdv A outer s H vs Q E hr h => ?_)
  · obtain ⟨x, dx, args, rfl, hl, _⟩ := h
    exact congrArg Nat.succ hl
  · obtain ⟨x, dx, args, rfl, hl, ex, h⟩ := h
    match args, hl with
    | [r, v1, v2], _ =>
      have po := passes_of (X := cxOf (L2N.CX P w) P w K mg base ["self", "row", "target", "term"] "Fill.__init__" (defScope s_Fill___init__) (He.ma K (He.ga K "Fill") "__init__") cdv A outer s H E) rfl
      have tk := L2N.takes_of (X := cxOf (L2N.CX P w) P w K mg base ["self", "row", "target", "term"] "Fill.__init__" (defScope s_Fill___init__) (He.ma K (He.ga K "Fill") "__init__") cdv A outer s H E) (E := E) rfl rfl rfl rfl
      have pc := L2N.passes_call tk (fun _ _ _ _ h => h) (E := E)
      have hu64 : (cxOf (L2N.CX P w) P w K mg base ["self", "row", "target", "term"] "Fill.__init__" (defScope s_Fill___init__) (He.ma K (He.ga K "Fill") "__init__") cdv A outer s H E).A.units + 64 < cLine := by
        have := hr.un
        show (A.deeper _).units + 64 < cLine
        omega
      refine ⟨_, (pss_cons (ps_expr (pe_bas B_Step hr (by omega) pc (pa_cons (pv 0) (pa_cons (pv 1) pa_nil))))
      (pss_cons (ps_fld (pv 0) (pv 2) rfl)
      (pss_one (ps_fld (pv 0) (pv 3) rfl)))), ?_⟩
      refine w_start [some (.ref x), some (r), some (v1), some (v2)] rfl ?_
      try dsimp only [cxOf]
      walk_at "wp"
      refine ⟨x, "Fill", dx, r, rfl, by decide +kernel, by decide +kernel, ex, fun H1 e1 k1 => ?_⟩
      walk_at "wp"
      refine fun H2 e2 k2 => ?_
      walk_at "wp"
      refine fun H3 e3 k3 => ?_
      exact h H3 e3 ((k1.trans k2).trans k3)
theorem k_Called (F : MDef K "Called" "__init__" "Called.__init__" s_Called___init__) (mk : Mk K (He.ga K "Called") (He.ma K (He.ga K "Called") "__init__")) (g : mg "Called" = some (.ref (He.ga K "Called"))) (B_Step : Bas P w K mg base 1 "Step" "__init__" (spStepB K)) : Mak P w K mg base 2 "Called" (spIni (He.ga K "Called") [] ["row", "target", "helper", "parts"]) := by
  refine mak_of F mk g sc_Called___init__ b_Called___init__ (fun vs H Q E h => ?_) (fun cdv A outer s H vs Q E hr h => ?_)
  · obtain ⟨x, dx, args, rfl, hl, _⟩ := h
    exact congrArg Nat.succ hl
  · obtain ⟨x, dx, args, rfl, hl, ex, h⟩ := h
    match args, hl with
    | [r, v1, v2, v3], _ =>
      have po := passes_of (X := cxOf (L2N.CX P w) P w K mg base ["self", "row", "target", "helper", "parts"] "Called.__init__" (defScope s_Called___init__) (He.ma K (He.ga K "Called") "__init__") cdv A outer s H E) rfl
      have tk := L2N.takes_of (X := cxOf (L2N.CX P w) P w K mg base ["self", "row", "target", "helper", "parts"] "Called.__init__" (defScope s_Called___init__) (He.ma K (He.ga K "Called") "__init__") cdv A outer s H E) (E := E) rfl rfl rfl rfl
      have pc := L2N.passes_call tk (fun _ _ _ _ h => h) (E := E)
      have hu64 : (cxOf (L2N.CX P w) P w K mg base ["self", "row", "target", "helper", "parts"] "Called.__init__" (defScope s_Called___init__) (He.ma K (He.ga K "Called") "__init__") cdv A outer s H E).A.units + 64 < cLine := by
        have := hr.un
        show (A.deeper _).units + 64 < cLine
        omega
      refine ⟨_, (pss_cons (ps_expr (pe_bas B_Step hr (by omega) pc (pa_cons (pv 0) (pa_cons (pv 1) pa_nil))))
      (pss_cons (ps_fld (pv 0) (pv 2) rfl)
      (pss_cons (ps_fld (pv 0) (pv 3) rfl)
      (pss_one (ps_fld (pv 0) (pv 4) rfl))))), ?_⟩
      refine w_start [some (.ref x), some (r), some (v1), some (v2), some (v3)] rfl ?_
      try dsimp only [cxOf]
      walk_at "wp"
      refine ⟨x, "Called", dx, r, rfl, by decide +kernel, by decide +kernel, ex, fun H1 e1 k1 => ?_⟩
      walk_at "wp"
      refine fun H2 e2 k2 => ?_
      walk_at "wp"
      refine fun H3 e3 k3 => ?_
      walk_at "wp"
      refine fun H4 e4 k4 => ?_
      exact h H4 e4 (((k1.trans k2).trans k3).trans k4)
theorem k_Rowed (F : MDef K "Rowed" "__init__" "Rowed.__init__" s_Rowed___init__) (mk : Mk K (He.ga K "Rowed") (He.ma K (He.ga K "Rowed") "__init__")) (g : mg "Rowed" = some (.ref (He.ga K "Rowed"))) (B_Step : Bas P w K mg base 1 "Step" "__init__" (spStepB K)) : Mak P w K mg base 2 "Rowed" (spIni (He.ga K "Rowed") [] ["row", "name", "size"]) := by
  refine mak_of F mk g sc_Rowed___init__ b_Rowed___init__ (fun vs H Q E h => ?_) (fun cdv A outer s H vs Q E hr h => ?_)
  · obtain ⟨x, dx, args, rfl, hl, _⟩ := h
    exact congrArg Nat.succ hl
  · obtain ⟨x, dx, args, rfl, hl, ex, h⟩ := h
    match args, hl with
    | [r, v1, v2], _ =>
      have po := passes_of (X := cxOf (L2N.CX P w) P w K mg base ["self", "row", "name", "size"] "Rowed.__init__" (defScope s_Rowed___init__) (He.ma K (He.ga K "Rowed") "__init__") cdv A outer s H E) rfl
      have tk := L2N.takes_of (X := cxOf (L2N.CX P w) P w K mg base ["self", "row", "name", "size"] "Rowed.__init__" (defScope s_Rowed___init__) (He.ma K (He.ga K "Rowed") "__init__") cdv A outer s H E) (E := E) rfl rfl rfl rfl
      have pc := L2N.passes_call tk (fun _ _ _ _ h => h) (E := E)
      have hu64 : (cxOf (L2N.CX P w) P w K mg base ["self", "row", "name", "size"] "Rowed.__init__" (defScope s_Rowed___init__) (He.ma K (He.ga K "Rowed") "__init__") cdv A outer s H E).A.units + 64 < cLine := by
        have := hr.un
        show (A.deeper _).units + 64 < cLine
        omega
      refine ⟨_, (pss_cons (ps_expr (pe_bas B_Step hr (by omega) pc (pa_cons (pv 0) (pa_cons (pv 1) pa_nil))))
      (pss_cons (ps_fld (pv 0) (pv 2) rfl)
      (pss_one (ps_fld (pv 0) (pv 3) rfl)))), ?_⟩
      refine w_start [some (.ref x), some (r), some (v1), some (v2)] rfl ?_
      try dsimp only [cxOf]
      walk_at "wp"
      refine ⟨x, "Rowed", dx, r, rfl, by decide +kernel, by decide +kernel, ex, fun H1 e1 k1 => ?_⟩
      walk_at "wp"
      refine fun H2 e2 k2 => ?_
      walk_at "wp"
      refine fun H3 e3 k3 => ?_
      exact h H3 e3 ((k1.trans k2).trans k3)
theorem k_Choice (F : MDef K "Choice" "__init__" "Choice.__init__" s_Choice___init__) (mk : Mk K (He.ga K "Choice") (He.ma K (He.ga K "Choice") "__init__")) (g : mg "Choice" = some (.ref (He.ga K "Choice"))) (B_Step : Bas P w K mg base 1 "Step" "__init__" (spStepB K)) : Mak P w K mg base 2 "Choice" (spIni (He.ga K "Choice") [] ["row", "one", "two", "yes", "no"]) := by
  refine mak_of F mk g sc_Choice___init__ b_Choice___init__ (fun vs H Q E h => ?_) (fun cdv A outer s H vs Q E hr h => ?_)
  · obtain ⟨x, dx, args, rfl, hl, _⟩ := h
    exact congrArg Nat.succ hl
  · obtain ⟨x, dx, args, rfl, hl, ex, h⟩ := h
    match args, hl with
    | [r, v1, v2, v3, v4], _ =>
      have po := passes_of (X := cxOf (L2N.CX P w) P w K mg base ["self", "row", "one", "two", "yes", "no"] "Choice.__init__" (defScope s_Choice___init__) (He.ma K (He.ga K "Choice") "__init__") cdv A outer s H E) rfl
      have tk := L2N.takes_of (X := cxOf (L2N.CX P w) P w K mg base ["self", "row", "one", "two", "yes", "no"] "Choice.__init__" (defScope s_Choice___init__) (He.ma K (He.ga K "Choice") "__init__") cdv A outer s H E) (E := E) rfl rfl rfl rfl
      have pc := L2N.passes_call tk (fun _ _ _ _ h => h) (E := E)
      have hu64 : (cxOf (L2N.CX P w) P w K mg base ["self", "row", "one", "two", "yes", "no"] "Choice.__init__" (defScope s_Choice___init__) (He.ma K (He.ga K "Choice") "__init__") cdv A outer s H E).A.units + 64 < cLine := by
        have := hr.un
        show (A.deeper _).units + 64 < cLine
        omega
      refine ⟨_, (pss_cons (ps_expr (pe_bas B_Step hr (by omega) pc (pa_cons (pv 0) (pa_cons (pv 1) pa_nil))))
      (pss_cons (ps_fld (pv 0) (pv 2) rfl)
      (pss_cons (ps_fld (pv 0) (pv 3) rfl)
      (pss_cons (ps_fld (pv 0) (pv 4) rfl)
      (pss_one (ps_fld (pv 0) (pv 5) rfl)))))), ?_⟩
      refine w_start [some (.ref x), some (r), some (v1), some (v2), some (v3), some (v4)] rfl ?_
      try dsimp only [cxOf]
      walk_at "wp"
      refine ⟨x, "Choice", dx, r, rfl, by decide +kernel, by decide +kernel, ex, fun H1 e1 k1 => ?_⟩
      walk_at "wp"
      refine fun H2 e2 k2 => ?_
      walk_at "wp"
      refine fun H3 e3 k3 => ?_
      walk_at "wp"
      refine fun H4 e4 k4 => ?_
      walk_at "wp"
      refine fun H5 e5 k5 => ?_
      exact h H5 e5 ((((k1.trans k2).trans k3).trans k4).trans k5)
theorem k_Turns (F : MDef K "Turns" "__init__" "Turns.__init__" s_Turns___init__) (mk : Mk K (He.ga K "Turns") (He.ma K (He.ga K "Turns") "__init__")) (g : mg "Turns" = some (.ref (He.ga K "Turns"))) (B_Step : Bas P w K mg base 1 "Step" "__init__" (spStepB K)) : Mak P w K mg base 2 "Turns" (spIni (He.ga K "Turns") [] ["row", "counter", "many", "body"]) := by
  refine mak_of F mk g sc_Turns___init__ b_Turns___init__ (fun vs H Q E h => ?_) (fun cdv A outer s H vs Q E hr h => ?_)
  · obtain ⟨x, dx, args, rfl, hl, _⟩ := h
    exact congrArg Nat.succ hl
  · obtain ⟨x, dx, args, rfl, hl, ex, h⟩ := h
    match args, hl with
    | [r, v1, v2, v3], _ =>
      have po := passes_of (X := cxOf (L2N.CX P w) P w K mg base ["self", "row", "counter", "many", "body"] "Turns.__init__" (defScope s_Turns___init__) (He.ma K (He.ga K "Turns") "__init__") cdv A outer s H E) rfl
      have tk := L2N.takes_of (X := cxOf (L2N.CX P w) P w K mg base ["self", "row", "counter", "many", "body"] "Turns.__init__" (defScope s_Turns___init__) (He.ma K (He.ga K "Turns") "__init__") cdv A outer s H E) (E := E) rfl rfl rfl rfl
      have pc := L2N.passes_call tk (fun _ _ _ _ h => h) (E := E)
      have hu64 : (cxOf (L2N.CX P w) P w K mg base ["self", "row", "counter", "many", "body"] "Turns.__init__" (defScope s_Turns___init__) (He.ma K (He.ga K "Turns") "__init__") cdv A outer s H E).A.units + 64 < cLine := by
        have := hr.un
        show (A.deeper _).units + 64 < cLine
        omega
      refine ⟨_, (pss_cons (ps_expr (pe_bas B_Step hr (by omega) pc (pa_cons (pv 0) (pa_cons (pv 1) pa_nil))))
      (pss_cons (ps_fld (pv 0) (pv 2) rfl)
      (pss_cons (ps_fld (pv 0) (pv 3) rfl)
      (pss_one (ps_fld (pv 0) (pv 4) rfl))))), ?_⟩
      refine w_start [some (.ref x), some (r), some (v1), some (v2), some (v3)] rfl ?_
      try dsimp only [cxOf]
      walk_at "wp"
      refine ⟨x, "Turns", dx, r, rfl, by decide +kernel, by decide +kernel, ex, fun H1 e1 k1 => ?_⟩
      walk_at "wp"
      refine fun H2 e2 k2 => ?_
      walk_at "wp"
      refine fun H3 e3 k3 => ?_
      walk_at "wp"
      refine fun H4 e4 k4 => ?_
      exact h H4 e4 (((k1.trans k2).trans k3).trans k4)
theorem k_Part (F : MDef K "Part" "__init__" "Part.__init__" s_Part___init__) (mk : Mk K (He.ga K "Part") (He.ma K (He.ga K "Part") "__init__")) (g : mg "Part" = some (.ref (He.ga K "Part")))  : Mak P w K mg base 1 "Part" (spIni (He.ga K "Part") [] ["name", "takes", "body", "gives", "row", "last"]) := by
  refine mak_of F mk g sc_Part___init__ b_Part___init__ (fun vs H Q E h => ?_) (fun cdv A outer s H vs Q E hr h => ?_)
  · obtain ⟨x, dx, args, rfl, hl, _⟩ := h
    exact congrArg Nat.succ hl
  · obtain ⟨x, dx, args, rfl, hl, ex, h⟩ := h
    match args, hl with
    | [v1, v2, v3, v4, v5, v6], _ =>
      have po := passes_of (X := cxOf (L2N.CX P w) P w K mg base ["self", "name", "takes", "body", "gives", "row", "last"] "Part.__init__" (defScope s_Part___init__) (He.ma K (He.ga K "Part") "__init__") cdv A outer s H E) rfl
      have tk := L2N.takes_of (X := cxOf (L2N.CX P w) P w K mg base ["self", "name", "takes", "body", "gives", "row", "last"] "Part.__init__" (defScope s_Part___init__) (He.ma K (He.ga K "Part") "__init__") cdv A outer s H E) (E := E) rfl rfl rfl rfl
      have pc := L2N.passes_call tk (fun _ _ _ _ h => h) (E := E)
      have hu64 : (cxOf (L2N.CX P w) P w K mg base ["self", "name", "takes", "body", "gives", "row", "last"] "Part.__init__" (defScope s_Part___init__) (He.ma K (He.ga K "Part") "__init__") cdv A outer s H E).A.units + 64 < cLine := by
        have := hr.un
        show (A.deeper _).units + 64 < cLine
        omega
      refine ⟨_, (pss_cons (ps_fld (pv 0) (pv 1) rfl)
      (pss_cons (ps_fld (pv 0) (pv 2) rfl)
      (pss_cons (ps_fld (pv 0) (pv 3) rfl)
      (pss_cons (ps_fld (pv 0) (pv 4) rfl)
      (pss_cons (ps_fld (pv 0) (pv 5) rfl)
      (pss_one (ps_fld (pv 0) (pv 6) rfl))))))), ?_⟩
      refine w_start [some (.ref x), some (v1), some (v2), some (v3), some (v4), some (v5), some (v6)] rfl ?_
      try dsimp only [cxOf]
      walk_at "wp"
      refine fun H1 e1 k1 => ?_
      walk_at "wp"
      refine fun H2 e2 k2 => ?_
      walk_at "wp"
      refine fun H3 e3 k3 => ?_
      walk_at "wp"
      refine fun H4 e4 k4 => ?_
      walk_at "wp"
      refine fun H5 e5 k5 => ?_
      walk_at "wp"
      refine fun H6 e6 k6 => ?_
      exact h H6 e6 (((((k1.trans k2).trans k3).trans k4).trans k5).trans k6)
theorem k_Program (F : MDef K "Program" "__init__" "Program.__init__" s_Program___init__) (mk : Mk K (He.ga K "Program") (He.ma K (He.ga K "Program") "__init__")) (g : mg "Program" = some (.ref (He.ga K "Program")))  : Mak P w K mg base 1 "Program" (spIni (He.ga K "Program") [] ["parts"]) := by
  refine mak_of F mk g sc_Program___init__ b_Program___init__ (fun vs H Q E h => ?_) (fun cdv A outer s H vs Q E hr h => ?_)
  · obtain ⟨x, dx, args, rfl, hl, _⟩ := h
    exact congrArg Nat.succ hl
  · obtain ⟨x, dx, args, rfl, hl, ex, h⟩ := h
    match args, hl with
    | [v1], _ =>
      have po := passes_of (X := cxOf (L2N.CX P w) P w K mg base ["self", "parts"] "Program.__init__" (defScope s_Program___init__) (He.ma K (He.ga K "Program") "__init__") cdv A outer s H E) rfl
      have tk := L2N.takes_of (X := cxOf (L2N.CX P w) P w K mg base ["self", "parts"] "Program.__init__" (defScope s_Program___init__) (He.ma K (He.ga K "Program") "__init__") cdv A outer s H E) (E := E) rfl rfl rfl rfl
      have pc := L2N.passes_call tk (fun _ _ _ _ h => h) (E := E)
      have hu64 : (cxOf (L2N.CX P w) P w K mg base ["self", "parts"] "Program.__init__" (defScope s_Program___init__) (He.ma K (He.ga K "Program") "__init__") cdv A outer s H E).A.units + 64 < cLine := by
        have := hr.un
        show (A.deeper _).units + 64 < cLine
        omega
      refine ⟨_, (pss_one (ps_fld (pv 0) (pv 1) rfl)), ?_⟩
      refine w_start [some (.ref x), some (v1)] rfl ?_
      try dsimp only [cxOf]
      walk_at "wp"
      refine fun H1 e1 k1 => ?_
      exact h H1 e1 k1
end
end
end Lw

namespace Lw
open PySem PySem.Spec PyProof.Rows L2 Fw Htx Ob Tx Rd Lk
local macro_rules | `(tactic| walk_at "cond") => `(tactic| first | assumption | (with_reducible exact cdiv_small (by omega) (by omega)) | (with_reducible exact cmul_small (by omega) (by omega)) | (with_reducible exact cpow_mk (by omega) (by omega) (by omega)) | omega)
local macro_rules | `(tactic| walk_at "ne") => `(tactic| first | assumption | exact Ne.symm (by assumption) | exact ne_of_none (by assumption) (by assumption) | exact Ne.symm (ne_of_none (by assumption) (by assumption)))
local macro_rules | `(tactic| walk_at "at") => `(tactic| first
  | assumption
  | (with_reducible exact upd_same)
  | ((with_reducible refine' at_same ?hk ?hh); (case hk => assumption); (case hh => walk_at "at"))
  | ((with_reducible refine' at_keepT ?hk ?hh ?hd); (case hk => assumption); (case hh => walk_at "at"); (case hd => walk_at "at"))
  | ((with_reducible refine' at_keep ?hk ?hh ?hn); (case hk => assumption); (case hh => walk_at "at"); (case hn => walk_at "ne")))
local macro_rules | `(tactic| walk_at "hp") => `(tactic| first
  | assumption
  | (with_reducible exact FrL.sql (by assumption))
  | ((with_reducible refine' SqT.of ?hq); (case hq => walk_at "at")) | ((with_reducible refine' SqL.of ?hq); (case hq => walk_at "at"))
  | ((with_reducible refine' sql_same ?hk ?hh); (case hk => assumption); (case hh => walk_at "hp"))
  | ((with_reducible refine' sql_keep ?hk ?hh ?hn); (case hk => assumption); (case hh => walk_at "hp"); (case hn => walk_at "ne"))
  | ((with_reducible refine' sqt_same ?hk ?hh); (case hk => assumption); (case hh => walk_at "hp")))
local macro_rules | `(tactic| walk_at "wp1") => `(tactic| first
  | with_reducible refine w_mt ?_ | ((with_reducible refine' w_mt1 ?ha ?hl ?_); (case ha => walk_at "at"); (case hl => rfl))
  | with_reducible refine w_fld ?_ | ((with_reducible refine' w_fld1 ?ha (ClsF.cl (cs := clsL) (as := attL) (by assumption) _ ?hc) (ClsF.no (cs := clsL) (as := attL) (by assumption) _ _ ?hn) ?hl ?_); (case ha => walk_at "at"); (case hc => decide +kernel); (case hn => decide +kernel); (case hl => rfl))
  | with_reducible refine w_sfld ?_ | ((with_reducible refine' w_sfld1 ?ha (ClsF.cl (cs := clsL) (as := attL) (by assumption) _ ?hc) (ClsF.no (cs := clsL) (as := attL) (by assumption) _ _ ?hn) ?he ?hl ?_); (case ha => walk_at "at"); (case hc => decide +kernel); (case hn => decide +kernel); (case he => rfl); (case hl => rfl))
  | with_reducible refine w_lk ?_ | ((with_reducible refine' lkL ?ha ?_); (case ha => walk_at "at")) | with_reducible refine w_mkS ?_ | with_reducible refine w_mk ?_ | with_reducible refine w_bas ?_ | with_reducible refine w_m1 ?_ | with_reducible refine w_isS ?_ | with_reducible refine w_bm0 ?_ | with_reducible refine w_iS ?_ | with_reducible refine w_chain ?_
  | with_reducible refine w_inSg ?_ | with_reducible refine w_ninSg ?_
  | with_reducible refine w_rz ?_ | with_reducible refine w_calX ?_ | with_reducible refine w_calS ?_ | with_reducible refine w_row ?_
  | with_reducible refine w_seq ?_ | with_reducible refine w_set ?_ | with_reducible refine w_drop ?_ | with_reducible refine w_ret ?_ | with_reducible refine w_ifS ?_ | with_reducible refine w_next ?_
  | ((with_reducible refine' w_var ?hv ?_); (case hv => rfl)) | with_reducible refine w_c ?_
  | with_reducible refine w_op ?_ | with_reducible refine w_un ?_ | with_reducible refine w_cb ?_ | with_reducible refine w_cal ?_ | with_reducible refine w_cons ?_ | with_reducible refine w_nil ?_
  | with_reducible refine w_plus ?_ | with_reducible refine w_minus ?_ | with_reducible refine w_lt ?_ | with_reducible refine w_le ?_ | with_reducible refine w_gt ?_ | with_reducible refine w_ge ?_
  | with_reducible refine w_eqI ?_ | with_reducible refine w_neI ?_ | with_reducible refine w_eqB ?_ | with_reducible refine w_neB ?_ | with_reducible refine w_eqS ?_ | with_reducible refine w_neS ?_
  | with_reducible refine w_neg ?_ | with_reducible refine w_abs ?_ | with_reducible refine w_intB ?_ | with_reducible refine w_test ?_ | with_reducible refine w_tB ?_ | with_reducible refine w_bl ?_
  | with_reducible refine w_and ?_ | with_reducible refine w_or ?_ | with_reducible refine w_not ?_ | with_reducible refine w_andV ?_ | with_reducible refine w_orV ?_ | with_reducible refine w_notV ?_ | with_reducible refine w_ifE ?_
  | with_reducible refine w_nyes ?_ | with_reducible refine w_nno ?_ | with_reducible refine w_yes ?_ | with_reducible refine w_no ?_
  | ((with_reducible refine' w_ixL ?ha ?hb ?_); (case ha => walk_at "hp"); (case hb => rfl)) | ((with_reducible refine' w_ixT ?ha ?hb ?_); (case ha => walk_at "hp"); (case hb => rfl))
  | ((with_reducible refine' w_lenL ?ha ?_); (case ha => walk_at "hp")) | ((with_reducible refine' w_lenT ?ha ?_); (case ha => walk_at "hp"))
  | with_reducible refine w_min2 ?_ | with_reducible refine w_max2 ?_ | with_reducible refine w_bm ?_ | with_reducible refine w_lc ?_ | ((with_reducible refine' w_tyL ?ha ?_); (case ha => walk_at "at"))
  | with_reducible refine isi_ii ?_ | with_reducible refine isi_ib ?_ | with_reducible refine isi_bb ?_ | with_reducible refine isi_ss ?_
  | ((with_reducible refine' isi_tt ?ha ?_); (case ha => walk_at "at")) | ((with_reducible refine' isi_ll ?ha ?_); (case ha => walk_at "at"))
  | with_reducible refine w_par ?_ | with_reducible refine w_par2 ?_ | with_reducible refine w_for ?_ | with_reducible refine w_iL ?_ | with_reducible refine w_iT ?_ | with_reducible refine w_iR1 ?_ | with_reducible refine w_iR2 ?_
  | with_reducible refine w_tup ?_ | with_reducible refine w_lst ?_
  | with_reducible refine w_asg ?_ | with_reducible refine w_gname ?_ | with_reducible refine w_gcons ?_ | with_reducible refine w_gnil ?_ | with_reducible refine w_gsub ?_
  | ((with_reducible refine' w_gtup ?ha ?hb ?_); (case ha => walk_at "hp"); (case hb => rfl))
  | ((with_reducible refine' w_fdiv ?hc ?_); (case hc => walk_at "cond")) | ((with_reducible refine' w_mul ?hc ?_); (case hc => walk_at "cond"))
  | ((with_reducible refine' w_mod ?hc ?_); (case hc => walk_at "cond")) | ((with_reducible refine' w_pow ?hc ?_); (case hc => walk_at "cond")))
local macro_rules | `(tactic| walk_at "wp") => `(tactic| repeat walk_at "wp1")
section
variable {P : Program} {w : World} {K : PySem.W.Frag} {mg : Str → Option Value} {base : Heap}
/-! ### the rest of the reader: refusals, a row that fills -/
def Keep2 (r d : Addr) (H H' : Hp) : Prop := ∀ b o, b ≠ r → b ≠ d → H b = some o → H' b = some o
theorem Keep2.of1 {r d : Addr} {H H' : Hp} (k : Fw.Keep r H H') : Keep2 r d H H' := fun b o h1 _ h => k b o h1 h
theorem Keep2.of2 {r d : Addr} {H H' : Hp} (k : Fw.Keep d H H') : Keep2 r d H H' := fun b o _ h2 h => k b o h2 h
theorem Keep2.trans {r d : Addr} {H H1 H2 : Hp} (a : Keep2 r d H H1) (b : Keep2 r d H1 H2) : Keep2 r d H H2 := fun c o h1 h2 h => b c o h1 h2 (a c o h1 h2 h)
theorem Keep2.same {r d : Addr} {H H1 H2 : Hp} (a : Keep2 r d H H1) (b : Same H1 H2) : Keep2 r d H H2 := fun c o h1 h2 h => b c o (a c o h1 h2 h)
theorem Keep2.new {r d : Addr} {H H1 H2 : Hp} (a : Fw.Keep d H H1) (b : Keep2 r d H1 H2) (nr : H r = none) : Fw.Keep d H H2 := fun c o h2 h => b c o (ne_of_none h nr) h2 (a c o h2 h)
theorem Keep2.newL {r d l : Addr} {H H1 H2 : Hp} (a : Keep2 r d H H1) (b : Fw.Keep l H1 H2) (nl : H l = none) : Keep2 r d H H2 := fun c o h1 h2 h => b c o (ne_of_none h nl) (a c o h1 h2 h)
/-- a refusal with row n; the objects at r and rd changed or not -/
def BadR2 (K : PySem.W.Frag) (E : XK) (n : Int) (r rd : Addr) (H : Hp) : Prop := ∀ d H', H d = none → H' d = some (.xd [("row", .int n)]) → Keep2 r rd H H' → E (.ref (He.ga K "BadText")) (some d) H'
theorem none_of_keep2 {r rd d : Addr} {H H1 : Hp} {o o' : HO} (k : Keep2 r rd H H1) (hr : H1 r = some o) (hd : H1 rd = some o') (nd : H1 d = none) : H d = none := by
  cases e : H d with
  | none => rfl
  | some x =>
    by_cases h1 : d = r
    · subst h1
      rw [hr] at nd
      cases nd
    · by_cases h2 : d = rd
      · subst h2
        rw [hd] at nd
        cases nd
      · rw [k d x h1 h2 e] at nd
        cases nd
theorem none_of_keep {rd d : Addr} {H H1 : Hp} {o : HO} (k : Fw.Keep rd H H1) (hd : H1 rd = some o) (nd : H1 d = none) : H d = none := by
  cases e : H d with
  | none => rfl
  | some x =>
    by_cases h2 : d = rd
    · subst h2
      rw [hd] at nd
      cases nd
    · rw [k d x h2 e] at nd
      cases nd
theorem none_of_same {d : Addr} {H H1 : Hp} (k : Same H H1) (nd : H1 d = none) : H d = none := by
  cases e : H d with
  | none => rfl
  | some x =>
    rw [k d x e] at nd
    cases nd
theorem BadR2.one {E : XK} {n : Int} {r rd : Addr} {H H1 : Hp} {o o' : HO} (h : BadR2 K E n r rd H) (k : Keep2 r rd H H1) (hr : H1 r = some o) (hd : H1 rd = some o') : BadR K E n r H1 := fun d H' nd ed kd => h d H' (none_of_keep2 k hr hd nd) ed (k.trans (Keep2.of1 kd))
theorem BadR2.two {E : XK} {n : Int} {r rd : Addr} {H H1 : Hp} {o o' : HO} (h : BadR2 K E n r rd H) (k : Keep2 r rd H H1) (hr : H1 r = some o) (hd : H1 rd = some o') : BadR K E n rd H1 := fun d H' nd ed kd => h d H' (none_of_keep2 k hr hd nd) ed (k.trans (Keep2.of2 kd))
theorem RowAt.rd {H H' : Hp} {r rd ml : Addr} {ms : List Str} {p : Nat} {n : Int} {b : Nat} {o : HO} (R : RowAt K H r ml ms p n b) (k : Fw.Keep rd H H') (hd : H rd = Option.some o) (ho : ∀ xs, o ≠ .lst xs) (hn : r ≠ rd) : RowAt K H' r ml ms p n b := by
  obtain ⟨ok, dx, er, el⟩ := R
  exact ⟨ok, dx, k _ _ hn er, k _ _ (ne_of el hd (fun z => ho _ z.symm)) el⟩
def spRBad (K : PySem.W.Frag) : Sp := fun vs H Q E => ∃ rd dx l as rows p, vs = [.ref rd] ∧ RdrA K H rd dx l as rows p ∧ BadR K E ((p + 1 : Nat) : Int) rd H
def lkS (N : Nat) : LK → Option S
  | .fill x pl t => some (.fill N x pl t)
  | .call x pl h ps => some (.call N x pl h ps)
  | _ => none
def filledS (N : Nat) (ms : List Str) : Option S := (filledM ms).bind (lkS N)
def spFilled (K : PySem.W.Frag) : Sp := fun vs H Q E => ∃ rd r ml ms, ∃ N : Nat, vs = [.ref rd, .ref r] ∧ RowAt K H r ml ms 0 (N : Int) 0 ∧
  match filledS N ms with
  | some s => ∀ a H', StepAt K H' a s → Fw.Keep r H H' → Q (.ref a) H'
  | none => BadR K E (N : Int) r H
section
variable (T : Fre mg) (CS : Cst K mg) (CF : ClsF K clsL attL) (MF : MthF K) (Z_BadText : Exk K mg "BadText") (ini2 : IniOk P w K mg base [])
include T CS CF MF
section
include Z_BadText ini2
theorem m_Reader_bad (F : MDef K "Reader" "bad" "Reader.bad" s_Reader_bad)  : Met P w K mg base 3 "Reader" "bad" (spRBad K) := by
  refine met_of F (CF.cl _ (by decide +kernel)) (MF.m _ _ (by decide +kernel)) sc_Reader_bad b_Reader_bad (fun vs H Q E h => ?_) (fun cdv A outer s H vs Q E hr h => ?_)
  · obtain ⟨_, _, _, _, _, _, rfl, _⟩ := h
    rfl
  · obtain ⟨rd, dx, l, as, rows, p, rfl, R, h⟩ := h
    obtain ⟨hl, hdp, er, el, RA⟩ := id R
    have ep : ((p + 1 : Nat) : Int) = (p : Int) + 1 := by omega
    rw [ep] at h
    have po := passes_of (X := cxOf (L2N.CX P w) P w K mg base ["self"] "Reader.bad" (defScope s_Reader_bad) (He.ma K (He.ga K "Reader") "bad") cdv A outer s H E) rfl
    have tk := L2N.takes_of (X := cxOf (L2N.CX P w) P w K mg base ["self"] "Reader.bad" (defScope s_Reader_bad) (He.ma K (He.ga K "Reader") "bad") cdv A outer s H E) (E := E) rfl rfl rfl rfl
    have pc := L2N.passes_call tk (fun _ _ _ _ h => h) (E := E)
    have hu64 : (cxOf (L2N.CX P w) P w K mg base ["self"] "Reader.bad" (defScope s_Reader_bad) (He.ma K (He.ga K "Reader") "bad") cdv A outer s H E).A.units + 64 < cLine := by
      have := hr.un
      show (A.deeper _).units + 64 < cLine
      omega
    refine ⟨_, (pss_one (ps_rz (dv := []) Z_BadText ini2 rfl hr (by omega) tk (pa_cons pe_str (pa_cons (pe_op o_add (pe_fld (pv 0) rfl) pe_int) pa_nil)))), ?_⟩
    refine w_start [some (.ref rd)] rfl ?_
    try dsimp only [cxOf]
    walk_at "wp"
    exact rzL Z_BadText _ _ rfl fun d H5 nd ed sd => h d H5 nd ed sd.toKeep
end
theorem m_Reader_read_filled (F : MDef K "Reader" "read_filled" "Reader.read_filled" s_Reader_read_filled) (m_Row_read_known : Met P w K mg base 6 "Row" "read_known" (spKnown K)) (m_Row_must : Met P w K mg base 4 "Row" "must" (spMust K)) (m_Row_behind : Met P w K mg base 1 "Row" "behind" (spBehind K)) (m_Row_now : Met P w K mg base 1 "Row" "now" (spNow K)) (m_Row_read_name : Met P w K mg base 4 "Row" "read_name" (spName K)) (m_Row_read_terms : Met P w K mg base 37 "Row" "read_terms" (spTerms K)) (m_Row_read_term : Met P w K mg base 36 "Row" "read_term" (spRd K 0 fun ms => rTerm ms 9)) (m_Row_ended : Met P w K mg base 4 "Row" "ended" (spEnded K)) (k_Called : Mak P w K mg base 2 "Called" (spIni (He.ga K "Called") [] ["row", "target", "helper", "parts"])) (k_Fill : Mak P w K mg base 2 "Fill" (spIni (He.ga K "Fill") [] ["row", "target", "term"])) : Met P w K mg base 38 "Reader" "read_filled" (spFilled K) := by
  refine met_of F (CF.cl _ (by decide +kernel)) (MF.m _ _ (by decide +kernel)) sc_Reader_read_filled b_Reader_read_filled (fun vs H Q E h => ?_) (fun cdv A outer s H vs Q E hr h => ?_)
  · obtain ⟨_, _, _, _, _, rfl, _⟩ := h
    rfl
  · obtain ⟨rd, r, ml, ms, N, rfl, R, h⟩ := h
    obtain ⟨ok, dx, er, el⟩ := id R
    have po := passes_of (X := cxOf (L2N.CX P w) P w K mg base ["self", "row", "target", "helper", "parts", "term"] "Reader.read_filled" (defScope s_Reader_read_filled) (He.ma K (He.ga K "Reader") "read_filled") cdv A outer s H E) rfl
    have tk := L2N.takes_of (X := cxOf (L2N.CX P w) P w K mg base ["self", "row", "target", "helper", "parts", "term"] "Reader.read_filled" (defScope s_Reader_read_filled) (He.ma K (He.ga K "Reader") "read_filled") cdv A outer s H E) (E := E) rfl rfl rfl rfl
    have pc := L2N.passes_call tk (fun _ _ _ _ h => h) (E := E)
    have hu64 : (cxOf (L2N.CX P w) P w K mg base ["self", "row", "target", "helper", "parts", "term"] "Reader.read_filled" (defScope s_Reader_read_filled) (He.ma K (He.ga K "Reader") "read_filled") cdv A outer s H E).A.units + 64 < cLine := by
      have := hr.un
      show (A.deeper _).units + 64 < cLine
      omega
    refine ⟨_, (pss_cons (ps_set (i := 2) sc_Reader_read_filled.nd rfl (loc_of rfl) (pe_mt0 m_Row_read_known (pv 1) hr (by omega) pc))
      (pss_cons (ps_expr (pe_mt m_Row_must (pv 1) hr (by omega) pc (pa_cons pe_str pa_nil)))
      (Evl.pss_cut (ps_if (PW.pt (pw_and (pt_cmpR op_eq (pe_mt0 m_Row_behind (pv 1) hr (by omega) pc) pe_str (nomark _)) (pw_and1 (pt_cmpR op_ne (pe_mt0 m_Row_now (pv 1) hr (by omega) pc) pe_str (nomark _))))) (pss_cons (ps_set (i := 3) sc_Reader_read_filled.nd rfl (loc_of rfl) (pe_mt0 m_Row_read_name (pv 1) hr (by omega) pc))
      (pss_cons (ps_expr (pe_mt m_Row_must (pv 1) hr (by omega) pc (pa_cons pe_str pa_nil)))
      (pss_cons (ps_set (i := 4) sc_Reader_read_filled.nd rfl (loc_of rfl) (pe_lk (pe_mt0 m_Row_read_terms (pv 1) hr (by omega) pc)))
      (pss_cons (ps_expr (pe_mt m_Row_must (pv 1) hr (by omega) pc (pa_cons pe_str pa_nil)))
      (pss_cons (ps_expr (pe_mt0 m_Row_ended (pv 1) hr (by omega) pc))
      (pss_one (ps_ret (pe_mkS k_Called hr (by omega) pc (pa_cons (pe_fld (pv 1) rfl) (pa_cons (pv 2) (pa_cons (pv 3) (pa_cons (pv 4) pa_nil)))))))))))) pss_nil)
      (pss_cons (ps_set (i := 5) sc_Reader_read_filled.nd rfl (loc_of rfl) (pe_mt0 m_Row_read_term (pv 1) hr (by omega) pc))
      (pss_cons (ps_expr (pe_mt0 m_Row_ended (pv 1) hr (by omega) pc))
      (pss_one (ps_ret (pe_mkS k_Fill hr (by omega) pc (pa_cons (pe_fld (pv 1) rfl) (pa_cons (pv 2) (pa_cons (pv 5) pa_nil))))))))))), ?_⟩
    refine w_start [some (.ref rd), some (.ref r), none, none, none, none] rfl ?_
    try dsimp only [cxOf]
    unfold filledS filledM at h
    walk_at "wp"
    refine ⟨0, r, ml, ms, 0, _, rfl, R, ?_⟩
    dsimp only
    cases e1 : rKnown ms 0 with
    | none =>
      rw [e1] at h
      exact h
    | some z1 =>
    obtain ⟨t1, p1⟩ := z1
    obtain ⟨x, pl, rfl⟩ := rKnown_kn e1
    rw [e1] at h
    simp only [Option.bind_some] at h
    refine fun b H1 T1 R1 k1 => ?_
    obtain ⟨_, dx1, er1, el1⟩ := id R1
    walk_at "wp"
    refine ⟨r, ml, ms, p1, _, 0, _, rfl, R1, ?_⟩
    cases e2 : must ms "=" p1 with
    | none =>
      rw [e2] at h
      exact h.on k1 R1
    | some p2 =>
    rw [e2] at h
    simp only [Option.bind_some] at h
    refine fun H2 R2 k2 => ?_
    obtain ⟨_, dx2, er2, el2⟩ := id R2
    have k12 := k1.trans k2
    have T2 := T1.keep (R1.kn k2)
    walk_at "wp"
    refine w_cut (fun σ' H' => σ' = [some (.ref rd), some (.ref r), some (.ref b), none, none, none] ∧ H' = H2 ∧ ¬ (now ms (p2 + 1) = "(" ∧ now ms p2 ≠ "(")) ?_ (fun σ' H' hm => ?_)
    · walk_at "wp"
      refine ⟨r, ml, ms, p2, _, 0, rfl, R2, ?_⟩
      walk_at "wp"
      refine w_dec (fun h1 => ?_) (fun h1 => ?_)
      · walk_at "wp"
        refine ⟨r, ml, ms, p2, _, 0, rfl, R2, ?_⟩
        walk_at "wp"
        refine w_decN (fun h2 => ?_) (fun h2 => ?_)
        · rw [if_pos ⟨h1, h2⟩] at h
          walk_at "wp"
          refine ⟨r, ml, ms, p2, _, 0, rfl, R2, ?_⟩
          cases e3 : rName ms p2 with
          | none =>
            rw [e3] at h
            exact h.on k12 R2
          | some z3 =>
          obtain ⟨y, p3⟩ := z3
          rw [e3] at h
          simp only [Option.bind_some] at h
          refine fun H3 R3 k3 => ?_
          obtain ⟨_, dx3, er3, el3⟩ := id R3
          have k13 := k12.trans k3
          have T3 := T2.keep (R2.kn k3)
          walk_at "wp"
          refine ⟨r, ml, ms, p3, _, 0, _, rfl, R3, ?_⟩
          cases e4 : must ms "(" p3 with
          | none =>
            rw [e4] at h
            exact h.on k13 R3
          | some p4 =>
          rw [e4] at h
          simp only [Option.bind_some] at h
          refine fun H4 R4 k4 => ?_
          obtain ⟨_, dx4, er4, el4⟩ := id R4
          have k14 := k13.trans k4
          have T4 := T3.keep (R3.kn k4)
          walk_at "wp"
          refine ⟨r, ml, ms, p4, _, rfl, R4, ?_⟩
          dsimp only
          cases e5 : sqM ms (rTerm ms 9) p4 with
          | none =>
            rw [e5] at h
            exact h.on k14 R4
          | some z5 =>
          obtain ⟨ts, p5⟩ := z5
          rw [e5] at h
          simp only [Option.bind_some] at h
          refine fun l as H5 nl e5' TA R5 k5 => ?_
          obtain ⟨_, dx5, er5, el5⟩ := id R5
          have k15 := k14.trans k5
          have T5 := T4.keep (R4.kn k5)
          have nl0 : H l = none := none_of_keep k14 er4 nl
          have nml : ml ≠ l := ne_of_none el nl0
          walk_at "wp"
          refine fun H6 f6 k6 => ?_
          have kL := Keep.keepL k6 e5'
          have R6 := rowAt_lst R5 k6 e5' nml
          have k16 := keep_new k15 k6 nl0
          have T6 := T5.keep kL
          have TA6 := TA.keep kL
          obtain ⟨_, dx6, er6, el6⟩ := id R6
          walk_at "wp"
          refine ⟨r, ml, ms, p5, _, 0, _, rfl, R6, ?_⟩
          cases e7 : must ms ")" p5 with
          | none =>
            rw [e7] at h
            exact h.on k16 R6
          | some p7 =>
          rw [e7] at h
          simp only [Option.bind_some] at h
          refine fun H7 R7 k7 => ?_
          obtain ⟨_, dx7, er7, el7⟩ := id R7
          have k17 := k16.trans k7
          have T7 := T6.keep (R6.kn k7)
          have TA7 := TA6.keep (R6.kn k7)
          have f7 := f6.keepN (R6.kn k7)
          walk_at "wp"
          refine ⟨r, ml, ms, p7, _, 0, rfl, R7, fun h7 => ?_, fun h7 => ?_⟩
          · unfold ended at h
            rw [if_pos h7] at h
            walk_at "wp"
            refine ⟨rfl, fun a da H8 na ea sa => ?_⟩
            refine h a H8 ?_ (k17.same sa)
            unfold StepAt
            exact ⟨da, b, l, as, ea, T7.keep sa.keepN, f7.same sa, TA7.keep sa.keepN⟩
          · unfold ended at h
            rw [if_neg (by omega)] at h
            exact h.on k17 R7
        · walk_at "wp"
          exact ⟨rfl, rfl, fun z => z.2 h2⟩
      · walk_at "wp"
        exact ⟨rfl, rfl, fun z => h1 z.1⟩
    · obtain ⟨rfl, rfl, hc⟩ := hm
      rw [if_neg hc] at h
      walk_at "wp"
      refine ⟨r, ml, ms, p2, _, rfl, R2, ?_⟩
      dsimp only
      cases e3 : rTerm ms 9 p2 with
      | none =>
        rw [e3] at h
        exact h.on k12 R2
      | some z3 =>
      obtain ⟨t3, p3⟩ := z3
      rw [e3] at h
      simp only [Option.bind_some] at h
      refine fun c H3 T3 R3 k3 => ?_
      obtain ⟨_, dx3, er3, el3⟩ := id R3
      have k13 := k12.trans k3
      have T2' := T2.keep (R2.kn k3)
      walk_at "wp"
      refine ⟨r, ml, ms, p3, _, 0, rfl, R3, fun h7 => ?_, fun h7 => ?_⟩
      · unfold ended at h
        rw [if_pos h7] at h
        walk_at "wp"
        refine ⟨rfl, fun a da H8 na ea sa => ?_⟩
        refine h a H8 ?_ (k13.same sa)
        unfold StepAt
        exact ⟨da, b, c, ea, T2'.keep sa.keepN, T3.keep sa.keepN⟩
      · unfold ended at h
        rw [if_neg (by omega)] at h
        exact h.on k13 R3
end
end
end Lw

namespace Lw
open PySem PySem.Spec PyProof.Rows L2 Fw Htx Ob Tx Rd Lk
local macro_rules | `(tactic| walk_at "cond") => `(tactic| first | assumption | (with_reducible exact cdiv_small (by omega) (by omega)) | (with_reducible exact cmul_small (by omega) (by omega)) | (with_reducible exact cpow_mk (by omega) (by omega) (by omega)) | omega)
local macro_rules | `(tactic| walk_at "ne") => `(tactic| first | assumption | exact Ne.symm (by assumption) | exact ne_of_none (by assumption) (by assumption) | exact Ne.symm (ne_of_none (by assumption) (by assumption)))
local macro_rules | `(tactic| walk_at "at") => `(tactic| first
  | assumption
  | (with_reducible exact upd_same)
  | ((with_reducible refine' at_same ?hk ?hh); (case hk => assumption); (case hh => walk_at "at"))
  | ((with_reducible refine' at_keepT ?hk ?hh ?hd); (case hk => assumption); (case hh => walk_at "at"); (case hd => walk_at "at"))
  | ((with_reducible refine' at_keep ?hk ?hh ?hn); (case hk => assumption); (case hh => walk_at "at"); (case hn => walk_at "ne")))
local macro_rules | `(tactic| walk_at "hp") => `(tactic| first
  | assumption
  | (with_reducible exact FrL.sql (by assumption))
  | ((with_reducible refine' SqT.of ?hq); (case hq => walk_at "at")) | ((with_reducible refine' SqL.of ?hq); (case hq => walk_at "at"))
  | ((with_reducible refine' sql_same ?hk ?hh); (case hk => assumption); (case hh => walk_at "hp"))
  | ((with_reducible refine' sql_keep ?hk ?hh ?hn); (case hk => assumption); (case hh => walk_at "hp"); (case hn => walk_at "ne"))
  | ((with_reducible refine' sqt_same ?hk ?hh); (case hk => assumption); (case hh => walk_at "hp")))
local macro_rules | `(tactic| walk_at "wp1") => `(tactic| first
  | with_reducible refine w_mt ?_ | ((with_reducible refine' w_mt1 ?ha ?hl ?_); (case ha => walk_at "at"); (case hl => rfl))
  | with_reducible refine w_fld ?_ | ((with_reducible refine' w_fld1 ?ha (ClsF.cl (cs := clsL) (as := attL) (by assumption) _ ?hc) (ClsF.no (cs := clsL) (as := attL) (by assumption) _ _ ?hn) ?hl ?_); (case ha => walk_at "at"); (case hc => decide +kernel); (case hn => decide +kernel); (case hl => rfl))
  | with_reducible refine w_sfld ?_ | ((with_reducible refine' w_sfld1 ?ha (ClsF.cl (cs := clsL) (as := attL) (by assumption) _ ?hc) (ClsF.no (cs := clsL) (as := attL) (by assumption) _ _ ?hn) ?he ?hl ?_); (case ha => walk_at "at"); (case hc => decide +kernel); (case hn => decide +kernel); (case he => rfl); (case hl => rfl))
  | with_reducible refine w_lk ?_ | ((with_reducible refine' lkL ?ha ?_); (case ha => walk_at "at")) | with_reducible refine w_mkS ?_ | with_reducible refine w_mk ?_ | with_reducible refine w_bas ?_ | with_reducible refine w_m1 ?_ | with_reducible refine w_isS ?_ | with_reducible refine w_bm0 ?_ | with_reducible refine w_iS ?_ | with_reducible refine w_chain ?_
  | with_reducible refine w_inSg ?_ | with_reducible refine w_ninSg ?_
  | with_reducible refine w_rz ?_ | with_reducible refine w_calX ?_ | with_reducible refine w_calS ?_ | with_reducible refine w_row ?_
  | with_reducible refine w_seq ?_ | with_reducible refine w_set ?_ | with_reducible refine w_drop ?_ | with_reducible refine w_ret ?_ | with_reducible refine w_ifS ?_ | with_reducible refine w_next ?_
  | ((with_reducible refine' w_var ?hv ?_); (case hv => rfl)) | with_reducible refine w_c ?_
  | with_reducible refine w_op ?_ | with_reducible refine w_un ?_ | with_reducible refine w_cb ?_ | with_reducible refine w_cal ?_ | with_reducible refine w_cons ?_ | with_reducible refine w_nil ?_
  | with_reducible refine w_plus ?_ | with_reducible refine w_minus ?_ | with_reducible refine w_lt ?_ | with_reducible refine w_le ?_ | with_reducible refine w_gt ?_ | with_reducible refine w_ge ?_
  | with_reducible refine w_eqI ?_ | with_reducible refine w_neI ?_ | with_reducible refine w_eqB ?_ | with_reducible refine w_neB ?_ | with_reducible refine w_eqS ?_ | with_reducible refine w_neS ?_
  | with_reducible refine w_neg ?_ | with_reducible refine w_abs ?_ | with_reducible refine w_intB ?_ | with_reducible refine w_test ?_ | with_reducible refine w_tB ?_ | with_reducible refine w_bl ?_
  | with_reducible refine w_and ?_ | with_reducible refine w_or ?_ | with_reducible refine w_not ?_ | with_reducible refine w_andV ?_ | with_reducible refine w_orV ?_ | with_reducible refine w_notV ?_ | with_reducible refine w_ifE ?_
  | with_reducible refine w_nyes ?_ | with_reducible refine w_nno ?_ | with_reducible refine w_yes ?_ | with_reducible refine w_no ?_
  | ((with_reducible refine' w_ixL ?ha ?hb ?_); (case ha => walk_at "hp"); (case hb => rfl)) | ((with_reducible refine' w_ixT ?ha ?hb ?_); (case ha => walk_at "hp"); (case hb => rfl))
  | ((with_reducible refine' w_lenL ?ha ?_); (case ha => walk_at "hp")) | ((with_reducible refine' w_lenT ?ha ?_); (case ha => walk_at "hp"))
  | with_reducible refine w_min2 ?_ | with_reducible refine w_max2 ?_ | with_reducible refine w_bm ?_ | with_reducible refine w_lc ?_ | ((with_reducible refine' w_tyL ?ha ?_); (case ha => walk_at "at"))
  | with_reducible refine isi_ii ?_ | with_reducible refine isi_ib ?_ | with_reducible refine isi_bb ?_ | with_reducible refine isi_ss ?_
  | ((with_reducible refine' isi_tt ?ha ?_); (case ha => walk_at "at")) | ((with_reducible refine' isi_ll ?ha ?_); (case ha => walk_at "at"))
  | with_reducible refine w_par ?_ | with_reducible refine w_par2 ?_ | with_reducible refine w_for ?_ | with_reducible refine w_iL ?_ | with_reducible refine w_iT ?_ | with_reducible refine w_iR1 ?_ | with_reducible refine w_iR2 ?_
  | with_reducible refine w_tup ?_ | with_reducible refine w_lst ?_
  | with_reducible refine w_asg ?_ | with_reducible refine w_gname ?_ | with_reducible refine w_gcons ?_ | with_reducible refine w_gnil ?_ | with_reducible refine w_gsub ?_
  | ((with_reducible refine' w_gtup ?ha ?hb ?_); (case ha => walk_at "hp"); (case hb => rfl))
  | ((with_reducible refine' w_fdiv ?hc ?_); (case hc => walk_at "cond")) | ((with_reducible refine' w_mul ?hc ?_); (case hc => walk_at "cond"))
  | ((with_reducible refine' w_mod ?hc ?_); (case hc => walk_at "cond")) | ((with_reducible refine' w_pow ?hc ?_); (case hc => walk_at "cond")))
local macro_rules | `(tactic| walk_at "wp") => `(tactic| repeat walk_at "wp1")
section
variable {P : Program} {w : World} {K : PySem.W.Frag} {mg : Str → Option Value} {base : Heap}
/-! ### steps and blocks, at any depth -/
def spBlk (K : PySem.W.Frag) (d : Nat) (f : Rows → Bk) : Sp := fun vs H Q E => ∃ rd dx l as rows p, vs = [.ref rd, .int (d : Int)] ∧ RdrA K H rd dx l as rows p ∧
  match f rows p with
  | .ok (ss, p') => ∀ b H', BlkAt K H' b ss → RdrA K H' rd dx l as rows p' → Fw.Keep rd H H' → Q (.ref b) H'
  | .error e => BadR K E ((e : Nat) : Int) rd H
def spStp (K : PySem.W.Frag) (d : Nat) (f : Rows → Bk) : Sp := fun vs H Q E => ∃ rd dx l as rows p, vs = [.ref rd, .int (d : Int)] ∧ RdrA K H rd dx l as rows p ∧ firstM rows p d ∉ endL ∧
  match stepM rows (f rows) d p with
  | .ok (s, p') => ∀ b H', StepAt K H' b s → RdrA K H' rd dx l as rows p' → Fw.Keep rd H H' → Q (.ref b) H'
  | .error e => BadR K E ((e : Nat) : Int) rd H
def condS (rows : Rows) (blk : Bk) (d N : Nat) (ms : List Str) (p : Nat) : Except Nat (S × Nat) := match condM ms with
  | some (.cond a b) => choiceM rows blk d N a b p
  | _ => .error N
def spCho (K : PySem.W.Frag) (d : Nat) (f : Rows → Bk) : Sp := fun vs H Q E => ∃ rd dx l as rows p r ml ms, ∃ N : Nat, vs = [.ref rd, .ref r, .int (d : Int)] ∧ RdrA K H rd dx l as rows p ∧ RowAt K H r ml ms 1 (N : Int) 0 ∧ r ≠ rd ∧
  match condS rows (f rows) d N ms p with
  | .ok (s, p') => ∀ b H', StepAt K H' b s → RdrA K H' rd dx l as rows p' → Keep2 r rd H H' → Q (.ref b) H'
  | .error e => BadR2 K E ((e : Nat) : Int) r rd H
theorem RdrA.row {H H' : Hp} {rd dx l r ml : Addr} {as : List Addr} {rows : Rows} {p p' : Nat} {ms : List Str} {n : Int} {b : Nat} (R : RdrA K H rd dx l as rows p) (W : RowAt K H r ml ms p' n b) (k : Fw.Keep r H H') (hn : r ≠ rd) : RdrA K H' rd dx l as rows p := by
  obtain ⟨h1, h2, er, el, RA⟩ := R
  obtain ⟨_, dw, ew, _⟩ := W
  exact ⟨h1, h2, k _ _ (Ne.symm hn) er, k _ _ (ne_of el ew (by intro z; cases z)) el, RA.keep (fun a xs h => k _ _ (ne_of h ew (by intro z; cases z)) h) (fun a xs h => k _ _ (ne_of h ew (by intro z; cases z)) h)⟩
theorem RdrA.kn {H H' : Hp} {rd dx l : Addr} {as : List Addr} {rows : Rows} {p : Nat} (R : RdrA K H rd dx l as rows p) (k : Fw.Keep rd H H') : KeepN H H' := Keep.keepN k R.2.2.1 (.inr rfl)
theorem RowAt.rdr {H H' : Hp} {r rd dx l ml : Addr} {as : List Addr} {rows : Rows} {p q : Nat} {ms : List Str} {n : Int} {b : Nat} (R : RowAt K H r ml ms p n b) (D : RdrA K H rd dx l as rows q) (k : Fw.Keep rd H H') (hn : r ≠ rd) : RowAt K H' r ml ms p n b := RowAt.rd R k D.2.2.1 (fun xs z => by cases z) hn
theorem firstM_row {rows : Rows} {p d : Nat} (h : firstM rows p d ≠ "") : ∃ ms, rows[p]? = some (d, ms) ∧ marksAt rows p = ms ∧ now ms 0 = firstM rows p d := by
  unfold firstM at h ⊢
  cases e : rows[p]? with
  | none =>
    rw [e] at h
    exact absurd rfl h
  | some q =>
    obtain ⟨d', ms⟩ := q
    rw [e] at h
    dsimp only at h ⊢
    split at h
    · rename_i hd
      subst hd
      rw [if_pos rfl]
      refine ⟨ms, rfl, ?_, rfl⟩
      unfold marksAt
      rw [List.getD_eq_getElem?_getD, e]
      rfl
    · exact absurd rfl h
theorem row_at {rows : Rows} {p : Nat} (h : p < rows.length) : ∃ d, rows[p]? = some (d, marksAt rows p) := by
  refine ⟨rows[p].1, ?_⟩
  unfold marksAt
  rw [List.getD_eq_getElem?_getD, List.getElem?_eq_getElem h]
  rfl
section
variable (T : Fre mg) (CS : Cst K mg) (CF : ClsF K clsL attL) (MF : MthF K)
include T CF MF
theorem read_choice_at (F : MDef K "Reader" "read_choice" "Reader.read_choice" s_Reader_read_choice) {d L : Nat} {f : Rows → Bk} (hL : 37 ≤ L) (m_Reader_read_block : Met P w K mg base L "Reader" "read_block" (spBlk K (d + 1) f))
    (m_Row_read_term : Met P w K mg base 36 "Row" "read_term" (spRd K 0 fun ms => rTerm ms 9)) (m_Row_must : Met P w K mg base 4 "Row" "must" (spMust K)) (m_Row_ended : Met P w K mg base 4 "Row" "ended" (spEnded K)) (m_Reader_first : Met P w K mg base 1 "Reader" "first" (spFirst K)) (m_Reader_taken : Met P w K mg base 3 "Reader" "taken" (spTaken K)) (k_Choice : Mak P w K mg base 2 "Choice" (spIni (He.ga K "Choice") [] ["row", "one", "two", "yes", "no"])) : Met P w K mg base (L + 1) "Reader" "read_choice" (spCho K d f) := by
  refine met_of F (CF.cl _ (by decide +kernel)) (MF.m _ _ (by decide +kernel)) sc_Reader_read_choice b_Reader_read_choice (fun vs H Q E h => ?_) (fun cdv A outer s H vs Q E hr h => ?_)
  · obtain ⟨_, _, _, _, _, _, _, _, _, _, rfl, _⟩ := h
    rfl
  · obtain ⟨rd, dx, l, as, rows, p, r, ml, ms, N, rfl, D, R, nrd, h⟩ := h
    obtain ⟨_, dr, er, el⟩ := id R
    have erd := D.2.2.1
    have po := passes_of (X := cxOf (L2N.CX P w) P w K mg base ["self", "row", "depth", "one", "two", "yes", "no", "other"] "Reader.read_choice" (defScope s_Reader_read_choice) (He.ma K (He.ga K "Reader") "read_choice") cdv A outer s H E) rfl
    have tk := L2N.takes_of (X := cxOf (L2N.CX P w) P w K mg base ["self", "row", "depth", "one", "two", "yes", "no", "other"] "Reader.read_choice" (defScope s_Reader_read_choice) (He.ma K (He.ga K "Reader") "read_choice") cdv A outer s H E) (E := E) rfl rfl rfl rfl
    have pc := L2N.passes_call tk (fun _ _ _ _ h => h) (E := E)
    have hu64 : (cxOf (L2N.CX P w) P w K mg base ["self", "row", "depth", "one", "two", "yes", "no", "other"] "Reader.read_choice" (defScope s_Reader_read_choice) (He.ma K (He.ga K "Reader") "read_choice") cdv A outer s H E).A.units + 64 < cLine := by
      have := hr.un
      show (A.deeper _).units + 64 < cLine
      omega
    refine ⟨_, (pss_cons (ps_set (i := 3) sc_Reader_read_choice.nd rfl (loc_of rfl) (pe_mt0 m_Row_read_term (pv 1) hr (by omega) pc))
      (pss_cons (ps_expr (pe_mt m_Row_must (pv 1) hr (by omega) pc (pa_cons pe_str pa_nil)))
      (pss_cons (ps_set (i := 4) sc_Reader_read_choice.nd rfl (loc_of rfl) (pe_mt0 m_Row_read_term (pv 1) hr (by omega) pc))
      (pss_cons (ps_expr (pe_mt0 m_Row_ended (pv 1) hr (by omega) pc))
      (pss_cons (ps_set (i := 5) sc_Reader_read_choice.nd rfl (loc_of rfl) (pe_mt m_Reader_read_block (pv 0) hr (by omega) pc (pa_cons (pe_op o_add (pv 2) pe_int) pa_nil)))
      (pss_cons (ps_set (i := 6) sc_Reader_read_choice.nd rfl (loc_of rfl) (pe_lk (pe_lst pa_nil)))
      (Evl.pss_cut (ps_if (pt_cmpR op_eq (pe_mt m_Reader_first (pv 0) hr (by omega) pc (pa_cons (pv 2) pa_nil)) pe_str (nomark _)) (pss_cons (ps_set (i := 7) sc_Reader_read_choice.nd rfl (loc_of rfl) (pe_mt0 m_Reader_taken (pv 0) hr (by omega) pc))
      (pss_cons (ps_expr (pe_mt m_Row_must (pv 7) hr (by omega) pc (pa_cons pe_str pa_nil)))
      (pss_cons (ps_expr (pe_mt0 m_Row_ended (pv 7) hr (by omega) pc))
      (pss_one (ps_set (i := 6) sc_Reader_read_choice.nd rfl (loc_of rfl) (pe_mt m_Reader_read_block (pv 0) hr (by omega) pc (pa_cons (pe_op o_add (pv 2) pe_int) pa_nil))))))) pss_nil)
      (pss_one (ps_ret (pe_mkS k_Choice hr (by omega) pc (pa_cons (pe_fld (pv 1) rfl) (pa_cons (pv 3) (pa_cons (pv 4) (pa_cons (pv 5) (pa_cons (pv 6) pa_nil))))))))))))))), ?_⟩
    refine w_start [some (.ref rd), some (.ref r), some (.int (d : Int)), none, none, none, none, none] rfl ?_
    try dsimp only [cxOf]
    unfold condS condM at h
    walk_at "wp"
    refine ⟨r, ml, ms, 1, _, rfl, R, ?_⟩
    dsimp only
    cases e1 : rTerm ms 9 1 with
    | none =>
      rw [e1] at h
      exact BadR2.one h (fun _ _ _ _ z => z) er erd
    | some z1 =>
    obtain ⟨t1, p1⟩ := z1
    rw [e1] at h
    simp only [Option.bind_some] at h
    refine fun b H1 T1 R1 k1 => ?_
    have D1 := D.row R k1 nrd
    obtain ⟨_, dr1, er1, el1⟩ := id R1
    walk_at "wp"
    refine ⟨r, ml, ms, p1, _, 0, _, rfl, R1, ?_⟩
    cases e2 : must ms "<" p1 with
    | none =>
      rw [e2] at h
      exact BadR2.one h (Keep2.of1 k1) er1 D1.2.2.1
    | some p2 =>
    rw [e2] at h
    simp only [Option.bind_some] at h
    refine fun H2 R2 k2 => ?_
    have D2 := D1.row R1 k2 nrd
    have T2 := T1.keep (R1.kn k2)
    have k12 := k1.trans k2
    obtain ⟨_, dr2, er2, el2⟩ := id R2
    walk_at "wp"
    refine ⟨r, ml, ms, p2, _, rfl, R2, ?_⟩
    dsimp only
    cases e3 : rTerm ms 9 p2 with
    | none =>
      rw [e3] at h
      exact BadR2.one h (Keep2.of1 k12) er2 D2.2.2.1
    | some z3 =>
    obtain ⟨t3, p3⟩ := z3
    rw [e3] at h
    simp only [Option.bind_some] at h
    refine fun c H3 U3 R3 k3 => ?_
    have D3 := D2.row R2 k3 nrd
    have T3 := T2.keep (R2.kn k3)
    have k13 := k12.trans k3
    obtain ⟨_, dr3, er3, el3⟩ := id R3
    unfold ended at h
    walk_at "wp"
    refine ⟨r, ml, ms, p3, _, 0, rfl, R3, fun h3 => ?_, fun h3 => ?_⟩
    rotate_left
    · rw [if_neg (by omega)] at h
      exact BadR2.one h (Keep2.of1 k13) er3 D3.2.2.1
    rw [if_pos h3] at h
    dsimp only at h
    unfold choiceM at h
    have ed : (d : Int) + 1 = ((d + 1 : Nat) : Int) := by omega
    obtain ⟨_, _, erd3, _, _⟩ := id D3
    walk_at "wp"
    rw [ed]
    refine ⟨rd, dx, l, as, rows, p, rfl, D3, ?_⟩
    cases e4 : f rows p with
    | error e =>
      rw [e4] at h
      exact BadR2.two h (Keep2.of1 k13) er3 D3.2.2.1
    | ok z4 =>
    obtain ⟨yes, p4⟩ := z4
    rw [e4] at h
    dsimp only at h ⊢
    refine fun by_ H4 B4 D4 k4 => ?_
    have R4 := R3.rdr D3 k4 nrd
    have T4 := T3.keep (D3.kn k4)
    have U4 := U3.keep (D3.kn k4)
    have k14 := (Keep2.of1 (d := rd) k13).trans (Keep2.of2 k4)
    obtain ⟨_, dr4, er4, el4⟩ := id R4
    walk_at "wp"
    refine newL fun n0 H5 nn0 en0 s5 => ?_
    walk_at "wp"
    refine fun H6 f6 k6 => ?_
    have nn : H n0 = none := none_of_keep2 k14 er4 D4.2.2.1 nn0
    have s46 : Same H4 H6 := Keep.toSame s5 k6 nn0
    have R6 := R4.same s46
    have D6 := D4.same s46
    have T6 := T4.keep s46.keepN
    have U6 := U4.keep s46.keepN
    have B6 := B4.keep s46.keepN
    have k16 := k14.same s46
    obtain ⟨_, dr6, er6, el6⟩ := id R6
    obtain ⟨_, _, erd6, _, _⟩ := id D6
    walk_at "wp"
    refine w_cut (fun σ' H' => ∃ w7, ∃ no : List S, ∃ ln p7, σ' = [some (.ref rd), some (.ref r), some (.int (d : Int)), some (.ref b), some (.ref c), some (.ref by_), some (.ref ln), w7] ∧ BlkAt K H' ln no ∧ RdrA K H' rd dx l as rows p7 ∧ Fw.Keep rd H6 H' ∧
      (∀ b H', StepAt K H' b (.choice N t1 t3 yes no) → RdrA K H' rd dx l as rows p7 → Keep2 r rd H H' → Q (.ref b) H')) ?_ (fun σ' H' hm => ?_)
    · walk_at "wp"
      refine ⟨rd, rows, p4, d, rfl, D6.at, ?_⟩
      walk_at "wp"
      refine w_dec (fun h4 => ?_) (fun h4 => ?_)
      · rw [if_pos h4] at h
        obtain ⟨mo, ro, rm, r0⟩ := firstM_row (rows := rows) (p := p4) (d := d) (by rw [h4]; decide)
        rw [h4] at r0
        rw [rm] at h
        walk_at "wp"
        refine ⟨rd, dx, l, as, rows, p4, d, mo, rfl, D6, ro, fun r7 m7 H7 nr7 R7 D7 k7 => ?_⟩
        have nr7d : r7 ≠ rd := (ne_of_none D6.2.2.1 nr7).symm
        obtain ⟨_, dr7, er7, el7⟩ := id R7
        walk_at "wp"
        refine ⟨r7, m7, mo, 0, _, 0, _, rfl, R7, ?_⟩
        have em : must mo "else" 0 = some 1 := if_pos r0
        rw [em]
        dsimp only
        refine fun H8 R8 k8 => ?_
        have D8 := D7.row R7 k8 nr7d
        obtain ⟨_, dr8, er8, el8⟩ := id R8
        have k68 : Fw.Keep rd H6 H8 := Keep2.new k7 (Keep2.of1 (d := rd) k8) nr7
        walk_at "wp"
        refine ⟨r7, m7, mo, 1, _, 0, rfl, R8, fun h8 => ?_, fun h8 => ?_⟩
        · rw [if_pos h8] at h
          obtain ⟨_, _, erd8, _, _⟩ := id D8
          walk_at "wp"
          rw [ed]
          refine ⟨rd, dx, l, as, rows, p4 + 1, rfl, D8, ?_⟩
          have R8r := R6.rdr D6 k68 nrd
          obtain ⟨_, _, er8r, _⟩ := id R8r
          cases e9 : f rows (p4 + 1) with
          | error e =>
            rw [e9] at h
            exact BadR2.two h (k16.trans (Keep2.of2 k68)) er8r D8.2.2.1
          | ok z9 =>
          obtain ⟨no, p9⟩ := z9
          rw [e9] at h
          dsimp only at h ⊢
          refine fun ln H9 B9 D9 k9 => ?_
          walk_at "wp"
          exact ⟨_, no, ln, p9, rfl, B9, D9, k68.trans k9, h⟩
        · rw [if_neg (by omega)] at h
          have R8r := R6.rdr D6 k68 nrd
          obtain ⟨_, _, er8r, _⟩ := id R8r
          have k18 := k16.trans (Keep2.of2 (r := r) k68)
          have nr70 : H r7 = none := none_of_keep2 k16 er6 D6.2.2.1 nr7
          exact fun dd H9 nd9 ed9 kd9 => h dd H9 (none_of_keep2 k18 er8r D8.2.2.1 nd9) ed9 (fun b o h1 h2 hb => kd9 b o (ne_of_none hb nr70) (k18 b o h1 h2 hb))
      · rw [if_neg h4] at h
        walk_at "wp"
        exact ⟨_, [], n0, p4, rfl, ⟨[], f6, StepsAt.nil⟩, D6, Keep.refl, h⟩
    · obtain ⟨w7, no, ln, p7, rfl, B7, D7, k7, q⟩ := hm
      have R7 := R6.rdr D6 k7 nrd
      have T7 := T6.keep (D6.kn k7)
      have U7 := U6.keep (D6.kn k7)
      have B7y := B6.keep (D6.kn k7)
      obtain ⟨_, dr7, er7, el7⟩ := id R7
      walk_at "wp"
      refine ⟨rfl, fun a da H8 na ea sa => ?_⟩
      refine q a H8 ?_ (D7.same sa) ((k16.trans (Keep2.of2 k7)).same sa)
      obtain ⟨ys, fy, sy⟩ := B7y.keep sa.keepN
      obtain ⟨ns, fn', sn⟩ := B7.keep sa.keepN
      unfold StepAt
      exact ⟨da, b, c, by_, ys, ln, ns, ea, T7.keep sa.keepN, U7.keep sa.keepN, ⟨fy, sy⟩, fn', sn⟩
end
end
end Lw

namespace Lw
open PySem PySem.Spec PyProof.Rows L2 Fw Htx Ob Tx Rd Lk
local macro_rules | `(tactic| walk_at "cond") => `(tactic| first | assumption | (with_reducible exact cdiv_small (by omega) (by omega)) | (with_reducible exact cmul_small (by omega) (by omega)) | (with_reducible exact cpow_mk (by omega) (by omega) (by omega)) | omega)
local macro_rules | `(tactic| walk_at "ne") => `(tactic| first | assumption | exact Ne.symm (by assumption) | exact ne_of_none (by assumption) (by assumption) | exact Ne.symm (ne_of_none (by assumption) (by assumption)))
local macro_rules | `(tactic| walk_at "at") => `(tactic| first
  | assumption
  | (with_reducible exact upd_same)
  | ((with_reducible refine' at_same ?hk ?hh); (case hk => assumption); (case hh => walk_at "at"))
  | ((with_reducible refine' at_keepT ?hk ?hh ?hd); (case hk => assumption); (case hh => walk_at "at"); (case hd => walk_at "at"))
  | ((with_reducible refine' at_keep ?hk ?hh ?hn); (case hk => assumption); (case hh => walk_at "at"); (case hn => walk_at "ne")))
local macro_rules | `(tactic| walk_at "hp") => `(tactic| first
  | assumption
  | (with_reducible exact FrL.sql (by assumption))
  | ((with_reducible refine' SqT.of ?hq); (case hq => walk_at "at")) | ((with_reducible refine' SqL.of ?hq); (case hq => walk_at "at"))
  | ((with_reducible refine' sql_same ?hk ?hh); (case hk => assumption); (case hh => walk_at "hp"))
  | ((with_reducible refine' sql_keep ?hk ?hh ?hn); (case hk => assumption); (case hh => walk_at "hp"); (case hn => walk_at "ne"))
  | ((with_reducible refine' sqt_same ?hk ?hh); (case hk => assumption); (case hh => walk_at "hp")))
local macro_rules | `(tactic| walk_at "wp1") => `(tactic| first
  | with_reducible refine w_mt ?_ | ((with_reducible refine' w_mt1 ?ha ?hl ?_); (case ha => walk_at "at"); (case hl => rfl))
  | with_reducible refine w_fld ?_ | ((with_reducible refine' w_fld1 ?ha (ClsF.cl (cs := clsL) (as := attL) (by assumption) _ ?hc) (ClsF.no (cs := clsL) (as := attL) (by assumption) _ _ ?hn) ?hl ?_); (case ha => walk_at "at"); (case hc => decide +kernel); (case hn => decide +kernel); (case hl => rfl))
  | with_reducible refine w_sfld ?_ | ((with_reducible refine' w_sfld1 ?ha (ClsF.cl (cs := clsL) (as := attL) (by assumption) _ ?hc) (ClsF.no (cs := clsL) (as := attL) (by assumption) _ _ ?hn) ?he ?hl ?_); (case ha => walk_at "at"); (case hc => decide +kernel); (case hn => decide +kernel); (case he => rfl); (case hl => rfl))
  | with_reducible refine w_lk ?_ | ((with_reducible refine' lkL ?ha ?_); (case ha => walk_at "at")) | with_reducible refine w_mkS ?_ | with_reducible refine w_mk ?_ | with_reducible refine w_bas ?_ | with_reducible refine w_m1 ?_ | with_reducible refine w_isS ?_ | with_reducible refine w_bm0 ?_ | with_reducible refine w_iS ?_ | with_reducible refine w_chain ?_
  | with_reducible refine w_inSg ?_ | with_reducible refine w_ninSg ?_
  | with_reducible refine w_rz ?_ | with_reducible refine w_calX ?_ | with_reducible refine w_calS ?_ | with_reducible refine w_row ?_
  | with_reducible refine w_seq ?_ | with_reducible refine w_set ?_ | with_reducible refine w_drop ?_ | with_reducible refine w_ret ?_ | with_reducible refine w_ifS ?_ | with_reducible refine w_next ?_
  | ((with_reducible refine' w_var ?hv ?_); (case hv => rfl)) | with_reducible refine w_c ?_
  | with_reducible refine w_op ?_ | with_reducible refine w_un ?_ | with_reducible refine w_cb ?_ | with_reducible refine w_cal ?_ | with_reducible refine w_cons ?_ | with_reducible refine w_nil ?_
  | with_reducible refine w_plus ?_ | with_reducible refine w_minus ?_ | with_reducible refine w_lt ?_ | with_reducible refine w_le ?_ | with_reducible refine w_gt ?_ | with_reducible refine w_ge ?_
  | with_reducible refine w_eqI ?_ | with_reducible refine w_neI ?_ | with_reducible refine w_eqB ?_ | with_reducible refine w_neB ?_ | with_reducible refine w_eqS ?_ | with_reducible refine w_neS ?_
  | with_reducible refine w_neg ?_ | with_reducible refine w_abs ?_ | with_reducible refine w_intB ?_ | with_reducible refine w_test ?_ | with_reducible refine w_tB ?_ | with_reducible refine w_bl ?_
  | with_reducible refine w_and ?_ | with_reducible refine w_or ?_ | with_reducible refine w_not ?_ | with_reducible refine w_andV ?_ | with_reducible refine w_orV ?_ | with_reducible refine w_notV ?_ | with_reducible refine w_ifE ?_
  | with_reducible refine w_nyes ?_ | with_reducible refine w_nno ?_ | with_reducible refine w_yes ?_ | with_reducible refine w_no ?_
  | ((with_reducible refine' w_ixL ?ha ?hb ?_); (case ha => walk_at "hp"); (case hb => rfl)) | ((with_reducible refine' w_ixT ?ha ?hb ?_); (case ha => walk_at "hp"); (case hb => rfl))
  | ((with_reducible refine' w_lenL ?ha ?_); (case ha => walk_at "hp")) | ((with_reducible refine' w_lenT ?ha ?_); (case ha => walk_at "hp"))
  | with_reducible refine w_min2 ?_ | with_reducible refine w_max2 ?_ | with_reducible refine w_bm ?_ | with_reducible refine w_lc ?_ | ((with_reducible refine' w_tyL ?ha ?_); (case ha => walk_at "at"))
  | with_reducible refine isi_ii ?_ | with_reducible refine isi_ib ?_ | with_reducible refine isi_bb ?_ | with_reducible refine isi_ss ?_
  | ((with_reducible refine' isi_tt ?ha ?_); (case ha => walk_at "at")) | ((with_reducible refine' isi_ll ?ha ?_); (case ha => walk_at "at"))
  | with_reducible refine w_par ?_ | with_reducible refine w_par2 ?_ | with_reducible refine w_for ?_ | with_reducible refine w_iL ?_ | with_reducible refine w_iT ?_ | with_reducible refine w_iR1 ?_ | with_reducible refine w_iR2 ?_
  | with_reducible refine w_tup ?_ | with_reducible refine w_lst ?_
  | with_reducible refine w_asg ?_ | with_reducible refine w_gname ?_ | with_reducible refine w_gcons ?_ | with_reducible refine w_gnil ?_ | with_reducible refine w_gsub ?_
  | ((with_reducible refine' w_gtup ?ha ?hb ?_); (case ha => walk_at "hp"); (case hb => rfl))
  | ((with_reducible refine' w_fdiv ?hc ?_); (case hc => walk_at "cond")) | ((with_reducible refine' w_mul ?hc ?_); (case hc => walk_at "cond"))
  | ((with_reducible refine' w_mod ?hc ?_); (case hc => walk_at "cond")) | ((with_reducible refine' w_pow ?hc ?_); (case hc => walk_at "cond")))
local macro_rules | `(tactic| walk_at "wp") => `(tactic| repeat walk_at "wp1")
section
variable {P : Program} {w : World} {K : PySem.W.Frag} {mg : Str → Option Value} {base : Heap}
/-! ### a step, a block, the steps -/
theorem BadR.row {E : XK} {n : Int} {r rd : Addr} {H H1 : Hp} {o : HO} (h : BadR K E n rd H) (k : Fw.Keep rd H H1) (hd : H1 rd = some o) (nr : H r = none) : BadR K E n r H1 := fun d H' nd ed kd => h d H' (none_of_keep k hd nd) ed (Keep2.new k (Keep2.of1 kd) nr)
theorem BadR.row2 {E : XK} {n : Int} {r rd : Addr} {H H1 : Hp} {o : HO} (h : BadR K E n rd H) (k : Fw.Keep rd H H1) (hd : H1 rd = some o) (nr : H r = none) : BadR2 K E n r rd H1 := fun d H' nd ed kd => h d H' (none_of_keep k hd nd) ed (Keep2.new k kd nr)
theorem keep_row {r rd : Addr} {H H1 H2 : Hp} (a : Fw.Keep rd H H1) (b : Fw.Keep r H1 H2) (nr : H r = none) : Fw.Keep rd H H2 := Keep2.new a (Keep2.of1 b) nr
section
variable (T : Fre mg) (CS : Cst K mg) (CF : ClsF K clsL attL) (MF : MthF K)
include T CS CF MF
theorem read_step_at (F : MDef K "Reader" "read_step" "Reader.read_step" s_Reader_read_step) {d L : Nat} {f : Rows → Bk} (hL : 38 ≤ L) (m_Reader_read_block : Met P w K mg base L "Reader" "read_block" (spBlk K (d + 1) f)) (m_Reader_read_choice : Met P w K mg base (L + 1) "Reader" "read_choice" (spCho K d f))
    (m_Row_took : Met P w K mg base 2 "Row" "took" (spTook K)) (m_Row_read_name : Met P w K mg base 4 "Row" "read_name" (spName K)) (m_Row_read_whole : Met P w K mg base 4 "Row" "read_whole" (spWh K)) (m_Row_ended : Met P w K mg base 4 "Row" "ended" (spEnded K)) (m_Reader_taken : Met P w K mg base 3 "Reader" "taken" (spTaken K)) (m_Reader_read_filled : Met P w K mg base 38 "Reader" "read_filled" (spFilled K)) (k_Rowed : Mak P w K mg base 2 "Rowed" (spIni (He.ga K "Rowed") [] ["row", "name", "size"])) (k_Turns : Mak P w K mg base 2 "Turns" (spIni (He.ga K "Turns") [] ["row", "counter", "many", "body"])) : Met P w K mg base (L + 2) "Reader" "read_step" (spStp K d f) := by
  refine met_of F (CF.cl _ (by decide +kernel)) (MF.m _ _ (by decide +kernel)) sc_Reader_read_step b_Reader_read_step (fun vs H Q E h => ?_) (fun cdv A outer s H vs Q E hr h => ?_)
  · obtain ⟨_, _, _, _, _, _, rfl, _⟩ := h
    rfl
  · obtain ⟨rd, dx, l, as, rows, p, rfl, D, hF, h⟩ := h
    have hp : p < rows.length := firstM_lt (d := d) fun z => hF (by rw [z]; decide)
    obtain ⟨d', e0⟩ := row_at hp
    generalize hms : marksAt rows p = ms at e0
    have g_MOST_PLACES := CS.g_MOST_PLACES
    have g_MOST_TURNS := CS.g_MOST_TURNS
    have erd := D.2.2.1
    have po := passes_of (X := cxOf (L2N.CX P w) P w K mg base ["self", "depth", "row", "name", "size", "counter", "many"] "Reader.read_step" (defScope s_Reader_read_step) (He.ma K (He.ga K "Reader") "read_step") cdv A outer s H E) rfl
    have tk := L2N.takes_of (X := cxOf (L2N.CX P w) P w K mg base ["self", "depth", "row", "name", "size", "counter", "many"] "Reader.read_step" (defScope s_Reader_read_step) (He.ma K (He.ga K "Reader") "read_step") cdv A outer s H E) (E := E) rfl rfl rfl rfl
    have pc := L2N.passes_call tk (fun _ _ _ _ h => h) (E := E)
    have hu64 : (cxOf (L2N.CX P w) P w K mg base ["self", "depth", "row", "name", "size", "counter", "many"] "Reader.read_step" (defScope s_Reader_read_step) (He.ma K (He.ga K "Reader") "read_step") cdv A outer s H E).A.units + 64 < cLine := by
      have := hr.un
      show (A.deeper _).units + 64 < cLine
      omega
    refine ⟨_, (pss_cons (ps_set (i := 2) sc_Reader_read_step.nd rfl (loc_of rfl) (pe_mt0 m_Reader_taken (pv 0) hr (by omega) pc))
      (pss_cons (ps_if (pt_val (pe_mt m_Row_took (pv 2) hr (by omega) pc (pa_cons pe_str pa_nil))) (pss_cons (ps_set (i := 3) sc_Reader_read_step.nd rfl (loc_of rfl) (pe_mt0 m_Row_read_name (pv 2) hr (by omega) pc))
      (pss_cons (ps_set (i := 4) sc_Reader_read_step.nd rfl (loc_of rfl) (pe_mt m_Row_read_whole (pv 2) hr (by omega) pc (pa_cons pe_int (pa_cons (C8.pe_gc (v := .int 9) (by rfl) g_MOST_PLACES) pa_nil))))
      (pss_cons (ps_expr (pe_mt0 m_Row_ended (pv 2) hr (by omega) pc))
      (pss_one (ps_ret (pe_mkS k_Rowed hr (by omega) pc (pa_cons (pe_fld (pv 2) rfl) (pa_cons (pv 3) (pa_cons (pv 4) pa_nil))))))))) pss_nil)
      (pss_cons (ps_if (pt_val (pe_mt m_Row_took (pv 2) hr (by omega) pc (pa_cons pe_str pa_nil))) (pss_cons (ps_set (i := 5) sc_Reader_read_step.nd rfl (loc_of rfl) (pe_mt0 m_Row_read_name (pv 2) hr (by omega) pc))
      (pss_cons (ps_set (i := 6) sc_Reader_read_step.nd rfl (loc_of rfl) (pe_mt m_Row_read_whole (pv 2) hr (by omega) pc (pa_cons pe_int (pa_cons (C8.pe_gc (v := .int 9) (by rfl) g_MOST_TURNS) pa_nil))))
      (pss_cons (ps_expr (pe_mt0 m_Row_ended (pv 2) hr (by omega) pc))
      (pss_one (ps_ret (pe_mkS k_Turns hr (by omega) pc (pa_cons (pe_fld (pv 2) rfl) (pa_cons (pv 5) (pa_cons (pv 6) (pa_cons (pe_mt m_Reader_read_block (pv 0) hr (by omega) pc (pa_cons (pe_op o_add (pv 1) pe_int) pa_nil)) pa_nil)))))))))) pss_nil)
      (pss_cons (ps_if (pt_val (pe_mt m_Row_took (pv 2) hr (by omega) pc (pa_cons pe_str pa_nil))) (pss_one (ps_ret (pe_mt m_Reader_read_choice (pv 0) hr (by omega) pc (pa_cons (pv 2) (pa_cons (pv 1) pa_nil))))) pss_nil)
      (pss_one (ps_ret (pe_mt m_Reader_read_filled (pv 0) hr (by omega) pc (pa_cons (pv 2) pa_nil)))))))), ?_⟩
    refine w_start [some (.ref rd), some (.int (d : Int)), none, none, none, none, none] rfl ?_
    try dsimp only [cxOf]
    unfold stepM at h
    rw [hms] at h
    unfold lineStep at h
    walk_at "wp"
    refine ⟨rd, dx, l, as, rows, p, d', ms, rfl, D, e0, fun r ml H1 nr R1 D1 k1 => ?_⟩
    have nrd : r ≠ rd := (ne_of_none erd nr).symm
    obtain ⟨ok, dr1, er1, el1⟩ := id R1
    have erd1 := D1.2.2.1
    walk_at "wp"
    refine ⟨r, ml, ms, 0, _, 0, _, rfl, R1, fun h1 H2 R2 k2 => ?_, fun h1 => ?_⟩
    · rw [if_pos h1] at h
      obtain ⟨_, dr2, er2, el2⟩ := id R2
      have D2 := D1.row R1 k2 nrd
      have k12 := keep_row k1 k2 nr
      walk_at "wp"
      refine ⟨r, ml, ms, 1, _, 0, rfl, R2, ?_⟩
      cases e2 : rName ms 1 with
      | none =>
        rw [e2] at h
        exact BadR.row h k12 D2.2.2.1 nr
      | some z2 =>
      obtain ⟨x, p2⟩ := z2
      rw [e2] at h
      simp only [Option.bind_some] at h
      refine fun H3 R3 k3 => ?_
      obtain ⟨_, dr3, er3, el3⟩ := id R3
      have D3 := D2.row R2 k3 nrd
      have k13 := keep_row k12 k3 nr
      walk_at "wp"
      refine ⟨r, ml, ms, p2, _, 0, 1, 9, rfl, R3, ?_⟩
      cases e3 : rWhole ms 1 9 p2 with
      | none =>
        rw [e3] at h
        exact BadR.row h k13 D3.2.2.1 nr
      | some z3 =>
      obtain ⟨n, p3⟩ := z3
      rw [e3] at h
      simp only [Option.bind_some] at h
      refine fun H4 R4 k4 => ?_
      obtain ⟨_, dr4, er4, el4⟩ := id R4
      have D4 := D3.row R3 k4 nrd
      have k14 := keep_row k13 k4 nr
      unfold ended at h
      walk_at "wp"
      refine ⟨r, ml, ms, p3, _, 0, rfl, R4, fun h4 => ?_, fun h4 => ?_⟩
      · rw [if_pos h4] at h
        walk_at "wp"
        refine ⟨rfl, fun a da H5 na ea sa => ?_⟩
        refine h a H5 ?_ (D4.same sa) (k14.same sa)
        unfold StepAt
        exact ⟨da, ea⟩
      · rw [if_neg (by omega)] at h
        exact BadR.row h k14 D4.2.2.1 nr
    rw [if_neg h1] at h
    walk_at "wp"
    refine ⟨r, ml, ms, 0, _, 0, _, rfl, R1, fun h2 H2 R2 k2 => ?_, fun h2 => ?_⟩
    · rw [if_pos h2] at h
      obtain ⟨_, dr2, er2, el2⟩ := id R2
      have D2 := D1.row R1 k2 nrd
      have k12 := keep_row k1 k2 nr
      walk_at "wp"
      refine ⟨r, ml, ms, 1, _, 0, rfl, R2, ?_⟩
      cases e2 : rName ms 1 with
      | none =>
        rw [e2] at h
        exact BadR.row h k12 D2.2.2.1 nr
      | some z2 =>
      obtain ⟨x, p2⟩ := z2
      rw [e2] at h
      simp only [Option.bind_some] at h
      refine fun H3 R3 k3 => ?_
      obtain ⟨_, dr3, er3, el3⟩ := id R3
      have D3 := D2.row R2 k3 nrd
      have k13 := keep_row k12 k3 nr
      walk_at "wp"
      refine ⟨r, ml, ms, p2, _, 0, 1, 9, rfl, R3, ?_⟩
      cases e3 : rWhole ms 1 9 p2 with
      | none =>
        rw [e3] at h
        exact BadR.row h k13 D3.2.2.1 nr
      | some z3 =>
      obtain ⟨n, p3⟩ := z3
      rw [e3] at h
      simp only [Option.bind_some] at h
      refine fun H4 R4 k4 => ?_
      obtain ⟨_, dr4, er4, el4⟩ := id R4
      have D4 := D3.row R3 k4 nrd
      have k14 := keep_row k13 k4 nr
      have erd4 := D4.2.2.1
      unfold ended at h
      walk_at "wp"
      refine ⟨r, ml, ms, p3, _, 0, rfl, R4, fun h4 => ?_, fun h4 => ?_⟩
      · rw [if_pos h4] at h
        dsimp only at h
        walk_at "wp"
        have ed : (d : Int) + 1 = ((d + 1 : Nat) : Int) := by omega
        rw [ed]
        refine ⟨rd, dx, l, as, rows, p + 1, rfl, D4, ?_⟩
        cases e5 : f rows (p + 1) with
        | error e =>
          rw [e5] at h
          exact h.keep k14 D4.2.2.1
        | ok z5 =>
        obtain ⟨body, p5⟩ := z5
        rw [e5] at h
        dsimp only at h ⊢
        refine fun bl H5 B5 D5 k5 => ?_
        walk_at "wp"
        refine ⟨rfl, fun a da H6 na ea sa => ?_⟩
        refine h a H6 ?_ (D5.same sa) ((k14.trans k5).same sa)
        obtain ⟨bs, f5, s5⟩ := B5.keep sa.keepN
        unfold StepAt
        exact ⟨da, bl, bs, ea, f5, s5⟩
      · rw [if_neg (by omega)] at h
        exact BadR.row h k14 D4.2.2.1 nr
    rw [if_neg h2] at h
    walk_at "wp"
    refine ⟨r, ml, ms, 0, _, 0, _, rfl, R1, fun h3 H2 R2 k2 => ?_, fun h3 => ?_⟩
    · rw [if_pos h3] at h
      have D2 := D1.row R1 k2 nrd
      have k12 := keep_row k1 k2 nr
      have erd2 := D2.2.2.1
      walk_at "wp"
      refine ⟨rd, dx, l, as, rows, p + 1, r, ml, ms, p + 1, rfl, D2, R2, nrd, ?_⟩
      unfold condS
      have hc : ∀ lk, condM ms = some lk → ∃ a b, lk = .cond a b := fun lk hlk => by
        unfold condM at hlk
        cases q1 : rTerm ms 9 1 with
        | none => rw [q1] at hlk; cases hlk
        | some a =>
          rw [q1] at hlk
          simp only [Option.bind_some] at hlk
          cases q2 : must ms "<" a.2 with
          | none => rw [q2] at hlk; cases hlk
          | some p2 =>
            rw [q2] at hlk
            simp only [Option.bind_some] at hlk
            cases q3 : rTerm ms 9 p2 with
            | none => rw [q3] at hlk; cases hlk
            | some b =>
              rw [q3] at hlk
              simp only [Option.bind_some, ended] at hlk
              split at hlk
              · cases hlk
                exact ⟨_, _, rfl⟩
              · cases hlk
      cases e3 : condM ms with
      | none =>
        rw [e3] at h
        exact BadR.row2 h k12 D2.2.2.1 nr
      | some lk =>
      obtain ⟨a, b, rfl⟩ := hc lk e3
      rw [e3] at h
      dsimp only at h ⊢
      cases e4 : choiceM rows (f rows) d (p + 1) a b (p + 1) with
      | error e =>
        rw [e4] at h
        exact BadR.row2 h k12 D2.2.2.1 nr
      | ok z4 =>
      obtain ⟨st, p4⟩ := z4
      rw [e4] at h
      exact fun b H5 S5 D5 k5 => h b H5 S5 D5 (Keep2.new k12 k5 nr)
    rw [if_neg h3] at h
    walk_at "wp"
    refine ⟨rd, r, ml, ms, p + 1, rfl, R1, ?_⟩
    unfold filledS
    have hc : ∀ lk, filledM ms = some lk → (∃ x pl t, lk = .fill x pl t) ∨ ∃ x pl y ps, lk = .call x pl y ps := fun lk hlk => by
      unfold filledM at hlk
      cases q1 : rKnown ms 0 with
      | none => rw [q1] at hlk; cases hlk
      | some a =>
        rw [q1] at hlk
        simp only [Option.bind_some] at hlk
        cases q2 : must ms "=" a.2 with
        | none => rw [q2] at hlk; cases hlk
        | some p2 =>
          rw [q2] at hlk
          simp only [Option.bind_some] at hlk
          split at hlk
          · split at hlk
            · cases q3 : rName ms p2 with
              | none => rw [q3] at hlk; cases hlk
              | some b =>
                rw [q3] at hlk
                simp only [Option.bind_some] at hlk
                cases q4 : must ms "(" b.2 with
                | none => rw [q4] at hlk; cases hlk
                | some p4 =>
                  rw [q4] at hlk
                  simp only [Option.bind_some] at hlk
                  cases q5 : sqM ms (rTerm ms 9) p4 with
                  | none => rw [q5] at hlk; cases hlk
                  | some c =>
                    rw [q5] at hlk
                    simp only [Option.bind_some] at hlk
                    cases q6 : must ms ")" c.2 with
                    | none => rw [q6] at hlk; cases hlk
                    | some p6 =>
                      rw [q6] at hlk
                      simp only [Option.bind_some, ended] at hlk
                      split at hlk
                      · cases hlk
                        exact .inr ⟨_, _, _, _, rfl⟩
                      · cases hlk
            · cases q3 : rTerm ms 9 p2 with
              | none => rw [q3] at hlk; cases hlk
              | some b =>
                rw [q3] at hlk
                simp only [Option.bind_some, ended] at hlk
                split at hlk
                · cases hlk
                  exact .inl ⟨_, _, _, rfl⟩
                · cases hlk
          · cases hlk
    cases e3 : filledM ms with
    | none =>
      rw [e3] at h
      exact BadR.row h k1 D1.2.2.1 nr
    | some lk =>
      rw [e3] at h
      rcases hc lk e3 with ⟨x, pl, t, rfl⟩ | ⟨x, pl, y, ps, rfl⟩
      · exact fun b H5 S5 k5 => h b H5 S5 (D1.row R1 k5 nrd) (keep_row k1 k5 nr)
      · exact fun b H5 S5 k5 => h b H5 S5 (D1.row R1 k5 nrd) (keep_row k1 k5 nr)
theorem read_block_at (F : MDef K "Reader" "read_block" "Reader.read_block" s_Reader_read_block) {d L : Nat} {f : Rows → Bk} (hL : 3 ≤ L) (m_Reader_read_steps : Met P w K mg base L "Reader" "read_steps" (spBlk K d f)) (m_Reader_bad : Met P w K mg base 3 "Reader" "bad" (spRBad K)) : Met P w K mg base (L + 1) "Reader" "read_block" (spBlk K d fun rows => blockM (f rows)) := by
  refine met_of F (CF.cl _ (by decide +kernel)) (MF.m _ _ (by decide +kernel)) sc_Reader_read_block b_Reader_read_block (fun vs H Q E h => ?_) (fun cdv A outer s H vs Q E hr h => ?_)
  · obtain ⟨_, _, _, _, _, _, rfl, _⟩ := h
    rfl
  · obtain ⟨rd, dx, l, as, rows, p, rfl, D, h⟩ := h
    have erd := D.2.2.1
    have po := passes_of (X := cxOf (L2N.CX P w) P w K mg base ["self", "depth", "found"] "Reader.read_block" (defScope s_Reader_read_block) (He.ma K (He.ga K "Reader") "read_block") cdv A outer s H E) rfl
    have tk := L2N.takes_of (X := cxOf (L2N.CX P w) P w K mg base ["self", "depth", "found"] "Reader.read_block" (defScope s_Reader_read_block) (He.ma K (He.ga K "Reader") "read_block") cdv A outer s H E) (E := E) rfl rfl rfl rfl
    have pc := L2N.passes_call tk (fun _ _ _ _ h => h) (E := E)
    have hu64 : (cxOf (L2N.CX P w) P w K mg base ["self", "depth", "found"] "Reader.read_block" (defScope s_Reader_read_block) (He.ma K (He.ga K "Reader") "read_block") cdv A outer s H E).A.units + 64 < cLine := by
      have := hr.un
      show (A.deeper _).units + 64 < cLine
      omega
    refine ⟨_, (pss_cons (ps_set (i := 2) sc_Reader_read_block.nd rfl (loc_of rfl) (pe_mt m_Reader_read_steps (pv 0) hr (by omega) pc (pa_cons (pv 1) pa_nil)))
      (pss_cons (ps_if (pt_cmpR (op_eqN (K := K) rfl hu64) (pv 2) (pe_lst pa_nil) (nomark _)) (pss_one (ps_expr (pe_mt0 m_Reader_bad (pv 0) hr (by omega) pc))) pss_nil)
      (pss_one (ps_ret (pv 2))))), ?_⟩
    refine w_start [some (.ref rd), some (.int (d : Int)), none] rfl ?_
    try dsimp only [cxOf]
    unfold blockM at h
    dsimp only at h
    walk_at "wp"
    refine ⟨rd, dx, l, as, rows, p, rfl, D, ?_⟩
    cases e1 : f rows p with
    | error e =>
      rw [e1] at h
      exact h
    | ok z1 =>
    obtain ⟨ss, p1⟩ := z1
    rw [e1] at h
    dsimp only at h ⊢
    refine fun b H1 B1 D1 k1 => ?_
    obtain ⟨bs, f1, s1⟩ := id B1
    have erd1 := D1.2.2.1
    walk_at "wp"
    refine newL fun n H2 nn en s2 => ?_
    have f2 := f1.same s2
    refine w_eqN f2.sql (SqL.of en) ?_
    have D2 := D1.same s2
    have erd2 := D2.2.2.1
    walk_at "wp"
    refine w_dec (fun h1 => ?_) (fun h1 => ?_)
    · have e2 : bs = [] := List.map_eq_nil_iff.mp h1
      have e3 : ss = [] := List.length_eq_zero_iff.mp (by rw [← s1.len, e2]; rfl)
      subst e3
      walk_at "wp"
      exact ⟨rd, dx, l, as, rows, p1, rfl, D2, h.keep (k1.same s2) D2.2.2.1⟩
    · have e3 : ss ≠ [] := fun z => h1 (by
        have := s1.len
        rw [z] at this
        rw [List.length_eq_zero_iff.mp this]
        rfl)
      walk_at "wp"
      cases ss with
      | nil => exact absurd rfl e3
      | cons a ss => exact h b H2 (B1.keep s2.keepN) D2 (k1.same s2)
theorem read_steps_at (F : MDef K "Reader" "read_steps" "Reader.read_steps" s_Reader_read_steps) {d L : Nat} {f : Rows → Bk} (hL : 3 ≤ L) (hf : ∀ rows, BkOn (f rows)) (m_Reader_read_step : Met P w K mg base L "Reader" "read_step" (spStp K d f)) (m_Reader_first : Met P w K mg base 1 "Reader" "first" (spFirst K)) : Met P w K mg base (L + 1) "Reader" "read_steps" (spBlk K d fun rows p => stepsF rows (f rows) d [] p) := by
  refine met_of F (CF.cl _ (by decide +kernel)) (MF.m _ _ (by decide +kernel)) sc_Reader_read_steps b_Reader_read_steps (fun vs H Q E h => ?_) (fun cdv A outer s H vs Q E hr h => ?_)
  · obtain ⟨_, _, _, _, _, _, rfl, _⟩ := h
    rfl
  · obtain ⟨rd, dx, l, as, rows, p, rfl, D, h⟩ := h
    have erd := D.2.2.1
    dsimp only at h
    have po := passes_of (X := cxOf (L2N.CX P w) P w K mg base ["self", "depth", "found"] "Reader.read_steps" (defScope s_Reader_read_steps) (He.ma K (He.ga K "Reader") "read_steps") cdv A outer s H E) rfl
    have tk := L2N.takes_of (X := cxOf (L2N.CX P w) P w K mg base ["self", "depth", "found"] "Reader.read_steps" (defScope s_Reader_read_steps) (He.ma K (He.ga K "Reader") "read_steps") cdv A outer s H E) (E := E) rfl rfl rfl rfl
    have pc := L2N.passes_call tk (fun _ _ _ _ h => h) (E := E)
    have hu64 : (cxOf (L2N.CX P w) P w K mg base ["self", "depth", "found"] "Reader.read_steps" (defScope s_Reader_read_steps) (He.ma K (He.ga K "Reader") "read_steps") cdv A outer s H E).A.units + 64 < cLine := by
      have := hr.un
      show (A.deeper _).units + 64 < cLine
      omega
    refine ⟨_, (pss_cons (ps_set (i := 2) sc_Reader_read_steps.nd rfl (loc_of rfl) (pe_lst pa_nil))
      (pss_cons (ps_while po (pt_cmpR (o_ninT (K := K) rfl) (pe_mt m_Reader_first (pv 0) hr (by omega) pc (pa_cons (pv 1) pa_nil)) (pe_tup (pa_cons pe_str (pa_cons pe_str (pa_cons pe_str (pa_cons pe_str pa_nil))))) (by rfl)) (pss_one (ps_expr (pe_bm PySem.F.plainAttrs_list PySem.F.slot_list_append PySem.F.type_list_append mt_append (pv 2) (pa_cons (pe_mt m_Reader_read_step (pv 0) hr (by omega) pc (pa_cons (pv 1) pa_nil)) pa_nil)))))
      (pss_one (ps_ret (pe_lk (pv 2)))))), ?_⟩
    refine w_start [some (.ref rd), some (.int (d : Int)), none] rfl ?_
    try dsimp only [cxOf]
    walk_at "wp"
    refine newL fun lf H1 nlf e1 s1 => ?_
    walk_at "wp"
    refine w_while (fun m σ H' => ∃ bs acc p', σ = [some (.ref rd), some (.int (d : Int)), some (.ref lf)] ∧ H' lf = some (.lst (bs.map V.ref)) ∧ StepsAt K H' bs acc ∧ RdrA K H' rd dx l as rows p' ∧ Fw.Keep rd H H' ∧ stepsF rows (f rows) d acc p' = stepsF rows (f rows) d [] p ∧ bs.length ≤ p' ∧ m = rows.length - p') (rows.length - p)
      ⟨[], [], p, rfl, e1, StepsAt.nil, D.same s1, s1.toKeep, rfl, Nat.zero_le _, rfl⟩ fun m σ H2 hw => ?_
    obtain ⟨bs, acc, p', rfl, e2, SA, D2, k2, hE, hbl, rfl⟩ := hw
    rw [← hE] at h
    have erd2 := D2.2.2.1
    walk_at "wp"
    refine ⟨rd, rows, p', d, rfl, D2.at, ?_⟩
    walk_at "wp"
    refine newT fun tp H3 ntp etp s3 => ?_
    refine w_ninT (ys := endL) (SqT.of etp) ?_
    have D3 := D2.same s3
    have SA3 := SA.keep s3.keepN
    have e3 := s3 _ _ e2
    have k3 := k2.same s3
    have erd3 := D3.2.2.1
    walk_at "wp"
    refine w_decN (fun h1 => ?_) (fun h1 => ?_)
    · have hp' : p' < rows.length := firstM_lt (d := d) fun z => h1 (by rw [z]; decide)
      have hs := stepsF_on (hf rows) (d := d) (acc := acc) h1
      rw [hs] at h
      have h60 := D.1
      refine w_turn ?_
      walk_at "wp"
      refine ⟨rd, dx, l, as, rows, p', rfl, D3, h1, ?_⟩
      cases e4 : stepM rows (f rows) d p' with
      | error e =>
        rw [e4] at h
        exact h.keep k3 D3.2.2.1
      | ok z4 =>
      obtain ⟨st, p4⟩ := z4
      have hp4 := step_on (hf rows) e4
      refine fun a H4 S4 D4 k4 => ?_
      have nlr : lf ≠ rd := (ne_of_none erd nlf).symm
      have e5 := k4 _ _ nlr e3
      walk_at "wp"
      refine w_app e5 (by rw [List.length_map]; omega) fun H5 e6 k5 => ?_
      have kL := Keep.keepL k5 e5
      have k15 := keep_new (k3.trans k4) k5 nlf
      walk_at "wp"
      refine ⟨rows.length - p4, by omega, bs ++ [a], acc ++ [st], p4, rfl, by rw [e6, List.map_append]; rfl, StepsAt.snoc (S4.keep kL) ((SA3.keep (D3.kn k4)).keep kL), D.on k15 (k5 _ _ (Ne.symm nlr) D4.2.2.1), k15, ?_, by rw [List.length_append, List.length_singleton]; omega, rfl⟩
      rw [← hE, hs, e4]
    · rw [stepsF_end h1] at h
      walk_at "wp"
      refine fun H4 f4 k4 => ?_
      have kL := Keep.keepL k4 e3
      have k14 := keep_new k3 k4 nlf
      exact h lf H4 ⟨bs, f4, SA3.keep kL⟩ (D.on k14 (k4 _ _ (ne_of_none erd nlf) D3.2.2.1)) k14
end
end
end Lw

namespace Lw
open PySem PySem.Spec PyProof.Rows L2 Fw Htx Ob Tx Rd Lk
local macro_rules | `(tactic| walk_at "cond") => `(tactic| first | assumption | (with_reducible exact cdiv_small (by omega) (by omega)) | (with_reducible exact cmul_small (by omega) (by omega)) | (with_reducible exact cpow_mk (by omega) (by omega) (by omega)) | omega)
local macro_rules | `(tactic| walk_at "ne") => `(tactic| first | assumption | exact Ne.symm (by assumption) | exact ne_of_none (by assumption) (by assumption) | exact Ne.symm (ne_of_none (by assumption) (by assumption)))
local macro_rules | `(tactic| walk_at "at") => `(tactic| first
  | assumption
  | (with_reducible exact upd_same)
  | ((with_reducible refine' at_same ?hk ?hh); (case hk => assumption); (case hh => walk_at "at"))
  | ((with_reducible refine' at_keepT ?hk ?hh ?hd); (case hk => assumption); (case hh => walk_at "at"); (case hd => walk_at "at"))
  | ((with_reducible refine' at_keep ?hk ?hh ?hn); (case hk => assumption); (case hh => walk_at "at"); (case hn => walk_at "ne")))
local macro_rules | `(tactic| walk_at "hp") => `(tactic| first
  | assumption
  | (with_reducible exact FrL.sql (by assumption))
  | ((with_reducible refine' SqT.of ?hq); (case hq => walk_at "at")) | ((with_reducible refine' SqL.of ?hq); (case hq => walk_at "at"))
  | ((with_reducible refine' sql_same ?hk ?hh); (case hk => assumption); (case hh => walk_at "hp"))
  | ((with_reducible refine' sql_keep ?hk ?hh ?hn); (case hk => assumption); (case hh => walk_at "hp"); (case hn => walk_at "ne"))
  | ((with_reducible refine' sqt_same ?hk ?hh); (case hk => assumption); (case hh => walk_at "hp")))
local macro_rules | `(tactic| walk_at "wp1") => `(tactic| first
  | with_reducible refine w_mt ?_ | ((with_reducible refine' w_mt1 ?ha ?hl ?_); (case ha => walk_at "at"); (case hl => rfl))
  | with_reducible refine w_fld ?_ | ((with_reducible refine' w_fld1 ?ha (ClsF.cl (cs := clsL) (as := attL) (by assumption) _ ?hc) (ClsF.no (cs := clsL) (as := attL) (by assumption) _ _ ?hn) ?hl ?_); (case ha => walk_at "at"); (case hc => decide +kernel); (case hn => decide +kernel); (case hl => rfl))
  | with_reducible refine w_sfld ?_ | ((with_reducible refine' w_sfld1 ?ha (ClsF.cl (cs := clsL) (as := attL) (by assumption) _ ?hc) (ClsF.no (cs := clsL) (as := attL) (by assumption) _ _ ?hn) ?he ?hl ?_); (case ha => walk_at "at"); (case hc => decide +kernel); (case hn => decide +kernel); (case he => rfl); (case hl => rfl))
  | with_reducible refine w_lk ?_ | ((with_reducible refine' lkL ?ha ?_); (case ha => walk_at "at")) | with_reducible refine w_mkS ?_ | with_reducible refine w_mk ?_ | with_reducible refine w_bas ?_ | with_reducible refine w_m1 ?_ | with_reducible refine w_isS ?_ | with_reducible refine w_bm0 ?_ | with_reducible refine w_iS ?_ | with_reducible refine w_chain ?_
  | with_reducible refine w_inSg ?_ | with_reducible refine w_ninSg ?_
  | with_reducible refine w_rz ?_ | with_reducible refine w_calX ?_ | with_reducible refine w_calS ?_ | with_reducible refine w_row ?_
  | with_reducible refine w_seq ?_ | with_reducible refine w_set ?_ | with_reducible refine w_drop ?_ | with_reducible refine w_ret ?_ | with_reducible refine w_ifS ?_ | with_reducible refine w_next ?_
  | ((with_reducible refine' w_var ?hv ?_); (case hv => rfl)) | with_reducible refine w_c ?_
  | with_reducible refine w_op ?_ | with_reducible refine w_un ?_ | with_reducible refine w_cb ?_ | with_reducible refine w_cal ?_ | with_reducible refine w_cons ?_ | with_reducible refine w_nil ?_
  | with_reducible refine w_plus ?_ | with_reducible refine w_minus ?_ | with_reducible refine w_lt ?_ | with_reducible refine w_le ?_ | with_reducible refine w_gt ?_ | with_reducible refine w_ge ?_
  | with_reducible refine w_eqI ?_ | with_reducible refine w_neI ?_ | with_reducible refine w_eqB ?_ | with_reducible refine w_neB ?_ | with_reducible refine w_eqS ?_ | with_reducible refine w_neS ?_
  | with_reducible refine w_neg ?_ | with_reducible refine w_abs ?_ | with_reducible refine w_intB ?_ | with_reducible refine w_test ?_ | with_reducible refine w_tB ?_ | with_reducible refine w_bl ?_
  | with_reducible refine w_and ?_ | with_reducible refine w_or ?_ | with_reducible refine w_not ?_ | with_reducible refine w_andV ?_ | with_reducible refine w_orV ?_ | with_reducible refine w_notV ?_ | with_reducible refine w_ifE ?_
  | with_reducible refine w_nyes ?_ | with_reducible refine w_nno ?_ | with_reducible refine w_yes ?_ | with_reducible refine w_no ?_
  | ((with_reducible refine' w_ixL ?ha ?hb ?_); (case ha => walk_at "hp"); (case hb => rfl)) | ((with_reducible refine' w_ixT ?ha ?hb ?_); (case ha => walk_at "hp"); (case hb => rfl))
  | ((with_reducible refine' w_lenL ?ha ?_); (case ha => walk_at "hp")) | ((with_reducible refine' w_lenT ?ha ?_); (case ha => walk_at "hp"))
  | with_reducible refine w_min2 ?_ | with_reducible refine w_max2 ?_ | with_reducible refine w_bm ?_ | with_reducible refine w_lc ?_ | ((with_reducible refine' w_tyL ?ha ?_); (case ha => walk_at "at"))
  | with_reducible refine isi_ii ?_ | with_reducible refine isi_ib ?_ | with_reducible refine isi_bb ?_ | with_reducible refine isi_ss ?_
  | ((with_reducible refine' isi_tt ?ha ?_); (case ha => walk_at "at")) | ((with_reducible refine' isi_ll ?ha ?_); (case ha => walk_at "at"))
  | with_reducible refine w_par ?_ | with_reducible refine w_par2 ?_ | with_reducible refine w_for ?_ | with_reducible refine w_iL ?_ | with_reducible refine w_iT ?_ | with_reducible refine w_iR1 ?_ | with_reducible refine w_iR2 ?_
  | with_reducible refine w_tup ?_ | with_reducible refine w_lst ?_
  | with_reducible refine w_asg ?_ | with_reducible refine w_gname ?_ | with_reducible refine w_gcons ?_ | with_reducible refine w_gnil ?_ | with_reducible refine w_gsub ?_
  | ((with_reducible refine' w_gtup ?ha ?hb ?_); (case ha => walk_at "hp"); (case hb => rfl))
  | ((with_reducible refine' w_fdiv ?hc ?_); (case hc => walk_at "cond")) | ((with_reducible refine' w_mul ?hc ?_); (case hc => walk_at "cond"))
  | ((with_reducible refine' w_mod ?hc ?_); (case hc => walk_at "cond")) | ((with_reducible refine' w_pow ?hc ?_); (case hc => walk_at "cond")))
local macro_rules | `(tactic| walk_at "wp") => `(tactic| repeat walk_at "wp1")
section
variable {P : Program} {w : World} {K : PySem.W.Frag} {mg : Str → Option Value} {base : Heap}
/-! ### all steps; a part; a program -/
def spPart (K : PySem.W.Frag) : Sp := fun vs H Q E => ∃ rd dx l as rows p, vs = [.ref rd] ∧ RdrA K H rd dx l as rows p ∧ p < rows.length ∧
  match partM rows p with
  | .ok (q, p') => ∀ a H', PartAt K H' a q → RdrA K H' rd dx l as rows p' → Fw.Keep rd H H' → Q (.ref a) H'
  | .error e => BadR K E ((e : Nat) : Int) rd H
def spProg (K : PySem.W.Frag) : Sp := fun vs H Q E => ∃ rd dx l as rows, vs = [.ref rd] ∧ RdrA K H rd dx l as rows 0 ∧ rows ≠ [] ∧
  match progM rows with
  | .ok ps => ∀ a H', ProgAt K H' a ps → Fw.Keep rd H H' → Q (.ref a) H'
  | .error e => BadR K E ((e : Nat) : Int) rd H
def readM (z : Str) : Except Nat (List Pt) := match rowsL 0 (Txt.split z "\n") with
  | .inl i => .error i
  | .inr rows => progM rows
def spRead (K : PySem.W.Frag) : Sp := fun vs H Q E => ∃ z : Str, vs = [.str z] ∧ z.length ≤ 10000 ∧ ((Txt.split z "\n").length ≤ 20000 ∧ ∀ y ∈ Txt.split z "\n", y.length ≤ 10000) ∧ Txt.split z "\n" ≠ [] ∧
  match readM z with
  | .ok ps => ∀ a H', ProgAt K H' a ps → Same H H' → Q (.ref a) H'
  | .error e => BadE K E ((e : Nat) : Int) H
theorem rowsL_ne {ls : List Str} {i : Nat} {rows : Rows} (h : rowsL i ls = .inr rows) (hl : ls ≠ []) : rows ≠ [] := by
  cases ls with
  | nil => exact absurd rfl hl
  | cons z r =>
    unfold rowsL at h
    split at h
    · cases h
    · cases e : lineM z with
      | none => rw [e] at h; cases h
      | some y =>
        rw [e] at h
        dsimp only at h
        cases e2 : rowsL (i + 1) r with
        | inl x => rw [e2] at h; cases h
        | inr qs =>
          rw [e2] at h
          cases h
          exact List.cons_ne_nil _ _
theorem firstM_deep {rows : Rows} {p : Nat} (h : ∀ q ∈ rows, q.1 ≤ 5) : firstM rows p 6 = "" := by
  unfold firstM
  cases e : rows[p]? with
  | none => rfl
  | some q =>
    have := h q (List.mem_of_getElem? e)
    dsimp only
    rw [if_neg (by omega)]
section
variable (T : Fre mg) (CS : Cst K mg) (CF : ClsF K clsL attL) (MF : MthF K) (Z_BadText : Exk K mg "BadText") (ini2 : IniOk P w K mg base [])
include T CS CF MF
theorem read_steps_all (F1 : MDef K "Reader" "read_choice" "Reader.read_choice" s_Reader_read_choice) (F2 : MDef K "Reader" "read_step" "Reader.read_step" s_Reader_read_step) (F3 : MDef K "Reader" "read_block" "Reader.read_block" s_Reader_read_block) (F4 : MDef K "Reader" "read_steps" "Reader.read_steps" s_Reader_read_steps)
    (m_Row_took : Met P w K mg base 2 "Row" "took" (spTook K)) (m_Row_must : Met P w K mg base 4 "Row" "must" (spMust K)) (m_Row_read_name : Met P w K mg base 4 "Row" "read_name" (spName K)) (m_Row_read_whole : Met P w K mg base 4 "Row" "read_whole" (spWh K)) (m_Row_read_term : Met P w K mg base 36 "Row" "read_term" (spRd K 0 fun ms => rTerm ms 9)) (m_Row_ended : Met P w K mg base 4 "Row" "ended" (spEnded K)) (m_Reader_bad : Met P w K mg base 3 "Reader" "bad" (spRBad K)) (m_Reader_first : Met P w K mg base 1 "Reader" "first" (spFirst K)) (m_Reader_taken : Met P w K mg base 3 "Reader" "taken" (spTaken K)) (m_Reader_read_filled : Met P w K mg base 38 "Reader" "read_filled" (spFilled K)) (k_Rowed : Mak P w K mg base 2 "Rowed" (spIni (He.ga K "Rowed") [] ["row", "name", "size"])) (k_Turns : Mak P w K mg base 2 "Turns" (spIni (He.ga K "Turns") [] ["row", "counter", "many", "body"])) (k_Choice : Mak P w K mg base 2 "Choice" (spIni (He.ga K "Choice") [] ["row", "one", "two", "yes", "no"])) :
    ∀ k, k ≤ 6 → Met P w K mg base (40 + 4 * k) "Reader" "read_steps" (spBlk K (6 - k) fun rows => stepsK rows k)
  | 0, _ => by
    have m0 : Met P w K mg base 1 "Reader" "read_step" (fun _ _ _ _ => False) := met_of F2 (CF.cl _ (by decide +kernel)) (MF.m _ _ (by decide +kernel)) sc_Reader_read_step b_Reader_read_step (fun _ _ _ _ h => h.elim) (fun _ _ _ _ _ _ _ _ _ h => h.elim)
    have m1 : Met P w K mg base 39 "Reader" "read_step" (spStp K 6 fun _ p => .ok ([], p)) := (m0.imp (fun vs H Q E h => by
      obtain ⟨rd, dx, l, as, rows, p, _, D, hF, _⟩ := h
      exact hF (by rw [firstM_deep D.2.1]; decide))).mono (by omega)
    refine (read_steps_at T CS CF MF F4 (d := 6) (L := 39) (by omega) (fun rows p ss p' h => by cases h; exact Nat.le_refl _) m1 m_Reader_first).imp fun vs H Q E h => ?_
    obtain ⟨rd, dx, l, as, rows, p, hv, D, h⟩ := h
    refine ⟨rd, dx, l, as, rows, p, hv, D, ?_⟩
    have e : stepsF rows (fun p => .ok ([], p)) 6 [] p = .ok ([], p) := stepsF_end (by rw [firstM_deep D.2.1]; decide)
    dsimp only
    rw [e]
    exact h
  | k + 1, hk => by
    have ms := read_steps_all F1 F2 F3 F4 m_Row_took m_Row_must m_Row_read_name m_Row_read_whole m_Row_read_term m_Row_ended m_Reader_bad m_Reader_first m_Reader_taken m_Reader_read_filled k_Rowed k_Turns k_Choice k (by omega)
    have e6 : 6 - k = (5 - k) + 1 := by omega
    have e5 : 6 - (k + 1) = 5 - k := by omega
    rw [e6] at ms
    have mb := read_block_at T CS CF MF F3 (by omega) ms m_Reader_bad
    have mc := read_choice_at T CF MF F1 (d := 5 - k) (by omega) mb m_Row_read_term m_Row_must m_Row_ended m_Reader_first m_Reader_taken k_Choice
    have mt := read_step_at T CS CF MF F2 (by omega) mb mc m_Row_took m_Row_read_name m_Row_read_whole m_Row_ended m_Reader_taken m_Reader_read_filled k_Rowed k_Turns
    have mss := read_steps_at T CS CF MF F4 (by omega) (fun rows => blockM_on (stepsK_on k)) mt m_Reader_first
    rw [e5]
    exact mss.mono (by omega)
-- CHAIN have m_Reader_read_steps : Met P w K mg base 60 "Reader" "read_steps" (spBlk K 1 fun rows => stepsK rows 5) := read_steps_all (T := T) (CS := CS) (CF := CF) (MF := MF) F_Reader_read_choice F_Reader_read_step F_Reader_read_block F_Reader_read_steps m_Row_took m_Row_must m_Row_read_name m_Row_read_whole m_Row_read_term m_Row_ended m_Reader_bad m_Reader_first m_Reader_taken m_Reader_read_filled k_Rowed k_Turns k_Choice 5 (by decide)
-- REG m_Reader_read_steps = Met P w K mg base 60 "Reader" "read_steps" (spBlk K 1 fun rows => stepsK rows 5)
theorem m_Reader_read_part (F : MDef K "Reader" "read_part" "Reader.read_part" s_Reader_read_part) (m_Reader_taken : Met P w K mg base 3 "Reader" "taken" (spTaken K)) (m_Row_must : Met P w K mg base 4 "Row" "must" (spMust K)) (m_Row_read_name : Met P w K mg base 4 "Row" "read_name" (spName K)) (m_Row_read_names : Met P w K mg base 5 "Row" "read_names" (spNames K)) (m_Row_ended : Met P w K mg base 4 "Row" "ended" (spEnded K)) (m_Row_bad : Met P w K mg base 3 "Row" "bad" (spBad K)) (m_Reader_read_steps : Met P w K mg base 60 "Reader" "read_steps" (spBlk K 1 fun rows => stepsK rows 5)) (m_Reader_first : Met P w K mg base 1 "Reader" "first" (spFirst K)) (m_Reader_bad : Met P w K mg base 3 "Reader" "bad" (spRBad K)) (m_Row_read_terms : Met P w K mg base 37 "Row" "read_terms" (spTerms K)) (k_Part : Mak P w K mg base 1 "Part" (spIni (He.ga K "Part") [] ["name", "takes", "body", "gives", "row", "last"])) : Met P w K mg base 61 "Reader" "read_part" (spPart K) := by
  refine met_of F (CF.cl _ (by decide +kernel)) (MF.m _ _ (by decide +kernel)) sc_Reader_read_part b_Reader_read_part (fun vs H Q E h => ?_) (fun cdv A outer s H vs Q E hr h => ?_)
  · obtain ⟨_, _, _, _, _, _, rfl, _⟩ := h
    rfl
  · obtain ⟨rd, dx, l, as, rows, p, rfl, D, hp, h⟩ := h
    obtain ⟨d', e0⟩ := row_at hp
    have g_MOST_TAKEN := CS.g_MOST_TAKEN
    have g_MOST_GIVEN := CS.g_MOST_GIVEN
    generalize hms : marksAt rows p = ms at e0
    have erd := D.2.2.1
    have po := passes_of (X := cxOf (L2N.CX P w) P w K mg base ["self", "row", "name", "takes", "body", "last", "gives"] "Reader.read_part" (defScope s_Reader_read_part) (He.ma K (He.ga K "Reader") "read_part") cdv A outer s H E) rfl
    have tk := L2N.takes_of (X := cxOf (L2N.CX P w) P w K mg base ["self", "row", "name", "takes", "body", "last", "gives"] "Reader.read_part" (defScope s_Reader_read_part) (He.ma K (He.ga K "Reader") "read_part") cdv A outer s H E) (E := E) rfl rfl rfl rfl
    have pc := L2N.passes_call tk (fun _ _ _ _ h => h) (E := E)
    have hu64 : (cxOf (L2N.CX P w) P w K mg base ["self", "row", "name", "takes", "body", "last", "gives"] "Reader.read_part" (defScope s_Reader_read_part) (He.ma K (He.ga K "Reader") "read_part") cdv A outer s H E).A.units + 64 < cLine := by
      have := hr.un
      show (A.deeper _).units + 64 < cLine
      omega
    refine ⟨_, (pss_cons (ps_set (i := 1) sc_Reader_read_part.nd rfl (loc_of rfl) (pe_mt0 m_Reader_taken (pv 0) hr (by omega) pc))
      (pss_cons (ps_expr (pe_mt m_Row_must (pv 1) hr (by omega) pc (pa_cons pe_str pa_nil)))
      (pss_cons (ps_set (i := 2) sc_Reader_read_part.nd rfl (loc_of rfl) (pe_mt0 m_Row_read_name (pv 1) hr (by omega) pc))
      (pss_cons (ps_expr (pe_mt m_Row_must (pv 1) hr (by omega) pc (pa_cons pe_str pa_nil)))
      (pss_cons (ps_set (i := 3) sc_Reader_read_part.nd rfl (loc_of rfl) (pe_lk (pe_mt0 m_Row_read_names (pv 1) hr (by omega) pc)))
      (pss_cons (ps_expr (pe_mt m_Row_must (pv 1) hr (by omega) pc (pa_cons pe_str pa_nil)))
      (pss_cons (ps_expr (pe_mt0 m_Row_ended (pv 1) hr (by omega) pc))
      (pss_cons (ps_if (pt_cmpR o_gt (pe_callB (c_lenK (K := K) rfl) (by rfl) T.f_len (by decide +kernel) (pa_cons (pv 3) pa_nil)) (C8.pe_gc (v := .int 4) (by rfl) g_MOST_TAKEN) (nomark _)) (pss_one (ps_expr (pe_mt0 m_Row_bad (pv 1) hr (by omega) pc))) pss_nil)
      (pss_cons (ps_set (i := 4) sc_Reader_read_part.nd rfl (loc_of rfl) (pe_mt m_Reader_read_steps (pv 0) hr (by omega) pc (pa_cons pe_int pa_nil)))
      (pss_cons (ps_if (pt_cmpR op_ne (pe_mt m_Reader_first (pv 0) hr (by omega) pc (pa_cons pe_int pa_nil)) pe_str (nomark _)) (pss_one (ps_expr (pe_mt0 m_Reader_bad (pv 0) hr (by omega) pc))) pss_nil)
      (pss_cons (ps_set (i := 5) sc_Reader_read_part.nd rfl (loc_of rfl) (pe_mt0 m_Reader_taken (pv 0) hr (by omega) pc))
      (pss_cons (ps_expr (pe_mt m_Row_must (pv 5) hr (by omega) pc (pa_cons pe_str pa_nil)))
      (pss_cons (ps_set (i := 6) sc_Reader_read_part.nd rfl (loc_of rfl) (pe_lk (pe_mt0 m_Row_read_terms (pv 5) hr (by omega) pc)))
      (pss_cons (ps_expr (pe_mt0 m_Row_ended (pv 5) hr (by omega) pc))
      (pss_cons (ps_if (PW.pt (pw_or (pt_cmpR o_gt (pe_callB (c_lenK (K := K) rfl) (by rfl) T.f_len (by decide +kernel) (pa_cons (pv 6) pa_nil)) (C8.pe_gc (v := .int 4) (by rfl) g_MOST_GIVEN) (nomark _)) (pw_or1 (PW.pt (pw_and (pt_cmpR op_ne (pv 2) pe_str (nomark _)) (pw_and1 (pt_cmpR o_gt (pe_callB (c_lenK (K := K) rfl) (by rfl) T.f_len (by decide +kernel) (pa_cons (pv 6) pa_nil)) pe_int (nomark _)))))))) (pss_one (ps_expr (pe_mt0 m_Row_bad (pv 5) hr (by omega) pc))) pss_nil)
      (pss_one (ps_ret (pe_mkS k_Part hr (by omega) pc (pa_cons (pv 2) (pa_cons (pv 3) (pa_cons (pv 4) (pa_cons (pv 6) (pa_cons (pe_fld (pv 1) rfl) (pa_cons (pe_fld (pv 5) rfl) pa_nil)))))))))))))))))))))))), ?_⟩
    refine w_start [some (.ref rd), none, none, none, none, none, none] rfl ?_
    try dsimp only [cxOf]
    unfold partM at h
    rw [hms] at h
    unfold defM at h
    walk_at "wp"
    refine ⟨rd, dx, l, as, rows, p, d', ms, rfl, D, e0, fun r ml H1 nr R1 D1 k1 => ?_⟩
    have nrd : r ≠ rd := (ne_of_none erd nr).symm
    obtain ⟨ok, dr1, er1, el1⟩ := id R1
    walk_at "wp"
    refine ⟨r, ml, ms, 0, _, 0, _, rfl, R1, ?_⟩
    cases e1 : must ms "def" 0 with
    | none =>
      rw [e1] at h
      exact BadR.row h k1 D1.2.2.1 nr
    | some p1 =>
    rw [e1] at h
    simp only [Option.bind_some] at h
    refine fun H2 R2 k2 => ?_
    obtain ⟨_, dr2, er2, el2⟩ := id R2
    have D2 := D1.row R1 k2 nrd
    have k12 := keep_row k1 k2 nr
    walk_at "wp"
    refine ⟨r, ml, ms, p1, _, 0, rfl, R2, ?_⟩
    cases e2 : rName ms p1 with
    | none =>
      rw [e2] at h
      exact BadR.row h k12 D2.2.2.1 nr
    | some z2 =>
    obtain ⟨x, p2⟩ := z2
    rw [e2] at h
    simp only [Option.bind_some] at h
    refine fun H3 R3 k3 => ?_
    obtain ⟨_, dr3, er3, el3⟩ := id R3
    have D3 := D2.row R2 k3 nrd
    have k13 := keep_row k12 k3 nr
    walk_at "wp"
    refine ⟨r, ml, ms, p2, _, 0, _, rfl, R3, ?_⟩
    cases e3 : must ms "(" p2 with
    | none =>
      rw [e3] at h
      exact BadR.row h k13 D3.2.2.1 nr
    | some p3 =>
    rw [e3] at h
    simp only [Option.bind_some] at h
    refine fun H4 R4 k4 => ?_
    obtain ⟨_, dr4, er4, el4⟩ := id R4
    have D4 := D3.row R3 k4 nrd
    have k14 := keep_row k13 k4 nr
    walk_at "wp"
    refine ⟨r, ml, ms, p3, _, 0, rfl, R4, ?_⟩
    cases e4 : sqM ms (rName ms) p3 with
    | none =>
      rw [e4] at h
      exact BadR.row h k14 D4.2.2.1 nr
    | some z4 =>
    obtain ⟨xs, p4⟩ := z4
    rw [e4] at h
    simp only [Option.bind_some] at h
    refine fun lt H5 nlt elt R5 k5 => ?_
    obtain ⟨_, dr5, er5, el5⟩ := id R5
    have D5 := D4.row R4 k5 nrd
    have k15 := keep_row k14 k5 nr
    have nlt0 : H lt = none := none_of_keep k14 D4.2.2.1 nlt
    have nml : ml ≠ lt := ne_of_none el4 nlt
    walk_at "wp"
    refine fun H6 f6 k6 => ?_
    have R6 := rowAt_lst R5 k6 elt nml
    obtain ⟨_, dr6, er6, el6⟩ := id R6
    have k16 := keep_new k15 k6 nlt0
    have D6 := D.on k16 (k6 _ _ (ne_of_none erd nlt0) D5.2.2.1)
    walk_at "wp"
    refine ⟨r, ml, ms, p4, _, 0, _, rfl, R6, ?_⟩
    cases e5 : must ms ")" p4 with
    | none =>
      rw [e5] at h
      exact BadR.row h k16 D6.2.2.1 nr
    | some p5 =>
    rw [e5] at h
    simp only [Option.bind_some] at h
    refine fun H7 R7 k7 => ?_
    obtain ⟨_, dr7, er7, el7⟩ := id R7
    have D7 := D6.row R6 k7 nrd
    have k17 := keep_row k16 k7 nr
    have f7 := f6.keepN (R6.kn k7)
    walk_at "wp"
    refine ⟨r, ml, ms, p5, _, 0, rfl, R7, fun h5 => ?_, fun h5 => ?_⟩
    rotate_left
    · rw [if_neg (fun z => by omega)] at h
      exact BadR.row h k17 D7.2.2.1 nr
    walk_at "wp"
    rw [List.length_map]
    refine w_dec (fun h6 => ?_) (fun h6 => ?_)
    · rw [if_neg (fun z => by omega)] at h
      walk_at "wp"
      exact ⟨r, ml, ms, p5, _, 0, rfl, R7, BadR.row h k17 D7.2.2.1 nr⟩
    rw [if_pos ⟨h5, by omega⟩] at h
    dsimp only at h
    have erd7 := D7.2.2.1
    walk_at "wp"
    refine ⟨rd, dx, l, as, rows, p + 1, rfl, D7, ?_⟩
    dsimp only
    cases e7 : stepsK rows 5 (p + 1) with
    | error e =>
      rw [e7] at h
      exact h.keep k17 D7.2.2.1
    | ok z7 =>
    obtain ⟨body, p7⟩ := z7
    rw [e7] at h
    dsimp only at h ⊢
    refine fun lb H8 B8 D8 k8 => ?_
    have k18 := k17.trans k8
    have R8 := R7.rdr D7 k8 nrd
    have f8 := f7.keepN (D7.kn k8)
    obtain ⟨_, dr8, er8, el8⟩ := id R8
    have erd8 := D8.2.2.1
    walk_at "wp"
    refine ⟨rd, rows, p7, 1, rfl, D8.at, ?_⟩
    walk_at "wp"
    refine w_decN (fun h8 => ?_) (fun h8 => ?_)
    · rw [if_neg h8] at h
      walk_at "wp"
      exact ⟨rd, dx, l, as, rows, p7, rfl, D8, h.keep k18 D8.2.2.1⟩
    rw [if_pos h8] at h
    obtain ⟨mo, ro, rm, r0⟩ := firstM_row (rows := rows) (p := p7) (d := 1) (by rw [h8]; decide)
    rw [h8] at r0
    rw [rm] at h
    unfold giveM at h
    have em : must mo "give" 0 = some 1 := if_pos r0
    rw [em] at h
    simp only [Option.bind_some] at h
    walk_at "wp"
    refine ⟨rd, dx, l, as, rows, p7, 1, mo, rfl, D8, ro, fun r9 m9 H9 nr9 R9 D9 k9 => ?_⟩
    have nr9d : r9 ≠ rd := (ne_of_none D8.2.2.1 nr9).symm
    have nr9r : r ≠ r9 := ne_of_none er8 nr9
    have k19 := k18.trans k9
    have nr90 : H r9 = none := none_of_keep k18 D8.2.2.1 nr9
    have Q9 := R8.rdr D8 k9 nrd
    have f9 := f8.keepN (D8.kn k9)
    have B9 := B8.keep (D8.kn k9)
    obtain ⟨_, ds9, es9, fs9⟩ := id R9
    walk_at "wp"
    refine ⟨r9, m9, mo, 0, _, 0, _, rfl, R9, ?_⟩
    rw [em]
    dsimp only
    refine fun H10 R10 k10 => ?_
    have D10 := D9.row R9 k10 nr9d
    have k110 := keep_row k19 k10 nr90
    have Q10 := RowAt.rd Q9 k10 es9 (fun xs z => by cases z) nr9r
    have f10 := f9.keepN (R9.kn k10)
    have B10 := B9.keep (R9.kn k10)
    obtain ⟨_, ds10, es10, fs10⟩ := id R10
    walk_at "wp"
    refine ⟨r9, m9, mo, 1, _, rfl, R10, ?_⟩
    dsimp only
    cases e11 : sqM mo (rTerm mo 9) 1 with
    | none =>
      rw [e11] at h
      exact BadR.row h k110 D10.2.2.1 nr90
    | some z11 =>
    obtain ⟨ts, p11⟩ := z11
    rw [e11] at h
    simp only [Option.bind_some] at h
    refine fun lg gs H11 nlg elg TA R11 k11 => ?_
    have D11 := D10.row R10 k11 nr9d
    have k111 := keep_row k110 k11 nr90
    have Q11 := RowAt.rd Q10 k11 es10 (fun xs z => by cases z) nr9r
    have f11 := f10.keepN (R10.kn k11)
    have B11 := B10.keep (R10.kn k11)
    have nlg0 : H lg = none := none_of_keep k110 D10.2.2.1 nlg
    have nml2 : m9 ≠ lg := ne_of_none fs10 nlg
    obtain ⟨_, ds11, es11, fs11⟩ := id R11
    obtain ⟨_, _, er10, el10⟩ := id Q10
    have nml3 : ml ≠ lg := ne_of_none el10 nlg
    walk_at "wp"
    refine fun H12 f12 k12' => ?_
    have kL := Keep.keepL k12' elg
    have R12 := rowAt_lst R11 k12' elg nml2
    have Q12 := rowAt_lst Q11 k12' elg nml3
    have k112 := keep_new k111 k12' nlg0
    have D12 := D.on k112 (k12' _ _ (ne_of_none erd nlg0) D11.2.2.1)
    have t12 := f11.keepN kL
    have B12 := B11.keep kL
    have TA12 := TA.keep kL
    obtain ⟨_, ds12, es12, fs12⟩ := id R12
    obtain ⟨_, dq12, eq12, fq12⟩ := id Q12
    walk_at "wp"
    refine ⟨r9, m9, mo, p11, _, 0, rfl, R12, fun h11 => ?_, fun h11 => ?_⟩
    rotate_left
    · rw [if_neg (fun z => by omega)] at h
      exact BadR.row h k112 D12.2.2.1 nr90
    have lgs : gs.length = ts.length := by
      have ln : ∀ {gs : List Addr} {ts : List Rd.T}, TermsAt K H12 gs ts → gs.length = ts.length := by
        intro gs
        induction gs with
        | nil => intro ts h; cases ts with
          | nil => rfl
          | cons _ _ => exact h.elim
        | cons a gs ih => intro ts h; cases ts with
          | nil => exact h.elim
          | cons t ts => exact congrArg Nat.succ (ih h.2)
      exact ln TA12
    walk_at "wp"
    rw [List.length_map, lgs]
    have bad12 : ∀ (hh : ¬ (mo.length ≤ p11 ∧ ts.length ≤ 4 ∧ (x = "main" ∨ ts.length ≤ 1))), BadR K E ((p7 + 1 : Nat) : Int) r9 H12 := fun hh => by
      rw [if_neg hh] at h
      exact BadR.row h k112 D12.2.2.1 nr90
    have fin : (mo.length ≤ p11 ∧ ts.length ≤ 4 ∧ (x = "main" ∨ ts.length ≤ 1)) → ∀ a da H13, H13 a = some (.ins (He.ga K "Part") da [("name", .str x), ("takes", .ref lt), ("body", .ref lb), ("gives", .ref lg), ("row", .int ((p + 1 : Nat) : Int)), ("last", .int ((p7 + 1 : Nat) : Int))]) → Same H12 H13 → Q (.ref a) H13 := fun hh a da H13 ea sa => by
      rw [if_pos hh] at h
      exact h a H13 ⟨da, lt, lb, lg, gs, ea, t12.same sa, B12.keep sa.keepN, f12.same sa, TA12.keep sa.keepN⟩ (D12.same sa) (k112.same sa)
    refine w_dec (fun h12 => ?_) (fun h12 => ?_)
    · walk_at "wp"
      exact ⟨r9, m9, mo, p11, _, 0, rfl, R12, bad12 (fun z => by omega)⟩
    · walk_at "wp"
      refine w_decN (fun h13 => ?_) (fun h13 => ?_)
      · walk_at "wp"
        rw [List.length_map, lgs]
        refine w_dec (fun h14 => ?_) (fun h14 => ?_)
        · walk_at "wp"
          exact ⟨r9, m9, mo, p11, _, 0, rfl, R12, bad12 (fun z => by
            rcases z.2.2 with z | z
            · exact h13 z
            · omega)⟩
        · walk_at "wp"
          exact ⟨rfl, fun a da H13 na ea sa => fin ⟨h11, by omega, .inr (by omega)⟩ a da H13 ea sa⟩
      · walk_at "wp"
        exact ⟨rfl, fun a da H13 na ea sa => fin ⟨h11, by omega, .inl h13⟩ a da H13 ea sa⟩
section
include Z_BadText ini2
theorem m_Reader_read_program (F : MDef K "Reader" "read_program" "Reader.read_program" s_Reader_read_program) (m_Reader_first : Met P w K mg base 1 "Reader" "first" (spFirst K)) (m_Reader_bad : Met P w K mg base 3 "Reader" "bad" (spRBad K)) (m_Reader_read_part : Met P w K mg base 61 "Reader" "read_part" (spPart K)) (k_Program : Mak P w K mg base 1 "Program" (spIni (He.ga K "Program") [] ["parts"])) : Met P w K mg base 62 "Reader" "read_program" (spProg K) := by
  refine met_of F (CF.cl _ (by decide +kernel)) (MF.m _ _ (by decide +kernel)) sc_Reader_read_program b_Reader_read_program (fun vs H Q E h => ?_) (fun cdv A outer s H vs Q E hr h => ?_)
  · obtain ⟨_, _, _, _, _, rfl, _⟩ := h
    rfl
  · obtain ⟨rd, dx, l, as, rows, rfl, D, hne, h⟩ := h
    have g_MOST_PARTS := CS.g_MOST_PARTS
    have erd := D.2.2.1
    have po := passes_of (X := cxOf (L2N.CX P w) P w K mg base ["self", "parts"] "Reader.read_program" (defScope s_Reader_read_program) (He.ma K (He.ga K "Reader") "read_program") cdv A outer s H E) rfl
    have tk := L2N.takes_of (X := cxOf (L2N.CX P w) P w K mg base ["self", "parts"] "Reader.read_program" (defScope s_Reader_read_program) (He.ma K (He.ga K "Reader") "read_program") cdv A outer s H E) (E := E) rfl rfl rfl rfl
    have pc := L2N.passes_call tk (fun _ _ _ _ h => h) (E := E)
    have hu64 : (cxOf (L2N.CX P w) P w K mg base ["self", "parts"] "Reader.read_program" (defScope s_Reader_read_program) (He.ma K (He.ga K "Reader") "read_program") cdv A outer s H E).A.units + 64 < cLine := by
      have := hr.un
      show (A.deeper _).units + 64 < cLine
      omega
    refine ⟨_, (pss_cons (ps_set (i := 1) sc_Reader_read_program.nd rfl (loc_of rfl) (pe_lst pa_nil))
      (pss_cons (ps_while po (pt_cmpR o_lt (pe_fld (pv 0) rfl) (pe_callB (c_lenK (K := K) rfl) (by rfl) T.f_len (by decide +kernel) (pa_cons (pe_fld (pv 0) rfl) pa_nil)) (nomark _)) (Evl.pss_cut (ps_if (PW.pt (pw_or (pt_cmpR op_ne (pe_mt m_Reader_first (pv 0) hr (by omega) pc (pa_cons pe_int pa_nil)) pe_str (nomark _)) (pw_or1 (pt_cmpR op_eq (pe_callB (c_lenK (K := K) rfl) (by rfl) T.f_len (by decide +kernel) (pa_cons (pv 1) pa_nil)) (C8.pe_gc (v := .int 6) (by rfl) g_MOST_PARTS) (nomark _))))) (pss_one (ps_expr (pe_mt0 m_Reader_bad (pv 0) hr (by omega) pc))) pss_nil)
      (pss_one (ps_expr (pe_bm PySem.F.plainAttrs_list PySem.F.slot_list_append PySem.F.type_list_append mt_append (pv 1) (pa_cons (pe_mt0 m_Reader_read_part (pv 0) hr (by omega) pc) pa_nil))))))
      (pss_cons (ps_if (pt_cmpR op_ne (pe_fld (pe_ix (ixL (K := K) rfl) (pv 1) (pe_op o_sub (pe_callB (c_lenK (K := K) rfl) (by rfl) T.f_len (by decide +kernel) (pa_cons (pv 1) pa_nil)) pe_int) (fun _ _ => rfl)) rfl) pe_str (nomark _)) (pss_one (ps_rz (dv := []) Z_BadText ini2 rfl hr (by omega) tk (pa_cons pe_str (pa_cons (pe_fld (pe_ix (ixL (K := K) rfl) (pv 1) (pe_op o_sub (pe_callB (c_lenK (K := K) rfl) (by rfl) T.f_len (by decide +kernel) (pa_cons (pv 1) pa_nil)) pe_int) (fun _ _ => rfl)) rfl) pa_nil)))) pss_nil)
      (pss_one (ps_ret (pe_mkS k_Program hr (by omega) pc (pa_cons (pe_lk (pv 1)) pa_nil))))))), ?_⟩
    refine w_start [some (.ref rd), none] rfl ?_
    try dsimp only [cxOf]
    unfold progM at h
    walk_at "wp"
    refine newL fun lp H1 nlp e1 s1 => ?_
    walk_at "wp"
    have hrl : 0 < rows.length := List.length_pos_iff.mpr hne
    refine w_while (fun m σ H' => ∃ bs acc p', σ = [some (.ref rd), some (.ref lp)] ∧ H' lp = some (.lst (bs.map V.ref)) ∧ PartsAt K H' bs acc ∧ RdrA K H' rd dx l as rows p' ∧ Fw.Keep rd H H' ∧ partsF rows acc p' = partsF rows [] 0 ∧ (p' = 0 ∨ acc ≠ []) ∧ acc.length ≤ 6 ∧ m = rows.length - p') (rows.length - 0)
      ⟨[], [], 0, rfl, e1, trivial, D.same s1, s1.toKeep, rfl, .inl rfl, Nat.zero_le _, rfl⟩ fun m σ H2 hw => ?_
    obtain ⟨bs, acc, p', rfl, e2, PA, D2, k2, hE, ha, hal, rfl⟩ := hw
    rw [← hE] at h
    have erd2 := D2.2.2.1
    have elr2 := D2.2.2.2.1
    have lrows : as.length = rows.length := D2.2.2.2.2.len
    walk_at "wp"
    rw [List.length_map, lrows]
    refine w_dec (fun h1 => ?_) (fun h1 => ?_)
    · have hp' : p' < rows.length := by omega
      refine w_turn ?_
      walk_at "wp"
      refine w_cut (fun σ' H' => σ' = [some (.ref rd), some (.ref lp)] ∧ H' = H2 ∧ ¬ (firstM rows p' 0 ≠ "def" ∨ acc.length = 6)) ?_ (fun σ' H' hm => ?_)
      · have badE : (firstM rows p' 0 ≠ "def" ∨ acc.length = 6) → BadR K E ((p' + 1 : Nat) : Int) rd H2 := fun hb => by
          rw [partsF_bad hp' hb] at h
          exact h.keep k2 D2.2.2.1
        walk_at "wp"
        refine ⟨rd, rows, p', 0, rfl, D2.at, ?_⟩
        walk_at "wp"
        refine w_decN (fun h2 => ?_) (fun h2 => ?_)
        · walk_at "wp"
          exact ⟨rd, dx, l, as, rows, p', rfl, D2, badE (.inl h2)⟩
        · walk_at "wp"
          rw [List.length_map, PA.len]
          refine w_dec (fun h3 => ?_) (fun h3 => ?_)
          · walk_at "wp"
            exact ⟨rd, dx, l, as, rows, p', rfl, D2, badE (.inr (by omega))⟩
          · walk_at "wp"
            exact ⟨rfl, rfl, fun z => by
              rcases z with z | z
              · exact z h2
              · omega⟩
      · obtain ⟨rfl, rfl, hg⟩ := hm
        have hs := partsF_on (acc := acc) hp' hg
        rw [hs] at h
        walk_at "wp"
        refine ⟨rd, dx, l, as, rows, p', rfl, D2, hp', ?_⟩
        cases e3 : partM rows p' with
        | error e =>
          rw [e3] at h
          exact h.keep k2 D2.2.2.1
        | ok z3 =>
        obtain ⟨q, p3⟩ := z3
        have hp3 := part_on e3
        refine fun a H3 P3 D3 k3 => ?_
        have nlr : lp ≠ rd := (ne_of_none erd nlp).symm
        have e4 := k3 _ _ nlr e2
        walk_at "wp"
        refine w_app e4 (by rw [List.length_map, PA.len]; omega) fun H4 e5 k4 => ?_
        have kL := Keep.keepL k4 e4
        have k14 := keep_new (k2.trans k3) k4 nlp
        walk_at "wp"
        refine ⟨rows.length - p3, by omega, bs ++ [a], acc ++ [q], p3, rfl, by rw [e5, List.map_append]; rfl, PartsAt.snoc (P3.keep kL) ((PA.keep (D2.kn k3)).keep kL), D.on k14 (k4 _ _ (Ne.symm nlr) D3.2.2.1), k14, ?_, .inr (by simp), ?_, rfl⟩
        · rw [← hE, hs, e3]
        · rw [List.length_append, List.length_singleton]
          have : ¬ acc.length = 6 := fun z => hg (.inr z)
          omega
    · rw [partsF_end (by omega)] at h
      have hacc : acc ≠ [] := by
        rcases ha with z | z
        · omega
        · exact z
      have hbl : 0 < bs.length := by
        rw [PA.len]
        exact List.length_pos_iff.mpr hacc
      obtain ⟨q, hq⟩ : ∃ q, acc.getLast? = some q := by
        cases e : acc.getLast? with
        | none => exact absurd (List.getLast?_eq_none_iff.mp e) hacc
        | some q => exact ⟨q, rfl⟩
      have hq2 : acc[acc.length - 1]? = some q := by
        rw [← List.getLast?_eq_getElem?]
        exact hq
      obtain ⟨a, ea, pa⟩ := PA.get hq2
      dsimp only at h
      rw [hq] at h
      dsimp only at h
      obtain ⟨dp, lt, lb, lg, gs, ep, _, _, _, _⟩ := id pa
      have ei : atI (bs.map V.ref) (((bs.map V.ref).length : Int) - 1) = some (.ref a) := by
        have e0 : (((bs.map V.ref).length : Int) - 1) = ((bs.length - 1 : Nat) : Int) := by
          rw [List.length_map]
          omega
        rw [e0]
        refine atI_nat ?_
        rw [List.getElem?_map, PA.len, ea]
        rfl
      walk_at "wp"
      refine w_ixL (SqL.of e2) ei ?_
      walk_at "wp"
      refine w_decN (fun h2 => ?_) (fun h2 => ?_)
      · rw [if_neg h2] at h
        walk_at "wp"
        refine w_ixL (SqL.of e2) ei ?_
        walk_at "wp"
        exact rzL Z_BadText _ _ rfl fun d H5 nd ed sd => (h.keep k2 D2.2.2.1) d H5 nd ed sd.toKeep
      · rw [if_pos h2] at h
        walk_at "wp"
        refine fun H3 f3 k3 => ?_
        have kL := Keep.keepL k3 e2
        have k13 := keep_new k2 k3 nlp
        walk_at "wp"
        refine ⟨rfl, fun b db H4 nb eb sb => ?_⟩
        exact h b H4 ⟨db, lp, bs, eb, f3.same sb, (PA.keep kL).keep sb.keepN⟩ (k13.same sb)
end
end
section
variable (T : Fre mg) (CF : ClsF K clsL attL)
theorem c_read (F : Def K mg "read" s_read) (k_Reader : Mak P w K mg base 4 "Reader" (spRdrI K)) (m_Reader_read_program : Met P w K mg base 62 "Reader" "read_program" (spProg K)) : Cal P w K mg base 63 "read" ["text"] (spRead K) := by
  refine cal_of F sc_read b_read (fun vs H Q E h => ?_) (fun cdv A outer s H vs Q E hr h => ?_)
  · obtain ⟨_, rfl, _⟩ := h
    rfl
  · obtain ⟨z, rfl, hz, hs, hn, h⟩ := h
    have po := passes_of (X := cxOf (L2N.CX P w) P w K mg base ["text"] "read" (defScope s_read) (He.ga K "read") cdv A outer s H E) rfl
    have tk := L2N.takes_of (X := cxOf (L2N.CX P w) P w K mg base ["text"] "read" (defScope s_read) (He.ga K "read") cdv A outer s H E) (E := E) rfl rfl rfl rfl
    have pc := L2N.passes_call tk (fun _ _ _ _ h => h) (E := E)
    have hu64 : (cxOf (L2N.CX P w) P w K mg base ["text"] "read" (defScope s_read) (He.ga K "read") cdv A outer s H E).A.units + 64 < cLine := by
      have := hr.un
      show (A.deeper _).units + 64 < cLine
      omega
    refine ⟨_, (pss_one (ps_ret (pe_mt0 m_Reader_read_program (pe_mk k_Reader hr (by omega) pc (pa_cons (pv 0) pa_nil)) hr (by omega) pc))), ?_⟩
    refine w_start [some (.str z)] rfl ?_
    try dsimp only [cxOf]
    unfold readM at h
    walk_at "wp"
    refine fun x dx H1 nx ex s1 => ⟨x, dx, z, rfl, hz, hs, ex, ?_⟩
    cases e1 : rowsL 0 (Txt.split z "\n") with
    | inl i =>
      rw [e1] at h
      exact fun d H' nd ed kd => h d H' (none_of_same s1 nd) ed (Keep.toSame s1 kd nx)
    | inr rows =>
      rw [e1] at h
      dsimp only at h ⊢
      refine fun H2 l as D2 k2 => ⟨rfl, ?_⟩
      have erd := D2.2.2.1
      have s2 := Keep.toSame s1 k2 nx
      walk_at "wp"
      refine ⟨x, dx, l, as, rows, rfl, D2, rowsL_ne e1 hn, ?_⟩
      cases e2 : progM rows with
      | error e =>
        rw [e2] at h
        exact fun d H' nd ed kd => h d H' (none_of_same s2 nd) ed (Keep.toSame s2 kd nx)
      | ok ps =>
        rw [e2] at h
        exact fun a H' pa k3 => h a H' pa (Keep.toSame s2 k3 nx)
end
end
end Lw

namespace Lk
open PySem PySem.Spec PyProof.Rows L2 Fw
section
variable {X : Cx} {P : Program} {w : World} {K : PySem.W.Frag} {mg : Str → Option Value} {base : Heap} {k j : Nat} {m : Str} {E : XK} {apos pos : Pos} {o e : Expr} {es : List Expr} {ta : TE} {t : TA}
open Ob
theorem pe_mtVK {pl : Sem Bool} (h1 : X.prog = P) (h2 : X.w = w) (h3 : X.K = K) (h4 : X.mg = mg) (h5 : X.base = base) (he : PE X o ta) (hr : Room k X.A) (hj : j ≤ k) (hx : Passes (L2N.CX X.prog X.w) X E) (ha : PA X (e :: es) t)
    (hst : starEach (e :: es) X.env = (false, eval e X.env) :: starEach es X.env := by rfl) (hpl : (backTo pos (starEach es X.env)).any (·.1) = false := by rfl)
    (ht : eval (.Call (.Attribute o m apos) (e :: es) [] pos) X.env = (do
      let ov ← eval o X.env
      standAt apos.atName
      let (f, first) ← holding [ov] (getMethod ov m pl)
      callWith pos f first (backTo pos (starEach (e :: es) X.env)) (backToKw pos (keywordEach [] X.env))) := by rfl) :
    PE X (.Call (.Attribute o m apos) (e :: es) [] pos) (tMtV P w K mg base j m E ta t) := by
  subst h1 h2 h3 h4 h5
  exact pe_mtV he hr hj hx ha hst hpl ht
theorem pe_mtVK0 {pl : Sem Bool} (h1 : X.prog = P) (h2 : X.w = w) (h3 : X.K = K) (h4 : X.mg = mg) (h5 : X.base = base) (he : PE X o ta) (hr : Room k X.A) (hj : j ≤ k) (hx : Passes (L2N.CX X.prog X.w) X E)
    (ht : eval (.Call (.Attribute o m apos) [] [] pos) X.env = (do
      let ov ← eval o X.env
      standAt apos.atName
      let (f, first) ← holding [ov] (getMethod ov m pl)
      callWith pos f first (backTo pos (starEach [] X.env)) (backToKw pos (keywordEach [] X.env))) := by rfl) :
    PE X (.Call (.Attribute o m apos) [] [] pos) (tMtV P w K mg base j m E ta tNil) := by
  subst h1 h2 h3 h4 h5
  exact pe_mtV0 he hr hj hx ht
end
end Lk

namespace Lw
open PySem PySem.Spec PyProof.Rows L2 Fw Htx Ob Tx Rd Lk
local macro_rules | `(tactic| walk_at "cond") => `(tactic| first | assumption | (with_reducible exact cdiv_small (by omega) (by omega)) | (with_reducible exact cmul_small (by omega) (by omega)) | (with_reducible exact cpow_mk (by omega) (by omega) (by omega)) | omega)
local macro_rules | `(tactic| walk_at "ne") => `(tactic| first | assumption | exact Ne.symm (by assumption) | exact ne_of_none (by assumption) (by assumption) | exact Ne.symm (ne_of_none (by assumption) (by assumption)))
local macro_rules | `(tactic| walk_at "at") => `(tactic| first
  | assumption
  | (with_reducible exact upd_same)
  | ((with_reducible refine' at_same ?hk ?hh); (case hk => assumption); (case hh => walk_at "at"))
  | ((with_reducible refine' at_keepT ?hk ?hh ?hd); (case hk => assumption); (case hh => walk_at "at"); (case hd => walk_at "at"))
  | ((with_reducible refine' at_keep ?hk ?hh ?hn); (case hk => assumption); (case hh => walk_at "at"); (case hn => walk_at "ne")))
local macro_rules | `(tactic| walk_at "hp") => `(tactic| first
  | assumption
  | (with_reducible exact FrL.sql (by assumption))
  | ((with_reducible refine' SqT.of ?hq); (case hq => walk_at "at")) | ((with_reducible refine' SqL.of ?hq); (case hq => walk_at "at"))
  | ((with_reducible refine' sql_same ?hk ?hh); (case hk => assumption); (case hh => walk_at "hp"))
  | ((with_reducible refine' sql_keep ?hk ?hh ?hn); (case hk => assumption); (case hh => walk_at "hp"); (case hn => walk_at "ne"))
  | ((with_reducible refine' sqt_same ?hk ?hh); (case hk => assumption); (case hh => walk_at "hp")))
local macro_rules | `(tactic| walk_at "wp1") => `(tactic| first
  | with_reducible refine w_mt ?_ | ((with_reducible refine' w_mt1 ?ha ?hl ?_); (case ha => walk_at "at"); (case hl => rfl))
  | with_reducible refine w_fld ?_ | ((with_reducible refine' w_fld1 ?ha (ClsF.cl (cs := clsL) (as := attL) (by assumption) _ ?hc) (ClsF.no (cs := clsL) (as := attL) (by assumption) _ _ ?hn) ?hl ?_); (case ha => walk_at "at"); (case hc => decide +kernel); (case hn => decide +kernel); (case hl => rfl))
  | with_reducible refine w_sfld ?_ | ((with_reducible refine' w_sfld1 ?ha (ClsF.cl (cs := clsL) (as := attL) (by assumption) _ ?hc) (ClsF.no (cs := clsL) (as := attL) (by assumption) _ _ ?hn) ?he ?hl ?_); (case ha => walk_at "at"); (case hc => decide +kernel); (case hn => decide +kernel); (case he => rfl); (case hl => rfl))
  | with_reducible refine w_lk ?_ | ((with_reducible refine' lkL ?ha ?_); (case ha => walk_at "at")) | with_reducible refine w_mkS ?_ | with_reducible refine w_mk ?_ | with_reducible refine w_bas ?_ | with_reducible refine w_m1 ?_ | with_reducible refine w_isS ?_ | with_reducible refine w_bm0 ?_ | with_reducible refine w_iS ?_ | with_reducible refine w_chain ?_
  | with_reducible refine w_inSg ?_ | with_reducible refine w_ninSg ?_
  | with_reducible refine w_rz ?_ | with_reducible refine w_calX ?_ | with_reducible refine w_calS ?_ | with_reducible refine w_row ?_
  | with_reducible refine w_seq ?_ | with_reducible refine w_set ?_ | with_reducible refine w_drop ?_ | with_reducible refine w_ret ?_ | with_reducible refine w_ifS ?_ | with_reducible refine w_next ?_
  | ((with_reducible refine' w_var ?hv ?_); (case hv => rfl)) | with_reducible refine w_c ?_
  | with_reducible refine w_op ?_ | with_reducible refine w_un ?_ | with_reducible refine w_cb ?_ | with_reducible refine w_cal ?_ | with_reducible refine w_cons ?_ | with_reducible refine w_nil ?_
  | with_reducible refine w_plus ?_ | with_reducible refine w_minus ?_ | with_reducible refine w_lt ?_ | with_reducible refine w_le ?_ | with_reducible refine w_gt ?_ | with_reducible refine w_ge ?_
  | with_reducible refine w_eqI ?_ | with_reducible refine w_neI ?_ | with_reducible refine w_eqB ?_ | with_reducible refine w_neB ?_ | with_reducible refine w_eqS ?_ | with_reducible refine w_neS ?_
  | with_reducible refine w_neg ?_ | with_reducible refine w_abs ?_ | with_reducible refine w_intB ?_ | with_reducible refine w_test ?_ | with_reducible refine w_tB ?_ | with_reducible refine w_bl ?_
  | with_reducible refine w_and ?_ | with_reducible refine w_or ?_ | with_reducible refine w_not ?_ | with_reducible refine w_andV ?_ | with_reducible refine w_orV ?_ | with_reducible refine w_notV ?_ | with_reducible refine w_ifE ?_
  | with_reducible refine w_nyes ?_ | with_reducible refine w_nno ?_ | with_reducible refine w_yes ?_ | with_reducible refine w_no ?_
  | ((with_reducible refine' w_ixL ?ha ?hb ?_); (case ha => walk_at "hp"); (case hb => rfl)) | ((with_reducible refine' w_ixT ?ha ?hb ?_); (case ha => walk_at "hp"); (case hb => rfl))
  | ((with_reducible refine' w_lenL ?ha ?_); (case ha => walk_at "hp")) | ((with_reducible refine' w_lenT ?ha ?_); (case ha => walk_at "hp"))
  | with_reducible refine w_min2 ?_ | with_reducible refine w_max2 ?_ | with_reducible refine w_bm ?_ | with_reducible refine w_lc ?_ | ((with_reducible refine' w_tyL ?ha ?_); (case ha => walk_at "at"))
  | with_reducible refine isi_ii ?_ | with_reducible refine isi_ib ?_ | with_reducible refine isi_bb ?_ | with_reducible refine isi_ss ?_
  | ((with_reducible refine' isi_tt ?ha ?_); (case ha => walk_at "at")) | ((with_reducible refine' isi_ll ?ha ?_); (case ha => walk_at "at"))
  | with_reducible refine w_par ?_ | with_reducible refine w_par2 ?_ | with_reducible refine w_for ?_ | with_reducible refine w_iL ?_ | with_reducible refine w_iT ?_ | with_reducible refine w_iR1 ?_ | with_reducible refine w_iR2 ?_
  | with_reducible refine w_tup ?_ | with_reducible refine w_lst ?_
  | with_reducible refine w_asg ?_ | with_reducible refine w_gname ?_ | with_reducible refine w_gcons ?_ | with_reducible refine w_gnil ?_ | with_reducible refine w_gsub ?_
  | ((with_reducible refine' w_gtup ?ha ?hb ?_); (case ha => walk_at "hp"); (case hb => rfl))
  | ((with_reducible refine' w_fdiv ?hc ?_); (case hc => walk_at "cond")) | ((with_reducible refine' w_mul ?hc ?_); (case hc => walk_at "cond"))
  | ((with_reducible refine' w_mod ?hc ?_); (case hc => walk_at "cond")) | ((with_reducible refine' w_pow ?hc ?_); (case hc => walk_at "cond")))
local macro_rules | `(tactic| walk_at "wp") => `(tactic| repeat walk_at "wp1")
section
variable {P : Program} {w : World} {K : PySem.W.Frag} {mg : Str → Option Value} {base : Heap}
/-! ### what steps tell -/
theorem depth_leaves : ∀ t : Rd.T, t.depth ≤ t.leaves ∧ 1 ≤ t.leaves
  | .num _ => ⟨Nat.le_refl _, Nat.le_refl _⟩
  | .kn _ _ => ⟨Nat.le_refl _, Nat.le_refl _⟩
  | .bin _ a b => by
    have h1 := depth_leaves a
    have h2 := depth_leaves b
    refine ⟨?_, ?_⟩
    · show max a.depth b.depth + 1 ≤ a.leaves + b.leaves
      omega
    · show 1 ≤ a.leaves + b.leaves
      omega
def TmOk (t : Rd.T) : Prop := TOk t ∧ t.leaves ≤ 60
theorem TmOk.d {H : Hp} {a : Addr} {t : Rd.T} (h : TmOk t) (ta : TermAt K H a t) : TmD K H a t 60 := ⟨ta, h.1, by have := h.2; omega, Nat.le_trans (depth_leaves t).1 h.2⟩
theorem TmOk.len {t : Rd.T} (h : TmOk t) : t.told.length ≤ 150000 := by
  have h1 := told_len h.1
  have h2 := h.2
  omega
mutual
def SOk : S → Prop
  | .fill _ x pl t => TOk (.kn x pl) ∧ TmOk t
  | .call _ x pl h ps => TOk (.kn x pl) ∧ h.length ≤ 100 ∧ (∀ t ∈ ps, TOk t) ∧ (ps.map Rd.T.leaves).sum ≤ 60
  | .rowed _ x n => x.length ≤ 100 ∧ n < 1000
  | .choice _ a b yes no => (TOk a ∧ TOk b) ∧ a.leaves + b.leaves ≤ 60 ∧ SsOk yes ∧ SsOk no
  | .turns _ c n body => c.length ≤ 100 ∧ n < 1000 ∧ SsOk body
def SsOk : List S → Prop
  | [] => True
  | s :: r => SOk s ∧ SsOk r
end
theorem SsOk.get : ∀ {ss : List S} {i : Nat} {s : S}, SsOk ss → ss[i]? = some s → SOk s
  | t :: r, 0, s, h, e => by
    cases e
    unfold SsOk at h
    exact h.1
  | t :: r, i + 1, s, h, e => by
    unfold SsOk at h
    exact SsOk.get (ss := r) (i := i) h.2 e
  | [], _, _, _, e => by cases e
theorem StepsAt.get {H : Hp} : ∀ {as : List Addr} {ss : List S} {i : Nat} {s : S}, StepsAt K H as ss → ss[i]? = some s → ∃ a, as[i]? = some a ∧ StepAt K H a s
  | a :: as, q' :: qs, 0, q, h, e => by
    cases e
    unfold StepsAt at h
    exact ⟨a, rfl, h.1⟩
  | _ :: as, _ :: qs, i + 1, q, h, e => by
    unfold StepsAt at h
    exact StepsAt.get (as := as) (ss := qs) (i := i) h.2 e
  | [], [], _, _, _, e => by cases e
  | [], _ :: _, _, _, h, _ => by
    unfold StepsAt at h
    exact h.elim
  | _ :: _, [], _, _, h, _ => by
    unfold StepsAt at h
    exact h.elim
theorem TermsAt.get {H : Hp} : ∀ {as : List Addr} {ss : List Rd.T} {i : Nat} {s : Rd.T}, TermsAt K H as ss → ss[i]? = some s → ∃ a, as[i]? = some a ∧ TermAt K H a s
  | a :: as, q' :: qs, 0, q, h, e => by
    cases e
    exact ⟨a, rfl, h.1⟩
  | _ :: as, _ :: qs, i + 1, q, h, e => TermsAt.get (as := as) (ss := qs) (i := i) h.2 e
  | [], [], _, _, _, e => by cases e
  | [], _ :: _, _, _, h, _ => h.elim
  | _ :: _, [], _, _, h, _ => h.elim
theorem TermsAt.len {H : Hp} : ∀ {as : List Addr} {ss : List Rd.T}, TermsAt K H as ss → as.length = ss.length
  | [], [], _ => rfl
  | _ :: _, _ :: _, h => congrArg Nat.succ (TermsAt.len h.2)
  | [], _ :: _, h => h.elim
  | _ :: _, [], h => h.elim
def cls5 : S → Str
  | .fill .. => "Fill"
  | .call .. => "Called"
  | .rowed .. => "Rowed"
  | .choice .. => "Choice"
  | .turns .. => "Turns"
theorem StepAt.obj {H : Hp} {a : Addr} : ∀ {s : S}, StepAt K H a s → ∃ dx fs, H a = some (.ins (He.ga K (cls5 s)) dx fs) ∧ fs.lookup ("told" : Str) = none ∧ fs.lookup ("done" : Str) = none ∧ fs.lookup ("looked" : Str) = none
  | .fill .., h => by
    unfold StepAt at h
    obtain ⟨dx, b, c, h1, _⟩ := h
    exact ⟨dx, _, h1, rfl, rfl, rfl⟩
  | .call .., h => by
    unfold StepAt at h
    obtain ⟨dx, b, l, as, h1, _⟩ := h
    exact ⟨dx, _, h1, rfl, rfl, rfl⟩
  | .rowed .., h => by
    unfold StepAt at h
    obtain ⟨dx, h1⟩ := h
    exact ⟨dx, _, h1, rfl, rfl, rfl⟩
  | .choice .., h => by
    unfold StepAt at h
    obtain ⟨dx, b, c, ly, as, ln, bs, h1, _⟩ := h
    exact ⟨dx, _, h1, rfl, rfl, rfl⟩
  | .turns .., h => by
    unfold StepAt at h
    obtain ⟨dx, l, as, h1, _⟩ := h
    exact ⟨dx, _, h1, rfl, rfl, rfl⟩
/-- a step of class c, that nests at most d deep, tells its rows -/
def spToldS (K : PySem.W.Frag) (c : Str) (d : Nat) : Sp := fun vs H Q _ => ∃ a s ah, vs = [.ref a, .str ah] ∧ cls5 s = c ∧ StepAt K H a s ∧ SOk s ∧ s.depth ≤ d ∧ ah.length + 2 * s.depth ≤ 1000 ∧ (s.told ah).length ≤ 1000 ∧
  ∀ l H', H l = none → H' l = some (.lst ((s.told ah).map V.str)) → Same H H' → Q (.ref l) H'
def TdsF (P : Program) (w : World) (K : PySem.W.Frag) (mg : Str → Option Value) (base : Heap) : Prop := ∀ t, TOk t → Met P w K mg base 122 (cls6 t) "told" (spTold K (cls6 t) 60)
theorem told_leafsum {ts : List Rd.T} (h : ∀ t ∈ ts, TOk t) : ((ts.map Rd.T.told).map (·.length)).sum ≤ 2500 * (ts.map Rd.T.leaves).sum := by
  induction ts with
  | nil => exact Nat.le_refl _
  | cons t ts ih =>
    have h1 := told_len (h t List.mem_cons_self)
    have h2 := ih fun u hu => h u (List.mem_cons_of_mem _ hu)
    simp only [List.map_cons, List.sum_cons]
    omega
theorem leaf_mem {ts : List Rd.T} {t : Rd.T} (h : t ∈ ts) : t.leaves ≤ (ts.map Rd.T.leaves).sum := by
  induction ts with
  | nil => cases h
  | cons u ts ih =>
    simp only [List.map_cons, List.sum_cons]
    rcases List.mem_cons.mp h with rfl | h
    · omega
    · have := ih h
      omega
theorem leaf_count : ∀ (ts : List Rd.T), ts.length ≤ (ts.map Rd.T.leaves).sum
  | [] => Nat.le_refl _
  | t :: ts => by
    have h1 := (depth_leaves t).2
    have h2 := leaf_count ts
    simp only [List.map_cons, List.sum_cons, List.length_cons]
    omega
theorem map_range_get {α β : Type} (xs : List α) (d : α) (f : α → β) : (List.range xs.length).map (fun i => f (xs.getD i d)) = xs.map f := by
  apply List.ext_getElem
  · simp
  · intro i h1 h2
    simp only [List.length_map, List.length_range] at h1
    simp [List.getD_eq_getElem?_getD, List.getElem?_eq_getElem h1]
theorem join_len (sep : Str) (ys : List Str) : (Txt.join sep ys).length ≤ (ys.map (·.length)).sum + ys.length * sep.length := by
  rw [TL.join_eq]
  exact StrLaws.join_length_le sep ys
-- CHAIN have rks := ranks_at (P := P) (w := w) (base := base) (CF := CF) (IF := IF) m_Term_rank m_Sum_rank m_Less_rank m_Times_rank m_Over_rank
-- CHAIN have tds : TdsF P w K mg base := (told_at (T_ := T) (CF := CF) (MF := MF) (IF := IF) F_Term_bound F_Pairwise_told rks m_Number_told m_Known_told 60).1
section
variable (T : Fre mg) (CS : Cst K mg) (CF : ClsF K clsL attL) (MF : MthF K) (tds : TdsF P w K mg base)
include CF MF tds T
theorem m_Fill_told (F : MDef K "Fill" "told" "Fill.told" s_Fill_told)  : Met P w K mg base 123 "Fill" "told" (spToldS K "Fill" 1) := by
  refine met_of F (CF.cl _ (by decide +kernel)) (MF.m _ _ (by decide +kernel)) sc_Fill_told b_Fill_told (fun vs H Q E h => ?_) (fun cdv A outer s H vs Q E hr h => ?_)
  · obtain ⟨_, _, _, rfl, _⟩ := h
    rfl
  · obtain ⟨a, s', ah, rfl, hc, SA, ok, hd, hah, hrl, q⟩ := h
    cases s' with
    | fill r x pl t =>
      unfold StepAt at SA
      unfold SOk at ok
      obtain ⟨dx, b, c, ea, tb, tc⟩ := SA
      obtain ⟨db, fb, eb, _, nb, _⟩ := tb.obj
      obtain ⟨dc, fc, ec, _, nc, _⟩ := tc.obj
      have kb : TmOk (.kn x pl) := ⟨ok.1, by show 1 ≤ 60; omega⟩
      have l1 := kb.len
      have l2 := ok.2.len
      have sl : sizeLine = 16777216 := sizeLine_eq
      have e1 : (Str.ofString " = ").length = 3 := by decide +kernel
      rw [S.told] at q
      have po := passes_of (X := cxOf (L2N.CX P w) P w K mg base ["self", "ahead"] "Fill.told" (defScope s_Fill_told) (He.ma K (He.ga K "Fill") "told") cdv A outer s H E) rfl
      have tk := L2N.takes_of (X := cxOf (L2N.CX P w) P w K mg base ["self", "ahead"] "Fill.told" (defScope s_Fill_told) (He.ma K (He.ga K "Fill") "told") cdv A outer s H E) (E := E) rfl rfl rfl rfl
      have pc := L2N.passes_call tk (fun _ _ _ _ h => h) (E := E)
      have hu64 : (cxOf (L2N.CX P w) P w K mg base ["self", "ahead"] "Fill.told" (defScope s_Fill_told) (He.ma K (He.ga K "Fill") "told") cdv A outer s H E).A.units + 64 < cLine := by
        have := hr.un
        show (A.deeper _).units + 64 < cLine
        omega
      refine ⟨_, (pss_one (ps_ret (pe_lst (pa_cons (pe_op o_catS (pe_op o_catS (pe_op o_catS (pv 1) (pe_mtV0 (j := 122) (pe_fld (pv 0) rfl) hr (by omega) pc)) pe_str) (pe_mtV0 (j := 122) (pe_fld (pv 0) rfl) hr (by omega) pc)) pa_nil)))), ?_⟩
      refine w_start [some (.ref a), some (.str ah)] rfl ?_
      try dsimp only [cxOf]
      walk_at "wp"
      refine w_mtV ?_
      walk_at "wp"
      refine ⟨b, _, db, fb, _, rfl, eb, nb, tds _ kb.1, ?_⟩
      walk_at "wp"
      refine ⟨b, _, rfl, rfl, kb.d tb, ?_⟩
      refine w_catS (by omega) ?_
      walk_at "wp"
      refine w_catS (by rw [Str.length_append]; omega) ?_
      walk_at "wp"
      refine w_mtV ?_
      walk_at "wp"
      refine ⟨c, _, dc, fc, _, rfl, ec, nc, tds _ ok.2.1, ?_⟩
      walk_at "wp"
      refine ⟨c, _, rfl, rfl, ok.2.d tc, ?_⟩
      refine w_catS (by rw [Str.length_append, Str.length_append]; omega) ?_
      walk_at "wp"
      exact newL fun l H1 nl e1 s1 => q l H1 nl e1 s1
    | _ => cases hc
theorem m_Rowed_told (F : MDef K "Rowed" "told" "Rowed.told" s_Rowed_told)  : Met P w K mg base 123 "Rowed" "told" (spToldS K "Rowed" 1) := by
  refine met_of F (CF.cl _ (by decide +kernel)) (MF.m _ _ (by decide +kernel)) sc_Rowed_told b_Rowed_told (fun vs H Q E h => ?_) (fun cdv A outer s H vs Q E hr h => ?_)
  · obtain ⟨_, _, _, rfl, _⟩ := h
    rfl
  · obtain ⟨a, s', ah, rfl, hc, SA, ok, hd, hah, hrl, q⟩ := h
    cases s' with
    | rowed r x n =>
      unfold StepAt at SA
      unfold SOk at ok
      obtain ⟨dx, ea⟩ := SA
      obtain ⟨ok1, ok2⟩ := ok
      have l2 := small_len (i := (n : Int)) (by omega)
      have sl : sizeLine = 16777216 := sizeLine_eq
      have e1 : (Str.ofString "row ").length = 4 := by decide +kernel
      have e2 : (Str.ofString " ").length = 1 := by decide +kernel
      rw [S.told] at q
      have po := passes_of (X := cxOf (L2N.CX P w) P w K mg base ["self", "ahead"] "Rowed.told" (defScope s_Rowed_told) (He.ma K (He.ga K "Rowed") "told") cdv A outer s H E) rfl
      have tk := L2N.takes_of (X := cxOf (L2N.CX P w) P w K mg base ["self", "ahead"] "Rowed.told" (defScope s_Rowed_told) (He.ma K (He.ga K "Rowed") "told") cdv A outer s H E) (E := E) rfl rfl rfl rfl
      have pc := L2N.passes_call tk (fun _ _ _ _ h => h) (E := E)
      have hu64 : (cxOf (L2N.CX P w) P w K mg base ["self", "ahead"] "Rowed.told" (defScope s_Rowed_told) (He.ma K (He.ga K "Rowed") "told") cdv A outer s H E).A.units + 64 < cLine := by
        have := hr.un
        show (A.deeper _).units + 64 < cLine
        omega
      refine ⟨_, (pss_one (ps_ret (pe_lst (pa_cons (pe_op o_catS (pe_op o_catS (pe_op o_catS (pe_op o_catS (pv 1) pe_str) (pe_fld (pv 0) rfl)) pe_str) (pe_callTy c_strI (by rfl) T.f_str (by decide +kernel) (pa_cons (pe_fld (pv 0) rfl) pa_nil))) pa_nil)))), ?_⟩
      refine w_start [some (.ref a), some (.str ah)] rfl ?_
      try dsimp only [cxOf]
      walk_at "wp"
      refine w_catS (by omega) ?_
      walk_at "wp"
      refine w_catS (by rw [Str.length_append]; omega) ?_
      walk_at "wp"
      refine w_catS (by rw [Str.length_append, Str.length_append]; omega) ?_
      walk_at "wp"
      refine w_strI (lg (n := 10) (by omega) (by decide) (by decide)) ?_
      refine w_catS (by rw [Str.length_append, Str.length_append, Str.length_append]; omega) ?_
      walk_at "wp"
      exact newL fun l H1 nl e1 s1 => q l H1 nl e1 s1
    | _ => cases hc
theorem m_Called_told (F : MDef K "Called" "told" "Called.told" s_Called_told)  : Met P w K mg base 123 "Called" "told" (spToldS K "Called" 1) := by
  refine met_of F (CF.cl _ (by decide +kernel)) (MF.m _ _ (by decide +kernel)) sc_Called_told b_Called_told (fun vs H Q E h => ?_) (fun cdv A outer s H vs Q E hr h => ?_)
  · obtain ⟨_, _, _, rfl, _⟩ := h
    rfl
  · obtain ⟨a, s', ah, rfl, hc, SA, ok, hd, hah, hrl, q⟩ := h
    cases s' with
    | call r x pl y ps =>
      unfold StepAt at SA
      unfold SOk at ok
      obtain ⟨dx, b, lp, as, ea, tb, fp, TA⟩ := SA
      obtain ⟨ok1, ok2, ok3, ok4⟩ := ok
      obtain ⟨db, fb, eb, _, nb, _⟩ := tb.obj
      have kb : TmOk (.kn x pl) := ⟨ok1, by show 1 ≤ 60; omega⟩
      have l1 := kb.len
      have sl : sizeLine = 16777216 := sizeLine_eq
      have e1 : (Str.ofString " = ").length = 3 := by decide +kernel
      have e2 : (Str.ofString "(").length = 1 := by decide +kernel
      have e3 : (Str.ofString ")").length = 1 := by decide +kernel
      have e4 : (Str.ofString ", ").length = 2 := by decide +kernel
      have hsum := told_leafsum ok3
      have hcnt := leaf_count ps
      have hjl := join_len ", " (ps.map Rd.T.told)
      rw [List.length_map, e4] at hjl
      rw [S.told] at q
      have po := passes_of (X := cxOf (L2N.CX P w) P w K mg base ["self", "ahead", "parts", "part"] "Called.told" (defScope s_Called_told) (He.ma K (He.ga K "Called") "told") cdv A outer s H E) rfl
      have tk := L2N.takes_of (X := cxOf (L2N.CX P w) P w K mg base ["self", "ahead", "parts", "part"] "Called.told" (defScope s_Called_told) (He.ma K (He.ga K "Called") "told") cdv A outer s H E) (E := E) rfl rfl rfl rfl
      have pc := L2N.passes_call tk (fun _ _ _ _ h => h) (E := E)
      have hu64 : (cxOf (L2N.CX P w) P w K mg base ["self", "ahead", "parts", "part"] "Called.told" (defScope s_Called_told) (He.ma K (He.ga K "Called") "told") cdv A outer s H E).A.units + 64 < cLine := by
        have := hr.un
        show (A.deeper _).units + 64 < cLine
        omega
      refine ⟨_, (pss_cons (ps_set (i := 2) sc_Called_told.nd rfl (loc_of rfl) (pe_m1 PySem.F.slot_str_join PySem.F.type_str_join (m_join (K := K) rfl) pe_str (pe_lc (own := [("part", 3)]) (g := gName 3) (by rfl) sc_Called_told.nd (pi_list (pe_fld (pv 0) rfl)) (blkOk_by (own := [("part", 3)]) (N := ["self", "ahead", "parts", "part"]) (sc := defScope s_Called_told) (by decide +kernel)) (fun _ _ _ _ _ => pg_name (i := 3) sc_Called_told.nd rfl (Or.inl rfl)) (fun _ _ _ _ _ => pts_nil) (fun _ _ _ _ _ => (pe_mtVK0 (P := P) (w := w) (K := K) (mg := mg) (base := base) (j := 122) rfl rfl rfl rfl rfl (pv 3) hr (by omega) passF)))))
      (pss_one (ps_ret (pe_lst (pa_cons (pe_op o_catS (pe_op o_catS (pe_op o_catS (pe_op o_catS (pe_op o_catS (pe_op o_catS (pv 1) (pe_mtV0 (j := 122) (pe_fld (pv 0) rfl) hr (by omega) pc)) pe_str) (pe_fld (pv 0) rfl)) pe_str) (pv 2)) pe_str) pa_nil))))), ?_⟩
      refine w_start [some (.ref a), some (.str ah), none, none] rfl ?_
      try dsimp only [cxOf]
      walk_at "wp"
      refine lcLi (fun i => .str ((ps.getD i (.num 0)).told)) fp.sql (by rw [List.length_map, TA.len]; omega) (fun i v H2 Q' hi s2 q' => ?_) (fun _ => rfl) (fun D H2 nD eD s2 => ?_)
      · rw [List.getElem?_map] at hi
        obtain ⟨c, hc1, rfl⟩ := Option.map_eq_some_iff.mp hi
        have hlt := (List.getElem?_eq_some_iff.mp hc1).1
        rw [TA.len] at hlt
        obtain ⟨c', hc2, tc⟩ := TA.get (List.getElem?_eq_getElem hlt)
        rw [hc1] at hc2
        cases hc2
        have et : ps.getD i (.num 0) = ps[i] := by rw [List.getD_eq_getElem?_getD, List.getElem?_eq_getElem hlt]; rfl
        rw [et] at q'
        have kt : TmOk ps[i] := ⟨ok3 _ (List.getElem_mem hlt), Nat.le_trans (leaf_mem (List.getElem_mem hlt)) ok4⟩
        have tc2 := tc.keep s2.keepN
        obtain ⟨dc, fc, ec, _, nc, _⟩ := tc2.obj
        refine w_mtV ?_
        walk_at "wp"
        refine ⟨c, _, dc, fc, _, rfl, ec, nc, tds _ kt.1, ?_⟩
        walk_at "wp"
        exact ⟨c, _, rfl, rfl, kt.d tc2, q'⟩
      · have em : (List.range (as.map V.ref).length).map (fun i => V.str ((ps.getD i (.num 0)).told)) = (ps.map Rd.T.told).map V.str := by
          rw [List.length_map, TA.len, map_range_get ps (.num 0) (fun t => V.str t.told), List.map_map]
          rfl
        rw [em] at eD
        refine w_join (SqL.of eD) (by rw [List.length_map, e4]; omega) ?_
        have ea2 := s2 _ _ ea
        have eb2 := s2 _ _ eb
        walk_at "wp"
        refine w_mtV ?_
        walk_at "wp"
        refine ⟨b, _, db, fb, _, rfl, eb2, nb, tds _ kb.1, ?_⟩
        walk_at "wp"
        refine ⟨b, _, rfl, rfl, kb.d (tb.keep s2.keepN), ?_⟩
        refine w_catS (by omega) ?_
        walk_at "wp"
        refine w_catS (by rw [Str.length_append]; omega) ?_
        walk_at "wp"
        refine w_catS (by rw [Str.length_append, Str.length_append]; omega) ?_
        walk_at "wp"
        refine w_catS (by rw [Str.length_append, Str.length_append, Str.length_append]; omega) ?_
        walk_at "wp"
        refine w_catS (by rw [Str.length_append, Str.length_append, Str.length_append, Str.length_append]; omega) ?_
        walk_at "wp"
        refine w_catS (by rw [Str.length_append, Str.length_append, Str.length_append, Str.length_append, Str.length_append]; omega) ?_
        walk_at "wp"
        refine newL fun l H3 nl e1 s3 => ?_
        exact q l H3 (none_of_same s2 nl) e1 (s2.trans s3)
    | _ => cases hc
end
end
end Lw

namespace Lw
open PySem PySem.Spec PyProof.Rows L2 Fw Htx Ob Tx Rd Lk
local macro_rules | `(tactic| walk_at "cond") => `(tactic| first | assumption | (with_reducible exact cdiv_small (by omega) (by omega)) | (with_reducible exact cmul_small (by omega) (by omega)) | (with_reducible exact cpow_mk (by omega) (by omega) (by omega)) | omega)
local macro_rules | `(tactic| walk_at "ne") => `(tactic| first | assumption | exact Ne.symm (by assumption) | exact ne_of_none (by assumption) (by assumption) | exact Ne.symm (ne_of_none (by assumption) (by assumption)))
local macro_rules | `(tactic| walk_at "at") => `(tactic| first
  | assumption
  | (with_reducible exact upd_same)
  | ((with_reducible refine' at_same ?hk ?hh); (case hk => assumption); (case hh => walk_at "at"))
  | ((with_reducible refine' at_keepT ?hk ?hh ?hd); (case hk => assumption); (case hh => walk_at "at"); (case hd => walk_at "at"))
  | ((with_reducible refine' at_keep ?hk ?hh ?hn); (case hk => assumption); (case hh => walk_at "at"); (case hn => walk_at "ne")))
local macro_rules | `(tactic| walk_at "hp") => `(tactic| first
  | assumption
  | (with_reducible exact FrL.sql (by assumption))
  | ((with_reducible refine' SqT.of ?hq); (case hq => walk_at "at")) | ((with_reducible refine' SqL.of ?hq); (case hq => walk_at "at"))
  | ((with_reducible refine' sql_same ?hk ?hh); (case hk => assumption); (case hh => walk_at "hp"))
  | ((with_reducible refine' sql_keep ?hk ?hh ?hn); (case hk => assumption); (case hh => walk_at "hp"); (case hn => walk_at "ne"))
  | ((with_reducible refine' sqt_same ?hk ?hh); (case hk => assumption); (case hh => walk_at "hp")))
local macro_rules | `(tactic| walk_at "wp1") => `(tactic| first
  | with_reducible refine w_mt ?_ | ((with_reducible refine' w_mt1 ?ha ?hl ?_); (case ha => walk_at "at"); (case hl => rfl))
  | with_reducible refine w_fld ?_ | ((with_reducible refine' w_fld1 ?ha (ClsF.cl (cs := clsL) (as := attL) (by assumption) _ ?hc) (ClsF.no (cs := clsL) (as := attL) (by assumption) _ _ ?hn) ?hl ?_); (case ha => walk_at "at"); (case hc => decide +kernel); (case hn => decide +kernel); (case hl => rfl))
  | with_reducible refine w_sfld ?_ | ((with_reducible refine' w_sfld1 ?ha (ClsF.cl (cs := clsL) (as := attL) (by assumption) _ ?hc) (ClsF.no (cs := clsL) (as := attL) (by assumption) _ _ ?hn) ?he ?hl ?_); (case ha => walk_at "at"); (case hc => decide +kernel); (case hn => decide +kernel); (case he => rfl); (case hl => rfl))
  | with_reducible refine w_lk ?_ | ((with_reducible refine' lkL ?ha ?_); (case ha => walk_at "at")) | with_reducible refine w_mkS ?_ | with_reducible refine w_mk ?_ | with_reducible refine w_bas ?_ | with_reducible refine w_m1 ?_ | with_reducible refine w_isS ?_ | with_reducible refine w_bm0 ?_ | with_reducible refine w_iS ?_ | with_reducible refine w_chain ?_
  | with_reducible refine w_inSg ?_ | with_reducible refine w_ninSg ?_
  | with_reducible refine w_rz ?_ | with_reducible refine w_calX ?_ | with_reducible refine w_calS ?_ | with_reducible refine w_row ?_
  | with_reducible refine w_seq ?_ | with_reducible refine w_set ?_ | with_reducible refine w_drop ?_ | with_reducible refine w_ret ?_ | with_reducible refine w_ifS ?_ | with_reducible refine w_next ?_
  | ((with_reducible refine' w_var ?hv ?_); (case hv => rfl)) | with_reducible refine w_c ?_
  | with_reducible refine w_op ?_ | with_reducible refine w_un ?_ | with_reducible refine w_cb ?_ | with_reducible refine w_cal ?_ | with_reducible refine w_cons ?_ | with_reducible refine w_nil ?_
  | with_reducible refine w_plus ?_ | with_reducible refine w_minus ?_ | with_reducible refine w_lt ?_ | with_reducible refine w_le ?_ | with_reducible refine w_gt ?_ | with_reducible refine w_ge ?_
  | with_reducible refine w_eqI ?_ | with_reducible refine w_neI ?_ | with_reducible refine w_eqB ?_ | with_reducible refine w_neB ?_ | with_reducible refine w_eqS ?_ | with_reducible refine w_neS ?_
  | with_reducible refine w_neg ?_ | with_reducible refine w_abs ?_ | with_reducible refine w_intB ?_ | with_reducible refine w_test ?_ | with_reducible refine w_tB ?_ | with_reducible refine w_bl ?_
  | with_reducible refine w_and ?_ | with_reducible refine w_or ?_ | with_reducible refine w_not ?_ | with_reducible refine w_andV ?_ | with_reducible refine w_orV ?_ | with_reducible refine w_notV ?_ | with_reducible refine w_ifE ?_
  | with_reducible refine w_nyes ?_ | with_reducible refine w_nno ?_ | with_reducible refine w_yes ?_ | with_reducible refine w_no ?_
  | ((with_reducible refine' w_ixL ?ha ?hb ?_); (case ha => walk_at "hp"); (case hb => rfl)) | ((with_reducible refine' w_ixT ?ha ?hb ?_); (case ha => walk_at "hp"); (case hb => rfl))
  | ((with_reducible refine' w_lenL ?ha ?_); (case ha => walk_at "hp")) | ((with_reducible refine' w_lenT ?ha ?_); (case ha => walk_at "hp"))
  | with_reducible refine w_min2 ?_ | with_reducible refine w_max2 ?_ | with_reducible refine w_bm ?_ | with_reducible refine w_lc ?_ | ((with_reducible refine' w_tyL ?ha ?_); (case ha => walk_at "at"))
  | with_reducible refine isi_ii ?_ | with_reducible refine isi_ib ?_ | with_reducible refine isi_bb ?_ | with_reducible refine isi_ss ?_
  | ((with_reducible refine' isi_tt ?ha ?_); (case ha => walk_at "at")) | ((with_reducible refine' isi_ll ?ha ?_); (case ha => walk_at "at"))
  | with_reducible refine w_par ?_ | with_reducible refine w_par2 ?_ | with_reducible refine w_for ?_ | with_reducible refine w_iL ?_ | with_reducible refine w_iT ?_ | with_reducible refine w_iR1 ?_ | with_reducible refine w_iR2 ?_
  | with_reducible refine w_tup ?_ | with_reducible refine w_lst ?_
  | with_reducible refine w_asg ?_ | with_reducible refine w_gname ?_ | with_reducible refine w_gcons ?_ | with_reducible refine w_gnil ?_ | with_reducible refine w_gsub ?_
  | ((with_reducible refine' w_gtup ?ha ?hb ?_); (case ha => walk_at "hp"); (case hb => rfl))
  | ((with_reducible refine' w_fdiv ?hc ?_); (case hc => walk_at "cond")) | ((with_reducible refine' w_mul ?hc ?_); (case hc => walk_at "cond"))
  | ((with_reducible refine' w_mod ?hc ?_); (case hc => walk_at "cond")) | ((with_reducible refine' w_pow ?hc ?_); (case hc => walk_at "cond")))
local macro_rules | `(tactic| walk_at "wp") => `(tactic| repeat walk_at "wp1")
section
variable {P : Program} {w : World} {K : PySem.W.Frag} {mg : Str → Option Value} {base : Heap}
/-! ### choices, loops, parts, the program -/
theorem told_len_S : ∀ (s : S) (ah ah' : Str), (s.told ah).length = (s.told ah').length := by
  have key : ∀ n : Nat, (∀ s : S, s.depth ≤ n → ∀ ah ah' : Str, (s.told ah).length = (s.told ah').length) ∧ ∀ ss : List S, depthS ss ≤ n → ∀ ah ah' : Str, (toldS ah ss).length = (toldS ah' ss).length := by
    intro n
    induction n with
    | zero =>
      refine ⟨fun s hs => ?_, fun ss hs ah ah' => ?_⟩
      · exfalso
        cases s <;> (simp only [S.depth] at hs; omega)
      · cases ss with
        | nil => rfl
        | cons s r =>
          exfalso
          rw [depthS] at hs
          have : 1 ≤ s.depth := by cases s <;> (simp only [S.depth]; omega)
          omega
    | succ n ih =>
      have h1 : ∀ s : S, s.depth ≤ n + 1 → ∀ ah ah' : Str, (s.told ah).length = (s.told ah').length := by
        intro s hs ah ah'
        cases s with
        | fill r x pl t => rfl
        | call r x pl y ps => rfl
        | rowed r x n => rfl
        | choice r a b yes no =>
          simp only [S.depth] at hs
          have h1 := ih.2 yes (by omega) (ah ++ "  ") (ah' ++ "  ")
          have h2 := ih.2 no (by omega) (ah ++ "  ") (ah' ++ "  ")
          simp only [S.told, List.length_append, List.length_cons, h1, h2]
          split <;> rfl
        | turns r c m body =>
          simp only [S.depth] at hs
          have h1 := ih.2 body (by omega) (ah ++ "  ") (ah' ++ "  ")
          simp only [S.told, List.length_cons, h1]
      refine ⟨h1, fun ss => ?_⟩
      induction ss with
      | nil => intro _ _ _; rfl
      | cons s r ihr =>
        intro hs ah ah'
        rw [depthS] at hs
        simp only [toldS, List.length_append, h1 s (by omega) ah ah', ihr (by omega) ah ah']
  exact fun s ah ah' => (key s.depth).1 s (Nat.le_refl _) ah ah'
theorem told_take_le {ah : Str} : ∀ (ss : List S) (i : Nat), (toldS ah (ss.take i)).length ≤ (toldS ah ss).length
  | [], i => by
    rw [List.take_nil]
    exact Nat.le_refl _
  | s :: r, 0 => by
    rw [List.take_zero, toldS]
    exact Nat.zero_le _
  | s :: r, i + 1 => by
    have := told_take_le (ah := ah) r i
    rw [List.take_succ_cons, toldS, toldS, List.length_append, List.length_append]
    omega
theorem depth_one {s : S} {c : Str} (h : cls5 s = c) (h1 : ("Choice" : Str) ≠ c) (h2 : ("Turns" : Str) ≠ c) : s.depth = 1 := by
  cases s with
  | choice r a b yes no => exact absurd h h1
  | turns r x n body => exact absurd h h2
  | _ => simp only [S.depth]
/-- a loop over a block that adds the rows of each step -/
theorem told_loop {H : Hp} {l : Addr} {bs : List Addr} {ss : List S} {ah : Str} {L d : Nat} (SA : StepsAt K H bs ss) (ok : SsOk ss) (hd : depthS ss ≤ d) (hah : ah.length + 2 * (depthS ss + 1) ≤ 1000) (hrl : (toldS (ah ++ "  ") ss).length ≤ 1000)
    (mS : ∀ s, SOk s → Met P w K mg base L (cls5 s) "told" (spToldS K (cls5 s) d)) {i : Nat} {v : V} {pre : List Str} {rl : Addr} {H1 : Hp} (hv : (bs.map V.ref)[i]? = some v) (s1 : Same H H1) (er : H1 rl = some (.lst ((pre ++ toldS (ah ++ "  ") (ss.take i)).map V.str))) (hpre : pre.length ≤ 3000) :
    ∃ a c dx fs sp, v = .ref a ∧ H1 a = some (.ins (He.ga K c) dx fs) ∧ fs.lookup ("told" : Str) = none ∧ Met P w K mg base L c "told" sp ∧ ∀ (Q : VK) (E : XK), ((∀ q H2, H1 q = none → H2 q = some (.lst ((pre ++ toldS (ah ++ "  ") (ss.take (i + 1))).map V.str)) → Same H1 H2 → Q (.ref q) H2) → sp (.ref a :: [.str (ah ++ "  ")]) H1 (fun y H2 => rCatL (.ref rl) y H2 Q) E) := by
  rw [List.getElem?_map] at hv
  obtain ⟨a, ha, rfl⟩ := Option.map_eq_some_iff.mp hv
  have hlt := (List.getElem?_eq_some_iff.mp ha).1
  rw [SA.len] at hlt
  obtain ⟨a', ha', sa⟩ := SA.get (List.getElem?_eq_getElem hlt)
  rw [ha] at ha'
  cases ha'
  have sa1 := sa.keep s1.keepN
  obtain ⟨dx, fs, ea, nt, _⟩ := sa1.obj
  have hs := ok.get (List.getElem?_eq_getElem hlt)
  have et := toldS_take (ah := ah ++ "  ") (List.getElem?_eq_getElem hlt)
  have e2 : (Str.ofString "  ").length = 2 := by decide +kernel
  have hle := told_take_le (ah := ah ++ "  ") ss (i + 1)
  rw [et, List.length_append] at hle
  refine ⟨a, _, dx, fs, _, rfl, ea, nt, mS _ hs, fun Q E q => ⟨a, ss[i], ah ++ "  ", rfl, rfl, sa1, hs, Nat.le_trans (depthS_mem (List.getElem?_eq_getElem hlt)) hd, by
    have := depthS_mem (List.getElem?_eq_getElem hlt)
    rw [Str.length_append]
    omega, by omega, fun l2 H2 nl2 el2 s2 => ?_⟩⟩
  refine w_catL (s2 _ _ er) el2 (by rw [List.length_map, List.length_map, List.length_append]; omega) fun q3 H3 nq eq s3 => ?_
  refine q q3 H3 (none_of_same s2 nq) ?_ (s2.trans s3)
  rw [eq, et, ← List.map_append, List.append_assoc]
section
variable (T : Fre mg) (CS : Cst K mg) (CF : ClsF K clsL attL) (MF : MthF K) (tds : TdsF P w K mg base)
include CF MF tds T
theorem choice_told_at (F : MDef K "Choice" "told" "Choice.told" s_Choice_told) {L d : Nat} (hL : 122 ≤ L) (mS : ∀ s, SOk s → Met P w K mg base L (cls5 s) "told" (spToldS K (cls5 s) d)) : Met P w K mg base (L + 1) "Choice" "told" (spToldS K "Choice" (d + 1)) := by
  refine met_of F (CF.cl _ (by decide +kernel)) (MF.m _ _ (by decide +kernel)) sc_Choice_told b_Choice_told (fun vs H Q E h => ?_) (fun cdv A outer s H vs Q E hr h => ?_)
  · obtain ⟨_, _, _, rfl, _⟩ := h
    rfl
  · obtain ⟨a, s', ah, rfl, hc, SA, ok, hd, hah, hrl, q⟩ := h
    cases s' with
    | choice r t1 t2 yes no =>
      unfold StepAt at SA
      unfold SOk at ok
      obtain ⟨dx, b, c, ly, as, ln, bs, ea, tb, tc, ⟨fy, sy⟩, fn', sn⟩ := SA
      obtain ⟨⟨ok1, ok2⟩, ok3, ok4, ok5⟩ := ok
      obtain ⟨db, fb, eb, _, nb, _⟩ := tb.obj
      obtain ⟨dc, fc, ec, _, nc, _⟩ := tc.obj
      have k1 : TmOk t1 := ⟨ok1, by omega⟩
      have k2 : TmOk t2 := ⟨ok2, by omega⟩
      have l1 := k1.len
      have l2 := k2.len
      have sl : sizeLine = 16777216 := sizeLine_eq
      have e1 : (Str.ofString "if ").length = 3 := by decide +kernel
      have e2 : (Str.ofString " < ").length = 3 := by decide +kernel
      have e3 : (Str.ofString "  ").length = 2 := by decide +kernel
      have e4 : (Str.ofString "else").length = 4 := by decide +kernel
      rw [S.told] at q hrl
      simp only [S.depth] at hd hah
      simp only [List.length_append, List.length_cons] at hrl
      have hy1 : (toldS (ah ++ "  ") yes).length ≤ 1000 := by omega
      have hn1 : (toldS (ah ++ "  ") no).length ≤ 1000 := by omega
      have lah : ah.length ≤ 1000 := by omega
      have po := passes_of (X := cxOf (L2N.CX P w) P w K mg base ["self", "ahead", "rows", "step"] "Choice.told" (defScope s_Choice_told) (He.ma K (He.ga K "Choice") "told") cdv A outer s H E) rfl
      have tk := L2N.takes_of (X := cxOf (L2N.CX P w) P w K mg base ["self", "ahead", "rows", "step"] "Choice.told" (defScope s_Choice_told) (He.ma K (He.ga K "Choice") "told") cdv A outer s H E) (E := E) rfl rfl rfl rfl
      have pc := L2N.passes_call tk (fun _ _ _ _ h => h) (E := E)
      have hu64 : (cxOf (L2N.CX P w) P w K mg base ["self", "ahead", "rows", "step"] "Choice.told" (defScope s_Choice_told) (He.ma K (He.ga K "Choice") "told") cdv A outer s H E).A.units + 64 < cLine := by
        have := hr.un
        show (A.deeper _).units + 64 < cLine
        omega
      refine ⟨_, (pss_cons (ps_set (i := 2) sc_Choice_told.nd rfl (loc_of rfl) (pe_lst (pa_cons (pe_op o_catS (pe_op o_catS (pe_op o_catS (pe_op o_catS (pv 1) pe_str) (pe_mtV0 (j := 122) (pe_fld (pv 0) rfl) hr (by omega) pc)) pe_str) (pe_mtV0 (j := 122) (pe_fld (pv 0) rfl) hr (by omega) pc)) pa_nil)))
      (pss_cons (ps_for po rfl (pi_list (pe_fld (pv 0) rfl)) (pg_name (i := 3) sc_Choice_told.nd rfl (loc_of rfl)) (pss_one (ps_set (i := 2) sc_Choice_told.nd rfl (loc_of rfl) (pe_op o_catL (pv 2) (pe_mtV (j := L) (pv 3) hr (by omega) pc (pa_cons (pe_op o_catS (pv 1) pe_str) pa_nil))))))
      (Evl.pss_cut (ps_if (pt_cmpR (op_neN (K := K) rfl hu64) (pe_fld (pv 0) rfl) (pe_lst pa_nil) (nomark _)) (pss_one (ps_expr (pe_bm PySem.F.plainAttrs_list PySem.F.slot_list_append PySem.F.type_list_append mt_append (pv 2) (pa_cons (pe_op o_catS (pv 1) pe_str) pa_nil)))) pss_nil)
      (pss_cons (ps_for po rfl (pi_list (pe_fld (pv 0) rfl)) (pg_name (i := 3) sc_Choice_told.nd rfl (loc_of rfl)) (pss_one (ps_set (i := 2) sc_Choice_told.nd rfl (loc_of rfl) (pe_op o_catL (pv 2) (pe_mtV (j := L) (pv 3) hr (by omega) pc (pa_cons (pe_op o_catS (pv 1) pe_str) pa_nil))))))
      (pss_one (ps_ret (pv 2))))))), ?_⟩
      refine w_start [some (.ref a), some (.str ah), none, none] rfl ?_
      try dsimp only [cxOf]
      walk_at "wp"
      refine w_catS (by omega) ?_
      walk_at "wp"
      refine w_mtV ?_
      walk_at "wp"
      refine ⟨b, _, db, fb, _, rfl, eb, nb, tds _ k1.1, ?_⟩
      walk_at "wp"
      refine ⟨b, _, rfl, rfl, k1.d tb, ?_⟩
      refine w_catS (by rw [Str.length_append]; omega) ?_
      walk_at "wp"
      refine w_catS (by rw [Str.length_append, Str.length_append]; omega) ?_
      walk_at "wp"
      refine w_mtV ?_
      walk_at "wp"
      refine ⟨c, _, dc, fc, _, rfl, ec, nc, tds _ k2.1, ?_⟩
      walk_at "wp"
      refine ⟨c, _, rfl, rfl, k2.d tc, ?_⟩
      refine w_catS (by rw [Str.length_append, Str.length_append, Str.length_append]; omega) ?_
      walk_at "wp"
      refine newL fun rl H1 nrl er s1 => ?_
      generalize hx : ah ++ Str.ofString "if " ++ t1.told ++ Str.ofString " < " ++ t2.told = x at er q
      have ea1 := s1 _ _ ea
      walk_at "wp"
      refine forL (fy.same s1).sql (fun i σ' H' => ∃ w3 rl', σ' = [some (.ref a), some (.str ah), some (.ref rl'), w3] ∧ H' rl' = some (.lst (([x] ++ toldS (ah ++ "  ") (yes.take i)).map V.str)) ∧ Same H H' ∧ H rl' = none)
        ⟨none, rl, rfl, by rw [er, List.take_zero, toldS]; rfl, s1, nrl⟩ (fun i σ' H2 _ hp => ?_) (fun i v σ' H2 hv hp => ?_) (fun σ' H2 hp => ?_)
      · obtain ⟨w3, rl', rfl, er2, s2, nr2⟩ := hp
        exact (fy.same s2).sql
      · obtain ⟨w3, rl', rfl, er2, s2, nr2⟩ := hp
        walk_at "wp"
        refine w_mtV ?_
        walk_at "wp"
        obtain ⟨a', c', dx', fs', sp', rfl, ea', nt', M', go⟩ := told_loop (l := ly) sy ok4 (by omega) (by omega) hy1 mS hv s2 er2 (by simp)
        refine ⟨a', c', dx', fs', sp', rfl, ea', nt', M', ?_⟩
        walk_at "wp"
        refine w_catS (by omega) ?_
        walk_at "wp"
        exact go _ _ fun q3 H3 nq eq s3 => ⟨_, q3, rfl, eq, s2.trans s3, none_of_same s2 nq⟩
      · obtain ⟨w3, rl', rfl, er2, s2, nr2⟩ := hp
        rw [List.length_map, sy.len, List.take_length] at er2
        have ea2 := s2 _ _ ea
        walk_at "wp"
        refine w_cut (fun σ' H' => ∃ w3 rl', σ' = [some (.ref a), some (.str ah), some (.ref rl'), w3] ∧ H' rl' = some (.lst (([x] ++ toldS (ah ++ "  ") yes ++ (if no = [] then [] else [ah ++ "else"])).map V.str)) ∧ Same H H' ∧ H rl' = none) ?_ (fun σ' H3 hm => ?_)
        · walk_at "wp"
          refine newL fun n0 H3 nn0 en0 s3 => ?_
          have s23 := s2.trans s3
          refine w_neN (fn'.same s23).sql (SqL.of en0) ?_
          have er3 := s3 _ _ er2
          walk_at "wp"
          refine w_decN (fun h1 => ?_) (fun h1 => ?_)
          · have hno : no ≠ [] := fun z => h1 (by
              have := sn.len
              rw [z] at this
              rw [List.length_eq_zero_iff.mp this]
              rfl)
            walk_at "wp"
            refine w_catS (by omega) ?_
            walk_at "wp"
            refine w_app er3 (by rw [List.length_map, List.length_append]; simp only [List.length_cons, List.length_nil]; omega) fun H4 e5 k4 => ?_
            walk_at "wp"
            refine ⟨w3, rl', rfl, ?_, Keep.toSame s23 k4 nr2, nr2⟩
            rw [e5, if_neg hno, List.map_append (l₂ := [ah ++ "else"])]
            rfl
          · have hno : no = [] := List.length_eq_zero_iff.mp (by rw [← sn.len, List.map_eq_nil_iff.mp h1]; rfl)
            walk_at "wp"
            refine ⟨w3, rl', rfl, ?_, s23, nr2⟩
            rw [er3, if_pos hno, List.append_nil]
        · obtain ⟨w4, rl3, rfl, er3, s3, nr3⟩ := hm
          have ea3 := s3 _ _ ea
          generalize hpre : [x] ++ toldS (ah ++ "  ") yes ++ (if no = [] then [] else [ah ++ "else"]) = pre at er3
          have lpre : pre.length ≤ 3000 := by
            rw [← hpre, List.length_append, List.length_append]
            split <;> (simp only [List.length_cons, List.length_nil]; omega)
          walk_at "wp"
          refine forL (fn'.same s3).sql (fun i σ' H' => ∃ w3 rl', σ' = [some (.ref a), some (.str ah), some (.ref rl'), w3] ∧ H' rl' = some (.lst ((pre ++ toldS (ah ++ "  ") (no.take i)).map V.str)) ∧ Same H H' ∧ H rl' = none)
            ⟨w4, rl3, rfl, by rw [er3, List.take_zero, toldS, List.append_nil], s3, nr3⟩ (fun i σ' H4 _ hp => ?_) (fun i v σ' H4 hv hp => ?_) (fun σ' H4 hp => ?_)
          · obtain ⟨w3, rl', rfl, er4, s4, nr4⟩ := hp
            exact (fn'.same s4).sql
          · obtain ⟨w3, rl', rfl, er4, s4, nr4⟩ := hp
            walk_at "wp"
            refine w_mtV ?_
            walk_at "wp"
            obtain ⟨a', c', dx', fs', sp', rfl, ea', nt', M', go⟩ := told_loop (l := ln) sn ok5 (by omega) (by omega) hn1 mS hv s4 er4 lpre
            refine ⟨a', c', dx', fs', sp', rfl, ea', nt', M', ?_⟩
            walk_at "wp"
            refine w_catS (by omega) ?_
            walk_at "wp"
            exact go _ _ fun q3 H3 nq eq s3 => ⟨_, q3, rfl, eq, s4.trans s3, none_of_same s4 nq⟩
          · obtain ⟨w3, rl', rfl, er4, s4, nr4⟩ := hp
            rw [List.length_map, sn.len, List.take_length] at er4
            walk_at "wp"
            refine q rl' H4 nr4 ?_ s4
            rw [er4, ← hpre]
            rfl
    | _ => cases hc
theorem turns_told_at (F : MDef K "Turns" "told" "Turns.told" s_Turns_told) {L d : Nat} (hL : 122 ≤ L) (mS : ∀ s, SOk s → Met P w K mg base L (cls5 s) "told" (spToldS K (cls5 s) d)) : Met P w K mg base (L + 1) "Turns" "told" (spToldS K "Turns" (d + 1)) := by
  refine met_of F (CF.cl _ (by decide +kernel)) (MF.m _ _ (by decide +kernel)) sc_Turns_told b_Turns_told (fun vs H Q E h => ?_) (fun cdv A outer s H vs Q E hr h => ?_)
  · obtain ⟨_, _, _, rfl, _⟩ := h
    rfl
  · obtain ⟨a, s', ah, rfl, hc, SA, ok, hd, hah, hrl, q⟩ := h
    cases s' with
    | turns r c n body =>
      unfold StepAt at SA
      unfold SOk at ok
      obtain ⟨dx, ly, as, ea, fy, sy⟩ := SA
      obtain ⟨ok1, ok2, ok3⟩ := ok
      have l2 := small_len (i := (n : Int)) (by omega)
      have sl : sizeLine = 16777216 := sizeLine_eq
      have e1 : (Str.ofString "loop ").length = 5 := by decide +kernel
      have e2 : (Str.ofString " ").length = 1 := by decide +kernel
      have e3 : (Str.ofString "  ").length = 2 := by decide +kernel
      rw [S.told] at q hrl
      simp only [S.depth] at hd hah
      simp only [List.length_cons] at hrl
      have hy1 : (toldS (ah ++ "  ") body).length ≤ 1000 := by omega
      have lah : ah.length ≤ 1000 := by omega
      have po := passes_of (X := cxOf (L2N.CX P w) P w K mg base ["self", "ahead", "rows", "step"] "Turns.told" (defScope s_Turns_told) (He.ma K (He.ga K "Turns") "told") cdv A outer s H E) rfl
      have tk := L2N.takes_of (X := cxOf (L2N.CX P w) P w K mg base ["self", "ahead", "rows", "step"] "Turns.told" (defScope s_Turns_told) (He.ma K (He.ga K "Turns") "told") cdv A outer s H E) (E := E) rfl rfl rfl rfl
      have pc := L2N.passes_call tk (fun _ _ _ _ h => h) (E := E)
      have hu64 : (cxOf (L2N.CX P w) P w K mg base ["self", "ahead", "rows", "step"] "Turns.told" (defScope s_Turns_told) (He.ma K (He.ga K "Turns") "told") cdv A outer s H E).A.units + 64 < cLine := by
        have := hr.un
        show (A.deeper _).units + 64 < cLine
        omega
      refine ⟨_, (pss_cons (ps_set (i := 2) sc_Turns_told.nd rfl (loc_of rfl) (pe_lst (pa_cons (pe_op o_catS (pe_op o_catS (pe_op o_catS (pe_op o_catS (pv 1) pe_str) (pe_fld (pv 0) rfl)) pe_str) (pe_callTy c_strI (by rfl) T.f_str (by decide +kernel) (pa_cons (pe_fld (pv 0) rfl) pa_nil))) pa_nil)))
      (pss_cons (ps_for po rfl (pi_list (pe_fld (pv 0) rfl)) (pg_name (i := 3) sc_Turns_told.nd rfl (loc_of rfl)) (pss_one (ps_set (i := 2) sc_Turns_told.nd rfl (loc_of rfl) (pe_op o_catL (pv 2) (pe_mtV (j := L) (pv 3) hr (by omega) pc (pa_cons (pe_op o_catS (pv 1) pe_str) pa_nil))))))
      (pss_one (ps_ret (pv 2))))), ?_⟩
      refine w_start [some (.ref a), some (.str ah), none, none] rfl ?_
      try dsimp only [cxOf]
      walk_at "wp"
      refine w_catS (by omega) ?_
      walk_at "wp"
      refine w_catS (by rw [Str.length_append]; omega) ?_
      walk_at "wp"
      refine w_catS (by rw [Str.length_append, Str.length_append]; omega) ?_
      walk_at "wp"
      refine w_strI (lg (n := 10) (by omega) (by decide) (by decide)) ?_
      refine w_catS (by rw [Str.length_append, Str.length_append, Str.length_append]; omega) ?_
      walk_at "wp"
      refine newL fun rl H1 nrl er s1 => ?_
      generalize hx : ah ++ Str.ofString "loop " ++ c ++ Str.ofString " " ++ (toString (n : Int) : Str) = x at er q
      have ea1 := s1 _ _ ea
      walk_at "wp"
      refine forL (fy.same s1).sql (fun i σ' H' => ∃ w3 rl', σ' = [some (.ref a), some (.str ah), some (.ref rl'), w3] ∧ H' rl' = some (.lst (([x] ++ toldS (ah ++ "  ") (body.take i)).map V.str)) ∧ Same H H' ∧ H rl' = none)
        ⟨none, rl, rfl, by rw [er, List.take_zero, toldS]; rfl, s1, nrl⟩ (fun i σ' H2 _ hp => ?_) (fun i v σ' H2 hv hp => ?_) (fun σ' H2 hp => ?_)
      · obtain ⟨w3, rl', rfl, er2, s2, nr2⟩ := hp
        exact (fy.same s2).sql
      · obtain ⟨w3, rl', rfl, er2, s2, nr2⟩ := hp
        walk_at "wp"
        refine w_mtV ?_
        walk_at "wp"
        obtain ⟨a', c', dx', fs', sp', rfl, ea', nt', M', go⟩ := told_loop (l := ly) sy ok3 (by omega) (by omega) hy1 mS hv s2 er2 (by simp)
        refine ⟨a', c', dx', fs', sp', rfl, ea', nt', M', ?_⟩
        walk_at "wp"
        refine w_catS (by omega) ?_
        walk_at "wp"
        exact go _ _ fun q3 H3 nq eq s3 => ⟨_, q3, rfl, eq, s2.trans s3, none_of_same s2 nq⟩
      · obtain ⟨w3, rl', rfl, er2, s2, nr2⟩ := hp
        rw [List.length_map, sy.len, List.take_length] at er2
        walk_at "wp"
        refine q rl' H2 nr2 ?_ s2
        rw [er2]
        rfl
    | _ => cases hc
theorem steps_told_all (F1 : MDef K "Choice" "told" "Choice.told" s_Choice_told) (F2 : MDef K "Turns" "told" "Turns.told" s_Turns_told) (m_Fill_told : Met P w K mg base 123 "Fill" "told" (spToldS K "Fill" 1)) (m_Called_told : Met P w K mg base 123 "Called" "told" (spToldS K "Called" 1)) (m_Rowed_told : Met P w K mg base 123 "Rowed" "told" (spToldS K "Rowed" 1)) : ∀ d s, SOk s → Met P w K mg base (123 + d) (cls5 s) "told" (spToldS K (cls5 s) d)
  | 0, s, _ => by
    have no : ∀ vs H Q E, ¬ spToldS K (cls5 s) 0 vs H Q E := fun vs H Q E h => by
      obtain ⟨_, s', _, _, _, _, _, hd, _⟩ := h
      have : 1 ≤ s'.depth := by cases s' <;> (simp only [S.depth]; omega)
      omega
    cases s with
    | fill r x pl t => exact (m_Fill_told.imp fun vs H Q E h => (no _ _ _ _ h).elim).mono (by omega)
    | call r x pl y ps => exact (m_Called_told.imp fun vs H Q E h => (no _ _ _ _ h).elim).mono (by omega)
    | rowed r x n => exact (m_Rowed_told.imp fun vs H Q E h => (no _ _ _ _ h).elim).mono (by omega)
    | choice r a b yes no' =>
      have m0 : Met P w K mg base 1 "Choice" "told" (fun _ _ _ _ => False) := met_of F1 (CF.cl _ (by decide +kernel)) (MF.m _ _ (by decide +kernel)) sc_Choice_told b_Choice_told (fun _ _ _ _ h => h.elim) (fun _ _ _ _ _ _ _ _ _ h => h.elim)
      exact (m0.imp fun vs H Q E h => no _ _ _ _ h).mono (by omega)
    | turns r c n body =>
      have m0 : Met P w K mg base 1 "Turns" "told" (fun _ _ _ _ => False) := met_of F2 (CF.cl _ (by decide +kernel)) (MF.m _ _ (by decide +kernel)) sc_Turns_told b_Turns_told (fun _ _ _ _ h => h.elim) (fun _ _ _ _ _ _ _ _ _ h => h.elim)
      exact (m0.imp fun vs H Q E h => no _ _ _ _ h).mono (by omega)
  | d + 1, s, _ => by
    have ih := steps_told_all F1 F2 m_Fill_told m_Called_told m_Rowed_told d
    have one : ∀ {c : Str}, Met P w K mg base 123 c "told" (spToldS K c 1) → (∀ s', cls5 s' = c → s'.depth = 1) → Met P w K mg base (123 + (d + 1)) c "told" (spToldS K c (d + 1)) := fun m hs => (m.imp fun vs H Q E h => by
      obtain ⟨a, s', ah, h1, h2, h3, h4, h5, h6⟩ := h
      exact ⟨a, s', ah, h1, h2, h3, h4, by rw [hs s' h2]; exact Nat.le_refl _, h6⟩).mono (by omega)
    cases s with
    | fill r x pl t => exact one m_Fill_told fun s' h => depth_one (c := "Fill") h (by decide) (by decide)
    | call r x pl y ps => exact one m_Called_told fun s' h => depth_one (c := "Called") h (by decide) (by decide)
    | rowed r x n => exact one m_Rowed_told fun s' h => depth_one (c := "Rowed") h (by decide) (by decide)
    | choice r a b yes no => exact choice_told_at T CF MF tds F1 (L := 123 + d) (by omega) ih
    | turns r c n body => exact turns_told_at T CF MF tds F2 (L := 123 + d) (by omega) ih
end
end
end Lw

namespace Lw
open PySem PySem.Spec PyProof.Rows L2 Fw Htx Ob Tx Rd Lk
local macro_rules | `(tactic| walk_at "cond") => `(tactic| first | assumption | (with_reducible exact cdiv_small (by omega) (by omega)) | (with_reducible exact cmul_small (by omega) (by omega)) | (with_reducible exact cpow_mk (by omega) (by omega) (by omega)) | omega)
local macro_rules | `(tactic| walk_at "ne") => `(tactic| first | assumption | exact Ne.symm (by assumption) | exact ne_of_none (by assumption) (by assumption) | exact Ne.symm (ne_of_none (by assumption) (by assumption)))
local macro_rules | `(tactic| walk_at "at") => `(tactic| first
  | assumption
  | (with_reducible exact upd_same)
  | ((with_reducible refine' at_same ?hk ?hh); (case hk => assumption); (case hh => walk_at "at"))
  | ((with_reducible refine' at_keepT ?hk ?hh ?hd); (case hk => assumption); (case hh => walk_at "at"); (case hd => walk_at "at"))
  | ((with_reducible refine' at_keep ?hk ?hh ?hn); (case hk => assumption); (case hh => walk_at "at"); (case hn => walk_at "ne")))
local macro_rules | `(tactic| walk_at "hp") => `(tactic| first
  | assumption
  | (with_reducible exact FrL.sql (by assumption))
  | ((with_reducible refine' SqT.of ?hq); (case hq => walk_at "at")) | ((with_reducible refine' SqL.of ?hq); (case hq => walk_at "at"))
  | ((with_reducible refine' sql_same ?hk ?hh); (case hk => assumption); (case hh => walk_at "hp"))
  | ((with_reducible refine' sql_keep ?hk ?hh ?hn); (case hk => assumption); (case hh => walk_at "hp"); (case hn => walk_at "ne"))
  | ((with_reducible refine' sqt_same ?hk ?hh); (case hk => assumption); (case hh => walk_at "hp")))
local macro_rules | `(tactic| walk_at "wp1") => `(tactic| first
  | with_reducible refine w_mt ?_ | ((with_reducible refine' w_mt1 ?ha ?hl ?_); (case ha => walk_at "at"); (case hl => rfl))
  | with_reducible refine w_fld ?_ | ((with_reducible refine' w_fld1 ?ha (ClsF.cl (cs := clsL) (as := attL) (by assumption) _ ?hc) (ClsF.no (cs := clsL) (as := attL) (by assumption) _ _ ?hn) ?hl ?_); (case ha => walk_at "at"); (case hc => decide +kernel); (case hn => decide +kernel); (case hl => rfl))
  | with_reducible refine w_sfld ?_ | ((with_reducible refine' w_sfld1 ?ha (ClsF.cl (cs := clsL) (as := attL) (by assumption) _ ?hc) (ClsF.no (cs := clsL) (as := attL) (by assumption) _ _ ?hn) ?he ?hl ?_); (case ha => walk_at "at"); (case hc => decide +kernel); (case hn => decide +kernel); (case he => rfl); (case hl => rfl))
  | with_reducible refine w_lk ?_ | ((with_reducible refine' lkL ?ha ?_); (case ha => walk_at "at")) | with_reducible refine w_mkS ?_ | with_reducible refine w_mk ?_ | with_reducible refine w_bas ?_ | with_reducible refine w_m1 ?_ | with_reducible refine w_isS ?_ | with_reducible refine w_bm0 ?_ | with_reducible refine w_iS ?_ | with_reducible refine w_chain ?_
  | with_reducible refine w_inSg ?_ | with_reducible refine w_ninSg ?_
  | with_reducible refine w_rz ?_ | with_reducible refine w_calX ?_ | with_reducible refine w_calS ?_ | with_reducible refine w_row ?_
  | with_reducible refine w_seq ?_ | with_reducible refine w_set ?_ | with_reducible refine w_drop ?_ | with_reducible refine w_ret ?_ | with_reducible refine w_ifS ?_ | with_reducible refine w_next ?_
  | ((with_reducible refine' w_var ?hv ?_); (case hv => rfl)) | with_reducible refine w_c ?_
  | with_reducible refine w_op ?_ | with_reducible refine w_un ?_ | with_reducible refine w_cb ?_ | with_reducible refine w_cal ?_ | with_reducible refine w_cons ?_ | with_reducible refine w_nil ?_
  | with_reducible refine w_plus ?_ | with_reducible refine w_minus ?_ | with_reducible refine w_lt ?_ | with_reducible refine w_le ?_ | with_reducible refine w_gt ?_ | with_reducible refine w_ge ?_
  | with_reducible refine w_eqI ?_ | with_reducible refine w_neI ?_ | with_reducible refine w_eqB ?_ | with_reducible refine w_neB ?_ | with_reducible refine w_eqS ?_ | with_reducible refine w_neS ?_
  | with_reducible refine w_neg ?_ | with_reducible refine w_abs ?_ | with_reducible refine w_intB ?_ | with_reducible refine w_test ?_ | with_reducible refine w_tB ?_ | with_reducible refine w_bl ?_
  | with_reducible refine w_and ?_ | with_reducible refine w_or ?_ | with_reducible refine w_not ?_ | with_reducible refine w_andV ?_ | with_reducible refine w_orV ?_ | with_reducible refine w_notV ?_ | with_reducible refine w_ifE ?_
  | with_reducible refine w_nyes ?_ | with_reducible refine w_nno ?_ | with_reducible refine w_yes ?_ | with_reducible refine w_no ?_
  | ((with_reducible refine' w_ixL ?ha ?hb ?_); (case ha => walk_at "hp"); (case hb => rfl)) | ((with_reducible refine' w_ixT ?ha ?hb ?_); (case ha => walk_at "hp"); (case hb => rfl))
  | ((with_reducible refine' w_lenL ?ha ?_); (case ha => walk_at "hp")) | ((with_reducible refine' w_lenT ?ha ?_); (case ha => walk_at "hp"))
  | with_reducible refine w_min2 ?_ | with_reducible refine w_max2 ?_ | with_reducible refine w_bm ?_ | with_reducible refine w_lc ?_ | ((with_reducible refine' w_tyL ?ha ?_); (case ha => walk_at "at"))
  | with_reducible refine isi_ii ?_ | with_reducible refine isi_ib ?_ | with_reducible refine isi_bb ?_ | with_reducible refine isi_ss ?_
  | ((with_reducible refine' isi_tt ?ha ?_); (case ha => walk_at "at")) | ((with_reducible refine' isi_ll ?ha ?_); (case ha => walk_at "at"))
  | with_reducible refine w_par ?_ | with_reducible refine w_par2 ?_ | with_reducible refine w_for ?_ | with_reducible refine w_iL ?_ | with_reducible refine w_iT ?_ | with_reducible refine w_iR1 ?_ | with_reducible refine w_iR2 ?_
  | with_reducible refine w_tup ?_ | with_reducible refine w_lst ?_
  | with_reducible refine w_asg ?_ | with_reducible refine w_gname ?_ | with_reducible refine w_gcons ?_ | with_reducible refine w_gnil ?_ | with_reducible refine w_gsub ?_
  | ((with_reducible refine' w_gtup ?ha ?hb ?_); (case ha => walk_at "hp"); (case hb => rfl))
  | ((with_reducible refine' w_fdiv ?hc ?_); (case hc => walk_at "cond")) | ((with_reducible refine' w_mul ?hc ?_); (case hc => walk_at "cond"))
  | ((with_reducible refine' w_mod ?hc ?_); (case hc => walk_at "cond")) | ((with_reducible refine' w_pow ?hc ?_); (case hc => walk_at "cond")))
local macro_rules | `(tactic| walk_at "wp") => `(tactic| repeat walk_at "wp1")
section
variable {P : Program} {w : World} {K : PySem.W.Frag} {mg : Str → Option Value} {base : Heap}
/-! ### a part tells its rows, a program its text -/
def PtOk (q : Pt) : Prop := q.name.length ≤ 100 ∧ (q.takes.length ≤ 60 ∧ ∀ x ∈ q.takes, x.length ≤ 100) ∧ SsOk q.body ∧ depthS q.body ≤ 7 ∧ ((∀ t ∈ q.gives, TOk t) ∧ (q.gives.map Rd.T.leaves).sum ≤ 60)
def ToldsF (P : Program) (w : World) (K : PySem.W.Frag) (mg : Str → Option Value) (base : Heap) : Prop := ∀ s, SOk s → Met P w K mg base 130 (cls5 s) "told" (spToldS K (cls5 s) 7)
-- CHAIN have tSs : ToldsF P w K mg base := fun s hs => steps_told_all (T := T) (CF := CF) (MF := MF) (tds := tds) F_Choice_told F_Turns_told m_Fill_told m_Called_told m_Rowed_told 7 s hs
def spToldP (K : PySem.W.Frag) : Sp := fun vs H Q _ => ∃ a q, vs = [.ref a] ∧ PartAt K H a q ∧ PtOk q ∧ q.told.length ≤ 1000 ∧ ∀ l H', H l = none → H' l = some (.lst (q.told.map V.str)) → Same H H' → Q (.ref l) H'
def spToldPr (K : PySem.W.Frag) : Sp := fun vs H Q _ => ∃ a ps, vs = [.ref a] ∧ ProgAt K H a ps ∧ (∀ q ∈ ps, PtOk q) ∧ (toldP ps).length ≤ 60 ∧ ∀ H', Same H H' → Q (.str (progTold ps)) H'
theorem sum_le {n m : Nat} : ∀ (ys : List Nat), (∀ y ∈ ys, y ≤ m) → ys.length ≤ n → ys.sum ≤ n * m := by
  intro ys
  induction ys generalizing n with
  | nil => intro _ _; exact Nat.zero_le _
  | cons y ys ih =>
    intro h1 h2
    cases n with
    | zero => cases h2
    | succ n =>
      have := ih (n := n) (fun z hz => h1 z (List.mem_cons_of_mem _ hz)) (Nat.le_of_succ_le_succ h2)
      have := h1 y List.mem_cons_self
      rw [List.sum_cons, Nat.succ_mul]
      omega
theorem lens_le {n m : Nat} {ys : List Str} (h : ∀ y ∈ ys, y.length ≤ m) (hn : ys.length ≤ n) : (ys.map (·.length)).sum ≤ n * m := by
  refine sum_le _ (fun y hy => ?_) (by rw [List.length_map]; exact hn)
  obtain ⟨z, hz, rfl⟩ := List.mem_map.mp hy
  exact h z hz
/-- each row that a step tells is short -/
theorem told_row_len : ∀ n : Nat, (∀ s : S, s.depth ≤ n → SOk s → ∀ ah y : Str, y ∈ s.told ah → y.length ≤ ah.length + 2 * n + 170000) ∧ ∀ ss : List S, depthS ss ≤ n → SsOk ss → ∀ ah y : Str, y ∈ toldS ah ss → y.length ≤ ah.length + 2 * n + 170000 := by
  have e2 : (Str.ofString "  ").length = 2 := by decide +kernel
  intro n
  induction n with
  | zero =>
    refine ⟨fun s hs => ?_, fun ss hs ok ah y hy => ?_⟩
    · exfalso
      cases s <;> (simp only [S.depth] at hs; omega)
    · cases ss with
      | nil => rw [toldS] at hy; cases hy
      | cons s r =>
        exfalso
        rw [depthS] at hs
        have : 1 ≤ s.depth := by cases s <;> (simp only [S.depth]; omega)
        omega
  | succ n ih =>
    have h1 : ∀ s : S, s.depth ≤ n + 1 → SOk s → ∀ ah y : Str, y ∈ s.told ah → y.length ≤ ah.length + 2 * (n + 1) + 170000 := by
      intro s hs ok ah y hy
      cases s with
      | fill r x pl t =>
        unfold SOk at ok
        rw [S.told] at hy
        have := List.mem_singleton.mp hy
        subst this
        have k1 : TmOk (.kn x pl) := ⟨ok.1, by show 1 ≤ 60; omega⟩
        have := k1.len
        have := ok.2.len
        have e1 : (Str.ofString " = ").length = 3 := by decide +kernel
        rw [Str.length_append, Str.length_append, Str.length_append]
        have h5 := told_len ok.1
        have : (Rd.T.kn x pl).leaves = 1 := rfl
        omega
      | call r x pl h ps =>
        unfold SOk at ok
        obtain ⟨ok1, ok2, ok3, ok4⟩ := ok
        rw [S.told] at hy
        have := List.mem_singleton.mp hy
        subst this
        have h5 := told_len ok1
        have : (Rd.T.kn x pl).leaves = 1 := rfl
        have e1 : (Str.ofString " = ").length = 3 := by decide +kernel
        have e2 : (Str.ofString "(").length = 1 := by decide +kernel
        have e3 : (Str.ofString ")").length = 1 := by decide +kernel
        have e4 : (Str.ofString ", ").length = 2 := by decide +kernel
        have hsum := told_leafsum ok3
        have hcnt := leaf_count ps
        have hjl := join_len ", " (ps.map Rd.T.told)
        rw [List.length_map, e4] at hjl
        rw [Str.length_append, Str.length_append, Str.length_append, Str.length_append, Str.length_append, Str.length_append]
        omega
      | rowed r x m =>
        unfold SOk at ok
        obtain ⟨ok1, ok2⟩ := ok
        rw [S.told] at hy
        have := List.mem_singleton.mp hy
        subst this
        have l2 := small_len (i := (m : Int)) (by omega)
        have e1 : (Str.ofString "row ").length = 4 := by decide +kernel
        have e2 : (Str.ofString " ").length = 1 := by decide +kernel
        rw [Str.length_append, Str.length_append, Str.length_append, Str.length_append]
        omega
      | choice r a b yes no =>
        unfold SOk at ok
        obtain ⟨⟨ok1, ok2⟩, ok3, ok4, ok5⟩ := ok
        simp only [S.depth] at hs
        rw [S.told] at hy
        have e1 : (Str.ofString "if ").length = 3 := by decide +kernel
        have e3 : (Str.ofString " < ").length = 3 := by decide +kernel
        have e4 : (Str.ofString "else").length = 4 := by decide +kernel
        have h5 := told_len ok1
        have h6 := told_len ok2
        rcases List.mem_append.mp hy with hy | hy
        · rcases List.mem_append.mp hy with hy | hy
          · rcases List.mem_cons.mp hy with rfl | hy
            · rw [Str.length_append, Str.length_append, Str.length_append, Str.length_append]
              omega
            · have := ih.2 yes (by omega) ok4 (ah ++ "  ") y hy
              rw [Str.length_append] at this
              omega
          · split at hy
            · cases hy
            · have := List.mem_singleton.mp hy
              subst this
              rw [Str.length_append]
              omega
        · have := ih.2 no (by omega) ok5 (ah ++ "  ") y hy
          rw [Str.length_append] at this
          omega
      | turns r c m body =>
        unfold SOk at ok
        obtain ⟨ok1, ok2, ok3⟩ := ok
        simp only [S.depth] at hs
        rw [S.told] at hy
        have l2 := small_len (i := (m : Int)) (by omega)
        have e1 : (Str.ofString "loop ").length = 5 := by decide +kernel
        have e3 : (Str.ofString " ").length = 1 := by decide +kernel
        rcases List.mem_cons.mp hy with rfl | hy
        · rw [Str.length_append, Str.length_append, Str.length_append, Str.length_append]
          omega
        · have := ih.2 body (by omega) ok3 (ah ++ "  ") y hy
          rw [Str.length_append] at this
          omega
    refine ⟨h1, fun ss => ?_⟩
    induction ss with
    | nil =>
      intro _ _ ah y hy
      rw [toldS] at hy
      cases hy
    | cons s r ihr =>
      intro hs ok ah y hy
      rw [depthS] at hs
      unfold SsOk at ok
      rw [toldS] at hy
      rcases List.mem_append.mp hy with hy | hy
      · exact h1 s (by omega) ok.1 ah y hy
      · exact ihr (by omega) ok.2 ah y hy
theorem part_row_len {q : Pt} (ok : PtOk q) : ∀ y ∈ q.told, y.length ≤ 180000 := by
  obtain ⟨ok1, ⟨ok2, ok3⟩, ok4, ok5, ok6, ok7⟩ := ok
  intro y hy
  unfold Pt.told at hy
  have e1 : (Str.ofString "def ").length = 4 := by decide +kernel
  have e2 : (Str.ofString "(").length = 1 := by decide +kernel
  have e3 : (Str.ofString ")").length = 1 := by decide +kernel
  have e4 : (Str.ofString ", ").length = 2 := by decide +kernel
  have e5 : (Str.ofString "  ").length = 2 := by decide +kernel
  have e6 : (Str.ofString "  give ").length = 7 := by decide +kernel
  rcases List.mem_append.mp hy with hy | hy
  · rcases List.mem_cons.mp hy with rfl | hy
    · have h1 := lens_le ok3 ok2
      have hjl := join_len ", " q.takes
      rw [e4] at hjl
      rw [Str.length_append, Str.length_append, Str.length_append, Str.length_append]
      omega
    · have := (told_row_len 7).2 q.body ok5 ok4 "  " y hy
      omega
  · have := List.mem_singleton.mp hy
    subst this
    have hsum := told_leafsum ok6
    have hcnt := leaf_count q.gives
    have hjl := join_len ", " (q.gives.map Rd.T.told)
    rw [List.length_map, e4] at hjl
    rw [Str.length_append]
    omega
section
variable (T : Fre mg) (CS : Cst K mg) (CF : ClsF K clsL attL) (MF : MthF K) (tds : TdsF P w K mg base) (tSs : ToldsF P w K mg base)
include CF MF tds T tSs
theorem m_Part_told (F : MDef K "Part" "told" "Part.told" s_Part_told)  : Met P w K mg base 131 "Part" "told" (spToldP K) := by
  refine met_of F (CF.cl _ (by decide +kernel)) (MF.m _ _ (by decide +kernel)) sc_Part_told b_Part_told (fun vs H Q E h => ?_) (fun cdv A outer s H vs Q E hr h => ?_)
  · obtain ⟨_, _, rfl, _⟩ := h
    rfl
  · obtain ⟨a, qq, rfl, PA, ok, hrl, q⟩ := h
    obtain ⟨dx, lt, lb, lg, gs, ea, ft, ⟨bs, fb, sb⟩, fg, TA⟩ := id PA
    obtain ⟨ok1, ⟨ok2, ok3⟩, ok4, ok5, ok6, ok7⟩ := ok
    have sl : sizeLine = 16777216 := sizeLine_eq
    have e1 : (Str.ofString "def ").length = 4 := by decide +kernel
    have e2 : (Str.ofString "(").length = 1 := by decide +kernel
    have e3 : (Str.ofString ")").length = 1 := by decide +kernel
    have e4 : (Str.ofString ", ").length = 2 := by decide +kernel
    have e5 : (Str.ofString "  ").length = 2 := by decide +kernel
    have e6 : (Str.ofString "  give ").length = 7 := by decide +kernel
    have h1 := lens_le ok3 ok2
    have hjl := join_len ", " qq.takes
    rw [e4] at hjl
    have hsum := told_leafsum ok6
    have hcnt := leaf_count qq.gives
    have hjg := join_len ", " (qq.gives.map Rd.T.told)
    rw [List.length_map, e4] at hjg
    unfold Pt.told at q hrl
    simp only [List.length_append, List.length_cons, List.length_nil] at hrl
    have hb1 : (toldS ((Str.ofString "") ++ Str.ofString "  ") qq.body).length ≤ 1000 := by
      have e : (Str.ofString "") ++ Str.ofString "  " = (Str.ofString "  ") := by decide +kernel
      rw [e]
      omega
    have eE : (Str.ofString "") ++ Str.ofString "  " = (Str.ofString "  ") := by decide +kernel
    have e0 : (Str.ofString "").length = 0 := by decide +kernel
    have po := passes_of (X := cxOf (L2N.CX P w) P w K mg base ["self", "rows", "step", "term"] "Part.told" (defScope s_Part_told) (He.ma K (He.ga K "Part") "told") cdv A outer s H E) rfl
    have tk := L2N.takes_of (X := cxOf (L2N.CX P w) P w K mg base ["self", "rows", "step", "term"] "Part.told" (defScope s_Part_told) (He.ma K (He.ga K "Part") "told") cdv A outer s H E) (E := E) rfl rfl rfl rfl
    have pc := L2N.passes_call tk (fun _ _ _ _ h => h) (E := E)
    have hu64 : (cxOf (L2N.CX P w) P w K mg base ["self", "rows", "step", "term"] "Part.told" (defScope s_Part_told) (He.ma K (He.ga K "Part") "told") cdv A outer s H E).A.units + 64 < cLine := by
      have := hr.un
      show (A.deeper _).units + 64 < cLine
      omega
    refine ⟨_, (pss_cons (ps_set (i := 1) sc_Part_told.nd rfl (loc_of rfl) (pe_lst (pa_cons (pe_op o_catS (pe_op o_catS (pe_op o_catS (pe_op o_catS pe_str (pe_fld (pv 0) rfl)) pe_str) (pe_m1 PySem.F.slot_str_join PySem.F.type_str_join (m_join (K := K) rfl) pe_str (pe_fld (pv 0) rfl))) pe_str) pa_nil)))
      (pss_cons (ps_for po rfl (pi_list (pe_fld (pv 0) rfl)) (pg_name (i := 2) sc_Part_told.nd rfl (loc_of rfl)) (pss_one (ps_set (i := 1) sc_Part_told.nd rfl (loc_of rfl) (pe_op o_catL (pv 1) (pe_mtV (j := 130) (pv 2) hr (by omega) pc (pa_cons pe_str pa_nil))))))
      (pss_one (ps_ret (pe_op o_catL (pv 1) (pe_lst (pa_cons (pe_op o_catS pe_str (pe_m1 PySem.F.slot_str_join PySem.F.type_str_join (m_join (K := K) rfl) pe_str (pe_lc (own := [("term", 3)]) (g := gName 3) (by rfl) sc_Part_told.nd (pi_list (pe_fld (pv 0) rfl)) (blkOk_by (own := [("term", 3)]) (N := ["self", "rows", "step", "term"]) (sc := defScope s_Part_told) (by decide +kernel)) (fun _ _ _ _ _ => pg_name (i := 3) sc_Part_told.nd rfl (Or.inl rfl)) (fun _ _ _ _ _ => pts_nil) (fun _ _ _ _ _ => (pe_mtVK0 (P := P) (w := w) (K := K) (mg := mg) (base := base) (j := 122) rfl rfl rfl rfl rfl (pv 3) hr (by omega) passF))))) pa_nil))))))), ?_⟩
    refine w_start [some (.ref a), none, none, none] rfl ?_
    try dsimp only [cxOf]
    walk_at "wp"
    refine w_catS (by omega) ?_
    walk_at "wp"
    refine w_catS (by rw [Str.length_append]; omega) ?_
    walk_at "wp"
    refine w_join ft.sql (by rw [e4]; omega) ?_
    refine w_catS (by rw [Str.length_append, Str.length_append]; omega) ?_
    walk_at "wp"
    refine w_catS (by rw [Str.length_append, Str.length_append, Str.length_append]; omega) ?_
    walk_at "wp"
    refine newL fun rl H1 nrl er s1 => ?_
    generalize hx : Str.ofString "def " ++ qq.name ++ Str.ofString "(" ++ Txt.join (Str.ofString ", ") qq.takes ++ Str.ofString ")" = x at er q
    have ea1 := s1 _ _ ea
    walk_at "wp"
    refine forL (fb.same s1).sql (fun i σ' H' => ∃ w3 rl', σ' = [some (.ref a), some (.ref rl'), w3, none] ∧ H' rl' = some (.lst (([x] ++ toldS (Str.ofString "  ") (qq.body.take i)).map V.str)) ∧ Same H H' ∧ H rl' = none)
      ⟨none, rl, rfl, by rw [er, List.take_zero, toldS]; rfl, s1, nrl⟩ (fun i σ' H2 _ hp => ?_) (fun i v σ' H2 hv hp => ?_) (fun σ' H2 hp => ?_)
    · obtain ⟨w3, rl', rfl, er2, s2, nr2⟩ := hp
      exact (fb.same s2).sql
    · obtain ⟨w3, rl', rfl, er2, s2, nr2⟩ := hp
      walk_at "wp"
      refine w_mtV ?_
      walk_at "wp"
      obtain ⟨a', c', dx', fs', sp', rfl, ea', nt', M', go⟩ := told_loop (l := lb) (ah := "") (d := 7) sb ok4 ok5 (by omega) hb1 tSs hv s2 (pre := [x]) (rl := rl') (by rw [eE]; exact er2) (by simp)
      refine ⟨a', c', dx', fs', sp', rfl, ea', nt', M', ?_⟩
      walk_at "wp"
      rw [eE] at go
      exact go _ _ fun q3 H3 nq eq s3 => ⟨_, q3, rfl, eq, s2.trans s3, none_of_same s2 nq⟩
    · obtain ⟨w3, rl', rfl, er2, s2, nr2⟩ := hp
      rw [List.length_map, sb.len, List.take_length] at er2
      have ea2 := s2 _ _ ea
      walk_at "wp"
      refine lcLi (fun i => .str ((qq.gives.getD i (.num 0)).told)) (fg.same s2).sql (by rw [List.length_map, TA.len]; omega) (fun i v H3 Q' hi s3 q' => ?_) (fun _ => rfl) (fun D H3 nD eD s3 => ?_)
      · rw [List.getElem?_map] at hi
        obtain ⟨c, hc1, rfl⟩ := Option.map_eq_some_iff.mp hi
        have hlt := (List.getElem?_eq_some_iff.mp hc1).1
        rw [TA.len] at hlt
        obtain ⟨c', hc2, tc⟩ := TA.get (List.getElem?_eq_getElem hlt)
        rw [hc1] at hc2
        cases hc2
        have et : qq.gives.getD i (.num 0) = qq.gives[i] := by rw [List.getD_eq_getElem?_getD, List.getElem?_eq_getElem hlt]; rfl
        rw [et] at q'
        have kt : TmOk qq.gives[i] := ⟨ok6 _ (List.getElem_mem hlt), Nat.le_trans (leaf_mem (List.getElem_mem hlt)) ok7⟩
        have tc2 := (tc.keep s2.keepN).keep s3.keepN
        obtain ⟨dc, fc, ec, _, nc, _⟩ := tc2.obj
        refine w_mtV ?_
        walk_at "wp"
        refine ⟨c, _, dc, fc, _, rfl, ec, nc, tds _ kt.1, ?_⟩
        walk_at "wp"
        exact ⟨c, _, rfl, rfl, kt.d tc2, q'⟩
      · have em : (List.range (gs.map V.ref).length).map (fun i => V.str ((qq.gives.getD i (.num 0)).told)) = (qq.gives.map Rd.T.told).map V.str := by
          rw [List.length_map, TA.len, map_range_get qq.gives (.num 0) (fun t => V.str t.told), List.map_map]
          rfl
        rw [em] at eD
        refine w_join (SqL.of eD) (by rw [List.length_map, e4]; omega) ?_
        refine w_catS (by omega) ?_
        walk_at "wp"
        refine newL fun l4 H4 nl4 el4 s4 => ?_
        have er4 := s4 _ _ (s3 _ _ er2)
        refine w_catL er4 el4 (by rw [List.length_map, List.length_append]; simp only [List.length_cons, List.length_nil]; omega) fun q5 H5 nq5 eq5 s5 => ?_
        have s25 := (s2.trans s3).trans s4
        refine q q5 H5 (none_of_same s25 nq5) ?_ (s25.trans s5)
        rw [eq5]
        simp only [List.map_append, List.map_cons, List.map_nil, List.cons_append, List.nil_append]
omit tds tSs in
theorem m_Program_told (F : MDef K "Program" "told" "Program.told" s_Program_told) (m_Part_told : Met P w K mg base 131 "Part" "told" (spToldP K)) : Met P w K mg base 132 "Program" "told" (spToldPr K) := by
  refine met_of F (CF.cl _ (by decide +kernel)) (MF.m _ _ (by decide +kernel)) sc_Program_told b_Program_told (fun vs H Q E h => ?_) (fun cdv A outer s H vs Q E hr h => ?_)
  · obtain ⟨_, _, rfl, _⟩ := h
    rfl
  · obtain ⟨a, ps, rfl, ⟨dx, lp, as, ea, fp, PA⟩, ok, hrl, q⟩ := h
    have po := passes_of (X := cxOf (L2N.CX P w) P w K mg base ["self", "rows", "part"] "Program.told" (defScope s_Program_told) (He.ma K (He.ga K "Program") "told") cdv A outer s H E) rfl
    have tk := L2N.takes_of (X := cxOf (L2N.CX P w) P w K mg base ["self", "rows", "part"] "Program.told" (defScope s_Program_told) (He.ma K (He.ga K "Program") "told") cdv A outer s H E) (E := E) rfl rfl rfl rfl
    have pc := L2N.passes_call tk (fun _ _ _ _ h => h) (E := E)
    have hu64 : (cxOf (L2N.CX P w) P w K mg base ["self", "rows", "part"] "Program.told" (defScope s_Program_told) (He.ma K (He.ga K "Program") "told") cdv A outer s H E).A.units + 64 < cLine := by
      have := hr.un
      show (A.deeper _).units + 64 < cLine
      omega
    refine ⟨_, (pss_cons (ps_set (i := 1) sc_Program_told.nd rfl (loc_of rfl) (pe_lst pa_nil))
      (pss_cons (ps_for po rfl (pi_list (pe_fld (pv 0) rfl)) (pg_name (i := 2) sc_Program_told.nd rfl (loc_of rfl)) (pss_one (ps_set (i := 1) sc_Program_told.nd rfl (loc_of rfl) (pe_op o_catL (pv 1) (pe_mt0 m_Part_told (pv 2) hr (by omega) pc)))))
      (pss_one (ps_ret (pe_m1 PySem.F.slot_str_join PySem.F.type_str_join (m_join (K := K) rfl) pe_str (pv 1)))))), ?_⟩
    refine w_start [some (.ref a), none, none] rfl ?_
    try dsimp only [cxOf]
    walk_at "wp"
    refine newL fun rl H1 nrl er s1 => ?_
    have ea1 := s1 _ _ ea
    have e1 : (Str.ofString "\n").length = 1 := by decide +kernel
    walk_at "wp"
    refine forL (fp.same s1).sql (fun i σ' H' => ∃ w3 rl', σ' = [some (.ref a), some (.ref rl'), w3] ∧ H' rl' = some (.lst ((toldP (ps.take i)).map V.str)) ∧ Same H H' ∧ H rl' = none)
      ⟨none, rl, rfl, er, s1, nrl⟩ (fun i σ' H2 _ hp => ?_) (fun i v σ' H2 hv hp => ?_) (fun σ' H2 hp => ?_)
    · obtain ⟨w3, rl', rfl, er2, s2, nr2⟩ := hp
      exact (fp.same s2).sql
    · obtain ⟨w3, rl', rfl, er2, s2, nr2⟩ := hp
      rw [List.getElem?_map] at hv
      obtain ⟨c, hc1, rfl⟩ := Option.map_eq_some_iff.mp hv
      have hlt := (List.getElem?_eq_some_iff.mp hc1).1
      rw [PA.len] at hlt
      obtain ⟨c', hc2, pc'⟩ := PA.get (List.getElem?_eq_getElem hlt)
      rw [hc1] at hc2
      cases hc2
      have pc2 := pc'.keep s2.keepN
      obtain ⟨dc, lt, lb, lg, gs, ec, _⟩ := id pc2
      have et : toldP (ps.take (i + 1)) = toldP (ps.take i) ++ (ps[i]).told := by
        unfold toldP
        rw [List.take_add_one, List.getElem?_eq_getElem hlt, List.flatMap_append]
        show _ ++ List.flatMap Pt.told [ps[i]] = _
        rw [List.flatMap_cons, List.flatMap_nil, List.append_nil]
      have hle : (toldP (ps.take (i + 1))).length ≤ 60 := by
        refine Nat.le_trans ?_ hrl
        have : toldP ps = toldP (ps.take (i + 1)) ++ toldP (ps.drop (i + 1)) := by
          unfold toldP
          rw [← List.flatMap_append, List.take_append_drop]
        rw [this, List.length_append]
        omega
      rw [et, List.length_append] at hle
      walk_at "wp"
      refine ⟨c, ps[i], rfl, pc2, ok _ (List.getElem_mem hlt), by omega, fun l3 H3 nl3 el3 s3 => ?_⟩
      refine w_catL (s3 _ _ er2) el3 (by rw [List.length_map, List.length_map]; omega) fun q5 H5 nq5 eq5 s5 => ?_
      walk_at "wp"
      refine ⟨_, q5, rfl, ?_, (s2.trans s3).trans s5, none_of_same (s2.trans s3) nq5⟩
      rw [eq5, et, List.map_append]
    · obtain ⟨w3, rl', rfl, er2, s2, nr2⟩ := hp
      rw [List.length_map, PA.len, List.take_length] at er2
      have hlen : ∀ y ∈ toldP ps, y.length ≤ 180000 := fun y hy => by
        unfold toldP at hy
        obtain ⟨p, hp, hy⟩ := List.mem_flatMap.mp hy
        exact part_row_len (ok p hp) y hy
      have h1 := lens_le hlen hrl
      walk_at "wp"
      refine w_join (SqL.of er2) (by rw [e1]; omega) ?_
      exact q H2 s2
end
end
end Lw

/-! texts put together of pieces: their marks; terms read of marks -/
namespace Rd
open PySem
/-! ### pieces of a row -/
inductive Pc where
  | w (l : List Nat)
  | d (l : List Nat)
  | s (c : Nat)
  | b
def Pc.cs : Pc → List Nat
  | .w l => l
  | .d l => l
  | .s c => [c]
  | .b => [32]
def flat : List Pc → List Nat
  | [] => []
  | p :: r => p.cs ++ flat r
def mk (l : List Nat) : Str := ⟨l.toArray⟩
def marksP : List Pc → List Str
  | [] => []
  | .w l :: r => mk l :: marksP r
  | .d l :: r => mk l :: marksP r
  | .s c :: r => one c :: marksP r
  | .b :: r => marksP r
def signL : List Nat := ("+-*/()[]<=," : Str).cps.toList
/-- they can stand so behind the glue g -/
def okP : Option Nat → List Pc → Prop
  | _, [] => True
  | g, .w l :: r => g ≠ some 97 ∧ l ≠ [] ∧ (∀ c ∈ l, c ∈ smallL) ∧ okP (some 97) r
  | g, .d l :: r => g ≠ some 48 ∧ l ≠ [] ∧ (∀ c ∈ l, c ∈ figL) ∧ okP (some 48) r
  | _, .s c :: r => c ∈ signL ∧ okP none r
  | _, .b :: r => okP none r
def endG : Option Nat → List Pc → Option Nat
  | g, [] => g
  | _, .w _ :: r => endG (some 97) r
  | _, .d _ :: r => endG (some 48) r
  | _, .s _ :: r => endG none r
  | _, .b :: r => endG none r
theorem flat_append : ∀ (a b : List Pc), flat (a ++ b) = flat a ++ flat b
  | [], _ => rfl
  | p :: r, b => by
    show p.cs ++ flat (r ++ b) = _
    rw [flat_append r b, flat, List.append_assoc]
theorem marksP_append : ∀ (a b : List Pc), marksP (a ++ b) = marksP a ++ marksP b
  | [], _ => rfl
  | .w l :: r, b => congrArg _ (marksP_append r b)
  | .d l :: r, b => congrArg _ (marksP_append r b)
  | .s c :: r, b => congrArg _ (marksP_append r b)
  | .b :: r, b => marksP_append r b
theorem okP_append : ∀ {a b : List Pc} {g : Option Nat}, okP g a → okP (endG g a) b → okP g (a ++ b)
  | [], _, _, _, h => h
  | .w l :: r, b, g, ⟨h1, h2, h3, h4⟩, h => ⟨h1, h2, h3, okP_append h4 h⟩
  | .d l :: r, b, g, ⟨h1, h2, h3, h4⟩, h => ⟨h1, h2, h3, okP_append h4 h⟩
  | .s c :: r, b, g, ⟨h1, h2⟩, h => ⟨h1, okP_append h2 h⟩
  | .b :: r, b, g, h1, h => okP_append (a := r) (g := none) h1 h
/-- what begins with a sign or a blank (or is nothing) -/
def Soft : List Pc → Prop
  | [] => True
  | .s _ :: _ => True
  | .b :: _ => True
  | _ => False
theorem Soft.ok {g : Option Nat} : ∀ {b : List Pc}, Soft b → okP none b → okP g b
  | [], _, _ => trivial
  | .s _ :: _, _, h => h
  | .b :: _, _, h => h
  | .w _ :: _, h, _ => h.elim
  | .d _ :: _, h, _ => h.elim
theorem okP_soft {a b : List Pc} {g : Option Nat} (ha : okP g a) (hb : okP none b) (hs : Soft b) : okP g (a ++ b) := okP_append ha (hs.ok hb)
theorem kind_small {c : Nat} (h : c ∈ smallL) : kind c = 97 := by
  have : ∀ x ∈ smallL, kind x = 97 := by decide +kernel
  exact this c h
theorem kind_fig {c : Nat} (h : c ∈ figL) : kind c = 48 := by
  have : ∀ x ∈ figL, kind x = 48 := by decide +kernel
  exact this c h
theorem kind_sign {c : Nat} (h : c ∈ signL) : kind c = c ∧ c ∈ sgnL ∧ c ≠ 97 ∧ c ≠ 48 := by
  have : ∀ x ∈ signL, kind x = x ∧ x ∈ sgnL ∧ x ≠ 97 ∧ x ≠ 48 := by decide +kernel
  exact this c h
theorem step_first {ms : List Str} {g : Option Nat} {c k : Nat} (hk : kind c = k) (hk2 : k = 97 ∨ k = 48) (hg : g ≠ some k) : mkStep (ms, g) c = some (ms ++ [one c], some k) := by
  unfold mkStep
  rw [hk]
  dsimp only
  rw [if_neg hg, if_pos (by rcases hk2 with rfl | rfl <;> decide +kernel)]
  unfold glue'
  rw [if_pos hk2]
theorem step_more {ms : List Str} {x : List Nat} {c k : Nat} (hk : kind c = k) (hk2 : k = 97 ∨ k = 48) : mkStep (ms ++ [mk x], some k) c = some (ms ++ [mk (x ++ [c])], some k) := by
  unfold mkStep
  rw [hk]
  dsimp only
  rw [if_pos rfl, List.dropLast_concat, List.getLastD_concat]
  have e : mk x ++ one c = mk (x ++ [c]) := by
    show (⟨x.toArray ++ #[c]⟩ : Str) = ⟨(x ++ [c]).toArray⟩
    simp
  rw [e]
  unfold glue'
  rw [if_pos hk2]
theorem scan_run {ms : List Str} {k : Nat} (hk2 : k = 97 ∨ k = 48) : ∀ (l x : List Nat), (∀ c ∈ l, kind c = k) → scan (ms ++ [mk x], some k) l = some (ms ++ [mk (x ++ l)], some k)
  | [], x, _ => by rw [List.append_nil]; rfl
  | c :: r, x, h => by
    unfold scan
    rw [step_more (h c List.mem_cons_self) hk2]
    have := scan_run hk2 (ms := ms) r (x ++ [c]) fun y hy => h y (List.mem_cons_of_mem _ hy)
    simp only [Option.bind_some]
    rw [this, List.append_assoc]
    rfl
theorem scan_word {ms : List Str} {g : Option Nat} {k : Nat} (hk2 : k = 97 ∨ k = 48) (hg : g ≠ some k) : ∀ (l : List Nat), l ≠ [] → (∀ c ∈ l, kind c = k) → scan (ms, g) l = some (ms ++ [mk l], some k)
  | [], h, _ => absurd rfl h
  | c :: r, _, h => by
    unfold scan
    rw [step_first (h c List.mem_cons_self) hk2 hg]
    simp only [Option.bind_some]
    have := scan_run hk2 (ms := ms) r [c] fun y hy => h y (List.mem_cons_of_mem _ hy)
    exact this
def gOk (g : Option Nat) : Prop := g = none ∨ g = some 97 ∨ g = some 48
theorem gOk.ne {g : Option Nat} {c : Nat} (h : gOk g) (h1 : c ≠ 97) (h2 : c ≠ 48) : g ≠ some c := by
  rcases h with rfl | rfl | rfl
  · exact fun z => nomatch z
  · exact fun z => h1 (Option.some.inj z).symm
  · exact fun z => h2 (Option.some.inj z).symm
theorem scan_pieces : ∀ {ps : List Pc} {ms : List Str} {g : Option Nat}, gOk g → okP g ps → scan (ms, g) (flat ps) = some (ms ++ marksP ps, endG g ps)
  | [], ms, g, _, _ => by
    rw [marksP, List.append_nil]
    rfl
  | .w l :: r, ms, g, hg, ⟨h1, h2, h3, h4⟩ => by
    show scan (ms, g) (l ++ flat r) = _
    rw [scan_append, scan_word (.inl rfl) h1 l h2 fun c hc => kind_small (h3 c hc)]
    simp only [Option.bind_some]
    rw [scan_pieces (.inr (.inl rfl)) h4, List.append_assoc]
    rfl
  | .d l :: r, ms, g, hg, ⟨h1, h2, h3, h4⟩ => by
    show scan (ms, g) (l ++ flat r) = _
    rw [scan_append, scan_word (.inr rfl) h1 l h2 fun c hc => kind_fig (h3 c hc)]
    simp only [Option.bind_some]
    rw [scan_pieces (.inr (.inr rfl)) h4, List.append_assoc]
    rfl
  | .s c :: r, ms, g, hg, ⟨h1, h2⟩ => by
    obtain ⟨e1, e2, e3, e4⟩ := kind_sign h1
    show scan (ms, g) (c :: flat r) = _
    unfold scan
    have e : mkStep (ms, g) c = some (ms ++ [one c], none) := by
      unfold mkStep
      rw [e1]
      dsimp only
      have eg : glue' c = none := by
        unfold glue'
        rw [if_neg (fun z => z.elim e3 e4)]
      rw [if_neg (hg.ne e3 e4), if_pos e2, eg]
    rw [e]
    simp only [Option.bind_some]
    rw [scan_pieces (.inl rfl) h2, List.append_assoc]
    rfl
  | .b :: r, ms, g, hg, h => by
    show scan (ms, g) (32 :: flat r) = _
    unfold scan
    have e : mkStep (ms, g) 32 = some (ms, none) := by
      unfold mkStep
      have e1 : kind 32 = 32 := by decide +kernel
      rw [e1]
      dsimp only
      rw [if_neg (hg.ne (by decide) (by decide)), if_neg (by decide +kernel), if_pos rfl]
      rfl
    rw [e]
    simp only [Option.bind_some]
    rw [scan_pieces (ps := r) (.inl rfl) h]
    rfl
theorem marks_pieces {ps : List Pc} (h : okP none ps) (h1 : marksP ps ≠ []) (h2 : (marksP ps).length ≤ 60) : marksM (flat ps) = some (marksP ps) := by
  unfold marksM
  rw [scan_pieces (.inl rfl) h]
  simp only [Option.bind_some, List.nil_append]
  rw [if_neg (fun z => z.elim h1 (by omega))]
/-! ### terms by their marks -/
def At (ms : List Str) (p : Nat) (tk : List Str) : Prop := ∀ i x, tk[i]? = some x → now ms (p + i) = x
theorem At.app1 {ms : List Str} {p : Nat} {a b : List Str} (h : At ms p (a ++ b)) : At ms p a := fun i x e => h i x (by
  have := (List.getElem?_eq_some_iff.mp e).1
  rw [List.getElem?_append_left this]
  exact e)
theorem At.app2 {ms : List Str} {p : Nat} {a b : List Str} (h : At ms p (a ++ b)) : At ms (p + a.length) b := fun i x e => by
  have := h (a.length + i) x (by rw [List.getElem?_append_right (by omega)]; rw [Nat.add_sub_cancel_left]; exact e)
  rw [Nat.add_assoc]
  exact this
theorem At.head {ms : List Str} {p : Nat} {a : Str} {b : List Str} (h : At ms p (a :: b)) : now ms p = a := h 0 a rfl
theorem At.of (pre tk post : List Str) : At (pre ++ tk ++ post) pre.length tk := fun i x e => by
  have hi := (List.getElem?_eq_some_iff.mp e).1
  unfold now
  rw [List.getD_eq_getElem?_getD, List.append_assoc, List.getElem?_append_right (by omega), Nat.add_sub_cancel_left, List.getElem?_append_left hi, e]
  rfl
/-- a leaf: a number, a name, a place -/
def LeafP (t : T) (tk : List Str) : Prop := ∀ ms p k, At ms p tk → now ms (p + tk.length) ≠ "[" → rUnit ms (inner ms k) p = some (t, p + tk.length)
/-- marks of a term that must bind so firmly; at most n brackets within one another -/
inductive Brk : Nat → T → Nat → List Str → Prop
  | leaf {n f : Nat} {t : T} {tk : List Str} (h : LeafP t tk) : Brk n t f tk
  | bin {n f i : Nat} {a b : T} {ta tb : List Str} (hi : i < 4) (hf : f ≤ rk i) (ha : Brk n a (rk i) ta) (hb : Brk n b (rk i + 1) tb) : Brk n (.bin i a b) f (ta ++ S4 i :: tb)
  | brk {n f : Nat} {t : T} {tk : List Str} (h : Brk n t 0 tk) : Brk (n + 1) t f ((("(" : Str) :: tk) ++ [(")" : Str)])
def notMul (x : Str) : Prop := x ≠ "*" ∧ x ≠ "/"
def notAdd (x : Str) : Prop := x ≠ "+" ∧ x ≠ "-"
theorem Brk.mono {n m f : Nat} {t : T} {tk : List Str} (h : Brk n t f tk) (hm : n ≤ m) : Brk m t f tk := by
  induction h generalizing m with
  | leaf h => exact .leaf h
  | bin hi hf _ _ ia ib => exact .bin hi hf (ia hm) (ib hm)
  | brk _ ih =>
    cases m with
    | zero => omega
    | succ m => exact .brk (ih (by omega))
section
variable {ms : List Str} {k : Nat}
abbrev un (ms : List Str) (k : Nat) : Ps := rUnit ms (inner ms k)
abbrev pr (ms : List Str) (k : Nat) : Ps := rProd ms (inner ms k)
theorem pr_eq (p : Nat) : pr ms k p = (un ms k p).bind fun q => lpF ms 2 (un ms k) q.1 q.2 := rfl
theorem tm_eq (p : Nat) : rTerm ms k p = (pr ms k p).bind fun q => lpF ms 0 (pr ms k) q.1 q.2 := by
  rw [rTerm_eq]
  rfl
theorem S4_cases {i : Nat} (hi : i < 4) : (i = 0 ∧ S4 i = "+") ∨ (i = 1 ∧ S4 i = "-") ∨ (i = 2 ∧ S4 i = "*") ∨ (i = 3 ∧ S4 i = "/") := by
  have h : i = 0 ∨ i = 1 ∨ i = 2 ∨ i = 3 := by omega
  rcases h with rfl | rfl | rfl | rfl
  · exact .inl ⟨rfl, rfl⟩
  · exact .inr (.inl ⟨rfl, rfl⟩)
  · exact .inr (.inr (.inl ⟨rfl, rfl⟩))
  · exact .inr (.inr (.inr ⟨rfl, rfl⟩))
theorem S4_br {i : Nat} (hi : i < 4) : S4 i ≠ "[" := by
  rcases S4_cases hi with ⟨_, e⟩ | ⟨_, e⟩ | ⟨_, e⟩ | ⟨_, e⟩ <;> (rw [e]; decide)
/-- one turn of a loop of signs -/
theorem lp_turn {i j : Nat} (hj : j = 0 ∨ j = 2) (hi : i = j ∨ i = j + 1) {f : Ps} (hf : Mono f) {t : T} {p : Nat} (h : now ms p = S4 i) : lpF ms j f t p = (f (p + 1)).bind fun q => lpF ms j f (.bin i t q.1) q.2 := by
  rcases hi with rfl | rfl
  · exact lpF_one (by omega) hf h
  · refine lpF_two (by omega) hf ?_ h
    rw [h]
    rcases hj with rfl | rfl <;> decide
theorem brk_read {n f : Nat} {t : T} {tk : List Str} (h : Brk n t f tk) : ∀ {ms : List Str} {p k : Nat}, n ≤ k → At ms p tk → now ms (p + tk.length) ≠ "[" →
    (3 ≤ f → un ms k p = some (t, p + tk.length)) ∧
    (2 ≤ f → (un ms k p).bind (fun q => lpF ms 2 (un ms k) q.1 q.2) = lpF ms 2 (un ms k) t (p + tk.length)) ∧
    (notMul (now ms (p + tk.length)) → (pr ms k p).bind (fun q => lpF ms 0 (pr ms k) q.1 q.2) = lpF ms 0 (pr ms k) t (p + tk.length)) := by
  have unit : ∀ {ms : List Str} {p k : Nat} {t : T} {l : Nat}, un ms k p = some (t, p + l) → (3 ≤ f → un ms k p = some (t, p + l)) ∧
      (2 ≤ f → (un ms k p).bind (fun q => lpF ms 2 (un ms k) q.1 q.2) = lpF ms 2 (un ms k) t (p + l)) ∧
      (notMul (now ms (p + l)) → (pr ms k p).bind (fun q => lpF ms 0 (pr ms k) q.1 q.2) = lpF ms 0 (pr ms k) t (p + l)) := fun {ms p k t l} e => by
    refine ⟨fun _ => e, fun _ => by rw [e]; rfl, fun hn => ?_⟩
    rw [pr_eq, e]
    simp only [Option.bind_some]
    rw [lpF_end (show now ms (p + l) ≠ S4 2 from hn.1) (show now ms (p + l) ≠ S4 3 from hn.2)]
    rfl
  clear unit
  induction h with
  | leaf h =>
    intro ms p k _ ha hb
    have e := h ms p k ha hb
    refine ⟨fun _ => e, fun _ => by rw [show un ms k p = _ from e]; rfl, fun hn => ?_⟩
    rw [pr_eq, show un ms k p = _ from e]
    simp only [Option.bind_some]
    rw [lpF_end (show now ms _ ≠ S4 2 from hn.1) (show now ms _ ≠ S4 3 from hn.2)]
    rfl
  | @bin n f i a b ta tb hi hf _ _ ia ib =>
    intro ms p k hk hA hB
    have a1 := hA.app1
    have a2 := hA.app2
    have hs : now ms (p + ta.length) = S4 i := a2.head
    have a3 : At ms (p + ta.length + 1) tb := by
      have := At.app2 (a := [S4 i]) (b := tb) a2
      exact this
    have el : p + (ta ++ S4 i :: tb).length = p + ta.length + 1 + tb.length := by
      rw [List.length_append, List.length_cons]
      omega
    rw [el] at hB ⊢
    obtain ⟨_, i2, i1⟩ := ia (ms := ms) (p := p) (k := k) hk a1 (by rw [hs]; exact S4_br hi)
    obtain ⟨j3, j2, j1⟩ := ib (ms := ms) (p := p + ta.length + 1) (k := k) hk a3 hB
    by_cases hr : i < 2
    · have e : rk i = 1 := if_pos hr
      rw [e] at hf i2 j3 j2
      refine ⟨fun z => by omega, fun z => by omega, fun hn => ?_⟩
      have hm : notMul (now ms (p + ta.length)) := by
        rw [hs]
        rcases S4_cases hi with ⟨_, e⟩ | ⟨_, e⟩ | ⟨z, _⟩ | ⟨z, _⟩
        · rw [e]; exact ⟨by decide, by decide⟩
        · rw [e]; exact ⟨by decide, by decide⟩
        · omega
        · omega
      rw [i1 hm, lp_turn (j := 0) (.inl rfl) (by omega) (f := pr ms k) (prod_mono k) hs, pr_eq, j2 (by omega)]
      rw [lpF_end (show now ms _ ≠ S4 2 from hn.1) (show now ms _ ≠ S4 3 from hn.2)]
      rfl
    · have e : rk i = 2 := if_neg hr
      rw [e] at hf i2 j3 j2
      have key : (un ms k p).bind (fun q => lpF ms 2 (un ms k) q.1 q.2) = lpF ms 2 (un ms k) (.bin i a b) (p + ta.length + 1 + tb.length) := by
        rw [i2 (by omega), lp_turn (j := 2) (.inr rfl) (by omega) (f := un ms k) (unit_mono k) hs, j3 (by omega)]
        rfl
      refine ⟨fun z => by omega, fun _ => key, fun hn => ?_⟩
      rw [pr_eq, key, lpF_end (show now ms _ ≠ S4 2 from hn.1) (show now ms _ ≠ S4 3 from hn.2)]
      rfl
  | @brk n f t tk _ ih =>
    intro ms p k hk hA hB
    cases k with
    | zero => omega
    | succ k =>
    have h0 : now ms p = "(" := hA.head
    have a1 : At ms (p + 1) (tk ++ [(")" : Str)]) := At.app2 (a := [("(" : Str)]) (b := tk ++ [(")" : Str)]) hA
    have a2 : now ms (p + 1 + tk.length) = ")" := (At.app2 a1).head
    have el : p + ((("(" : Str) :: tk) ++ [(")" : Str)]).length = p + 1 + tk.length + 1 := by
      rw [List.length_append, List.length_cons, List.length_singleton]
      omega
    rw [el] at hB ⊢
    obtain ⟨_, _, i1⟩ := ih (ms := ms) (p := p + 1) (k := k) (by omega) a1.app1 (by rw [a2]; decide)
    have e : un ms (k + 1) p = some (t, p + 1 + tk.length + 1) := by
      show rUnit ms (inner ms (k + 1)) p = _
      unfold rUnit
      rw [if_pos h0]
      show (rTerm ms k (p + 1)).bind _ = _
      rw [tm_eq, i1 (by rw [a2]; exact ⟨by decide, by decide⟩), lpF_end (by rw [a2]; decide) (by rw [a2]; decide)]
      simp only [Option.bind_some]
      have em : must ms ")" (p + 1 + tk.length) = some (p + 1 + tk.length + 1) := if_pos a2
      rw [em]
      rfl
    refine ⟨fun _ => e, fun _ => by rw [e]; rfl, fun hn => ?_⟩
    rw [pr_eq, e]
    simp only [Option.bind_some]
    rw [lpF_end (show now ms _ ≠ S4 2 from hn.1) (show now ms _ ≠ S4 3 from hn.2)]
    rfl
/-- a term is read back from its marks -/
theorem brk_term {n f : Nat} {t : T} {tk : List Str} (h : Brk n t f tk) {ms : List Str} {p k : Nat} (hn : n ≤ k) (ha : At ms p tk) (h1 : now ms (p + tk.length) ≠ "[") (h2 : notMul (now ms (p + tk.length))) (h3 : notAdd (now ms (p + tk.length))) : rTerm ms k p = some (t, p + tk.length) := by
  rw [tm_eq, (brk_read h hn ha h1).2.2 h2, lpF_end (show now ms _ ≠ S4 0 from h3.1) (show now ms _ ≠ S4 1 from h3.2)]
end
end Rd

namespace Lw
open PySem PySem.Spec PyProof.Rows L2 Fw Htx Ob Tx Rd Lk
local macro_rules | `(tactic| walk_at "cond") => `(tactic| first | assumption | (with_reducible exact cdiv_small (by omega) (by omega)) | (with_reducible exact cmul_small (by omega) (by omega)) | (with_reducible exact cpow_mk (by omega) (by omega) (by omega)) | omega)
local macro_rules | `(tactic| walk_at "ne") => `(tactic| first | assumption | exact Ne.symm (by assumption) | exact ne_of_none (by assumption) (by assumption) | exact Ne.symm (ne_of_none (by assumption) (by assumption)))
local macro_rules | `(tactic| walk_at "at") => `(tactic| first
  | assumption
  | (with_reducible exact upd_same)
  | ((with_reducible refine' at_same ?hk ?hh); (case hk => assumption); (case hh => walk_at "at"))
  | ((with_reducible refine' at_keepT ?hk ?hh ?hd); (case hk => assumption); (case hh => walk_at "at"); (case hd => walk_at "at"))
  | ((with_reducible refine' at_keep ?hk ?hh ?hn); (case hk => assumption); (case hh => walk_at "at"); (case hn => walk_at "ne")))
local macro_rules | `(tactic| walk_at "hp") => `(tactic| first
  | assumption
  | (with_reducible exact FrL.sql (by assumption))
  | ((with_reducible refine' SqT.of ?hq); (case hq => walk_at "at")) | ((with_reducible refine' SqL.of ?hq); (case hq => walk_at "at"))
  | ((with_reducible refine' sql_same ?hk ?hh); (case hk => assumption); (case hh => walk_at "hp"))
  | ((with_reducible refine' sql_keep ?hk ?hh ?hn); (case hk => assumption); (case hh => walk_at "hp"); (case hn => walk_at "ne"))
  | ((with_reducible refine' sqt_same ?hk ?hh); (case hk => assumption); (case hh => walk_at "hp")))
local macro_rules | `(tactic| walk_at "wp1") => `(tactic| first
  | with_reducible refine w_mt ?_ | ((with_reducible refine' w_mt1 ?ha ?hl ?_); (case ha => walk_at "at"); (case hl => rfl))
  | with_reducible refine w_fld ?_ | ((with_reducible refine' w_fld1 ?ha (ClsF.cl (cs := clsL) (as := attL) (by assumption) _ ?hc) (ClsF.no (cs := clsL) (as := attL) (by assumption) _ _ ?hn) ?hl ?_); (case ha => walk_at "at"); (case hc => decide +kernel); (case hn => decide +kernel); (case hl => rfl))
  | with_reducible refine w_sfld ?_ | ((with_reducible refine' w_sfld1 ?ha (ClsF.cl (cs := clsL) (as := attL) (by assumption) _ ?hc) (ClsF.no (cs := clsL) (as := attL) (by assumption) _ _ ?hn) ?he ?hl ?_); (case ha => walk_at "at"); (case hc => decide +kernel); (case hn => decide +kernel); (case he => rfl); (case hl => rfl))
  | with_reducible refine w_lk ?_ | ((with_reducible refine' lkL ?ha ?_); (case ha => walk_at "at")) | with_reducible refine w_mkS ?_ | with_reducible refine w_mk ?_ | with_reducible refine w_bas ?_ | with_reducible refine w_m1 ?_ | with_reducible refine w_isS ?_ | with_reducible refine w_bm0 ?_ | with_reducible refine w_iS ?_ | with_reducible refine w_chain ?_
  | with_reducible refine w_inSg ?_ | with_reducible refine w_ninSg ?_
  | with_reducible refine w_rz ?_ | with_reducible refine w_calX ?_ | with_reducible refine w_calS ?_ | with_reducible refine w_row ?_
  | with_reducible refine w_seq ?_ | with_reducible refine w_set ?_ | with_reducible refine w_drop ?_ | with_reducible refine w_ret ?_ | with_reducible refine w_ifS ?_ | with_reducible refine w_next ?_
  | ((with_reducible refine' w_var ?hv ?_); (case hv => rfl)) | with_reducible refine w_c ?_
  | with_reducible refine w_op ?_ | with_reducible refine w_un ?_ | with_reducible refine w_cb ?_ | with_reducible refine w_cal ?_ | with_reducible refine w_cons ?_ | with_reducible refine w_nil ?_
  | with_reducible refine w_plus ?_ | with_reducible refine w_minus ?_ | with_reducible refine w_lt ?_ | with_reducible refine w_le ?_ | with_reducible refine w_gt ?_ | with_reducible refine w_ge ?_
  | with_reducible refine w_eqI ?_ | with_reducible refine w_neI ?_ | with_reducible refine w_eqB ?_ | with_reducible refine w_neB ?_ | with_reducible refine w_eqS ?_ | with_reducible refine w_neS ?_
  | with_reducible refine w_neg ?_ | with_reducible refine w_abs ?_ | with_reducible refine w_intB ?_ | with_reducible refine w_test ?_ | with_reducible refine w_tB ?_ | with_reducible refine w_bl ?_
  | with_reducible refine w_and ?_ | with_reducible refine w_or ?_ | with_reducible refine w_not ?_ | with_reducible refine w_andV ?_ | with_reducible refine w_orV ?_ | with_reducible refine w_notV ?_ | with_reducible refine w_ifE ?_
  | with_reducible refine w_nyes ?_ | with_reducible refine w_nno ?_ | with_reducible refine w_yes ?_ | with_reducible refine w_no ?_
  | ((with_reducible refine' w_ixL ?ha ?hb ?_); (case ha => walk_at "hp"); (case hb => rfl)) | ((with_reducible refine' w_ixT ?ha ?hb ?_); (case ha => walk_at "hp"); (case hb => rfl))
  | ((with_reducible refine' w_lenL ?ha ?_); (case ha => walk_at "hp")) | ((with_reducible refine' w_lenT ?ha ?_); (case ha => walk_at "hp"))
  | with_reducible refine w_min2 ?_ | with_reducible refine w_max2 ?_ | with_reducible refine w_bm ?_ | with_reducible refine w_lc ?_ | ((with_reducible refine' w_tyL ?ha ?_); (case ha => walk_at "at"))
  | with_reducible refine isi_ii ?_ | with_reducible refine isi_ib ?_ | with_reducible refine isi_bb ?_ | with_reducible refine isi_ss ?_
  | ((with_reducible refine' isi_tt ?ha ?_); (case ha => walk_at "at")) | ((with_reducible refine' isi_ll ?ha ?_); (case ha => walk_at "at"))
  | with_reducible refine w_par ?_ | with_reducible refine w_par2 ?_ | with_reducible refine w_for ?_ | with_reducible refine w_iL ?_ | with_reducible refine w_iT ?_ | with_reducible refine w_iR1 ?_ | with_reducible refine w_iR2 ?_
  | with_reducible refine w_tup ?_ | with_reducible refine w_lst ?_
  | with_reducible refine w_asg ?_ | with_reducible refine w_gname ?_ | with_reducible refine w_gcons ?_ | with_reducible refine w_gnil ?_ | with_reducible refine w_gsub ?_
  | ((with_reducible refine' w_gtup ?ha ?hb ?_); (case ha => walk_at "hp"); (case hb => rfl))
  | ((with_reducible refine' w_fdiv ?hc ?_); (case hc => walk_at "cond")) | ((with_reducible refine' w_mul ?hc ?_); (case hc => walk_at "cond"))
  | ((with_reducible refine' w_mod ?hc ?_); (case hc => walk_at "cond")) | ((with_reducible refine' w_pow ?hc ?_); (case hc => walk_at "cond")))
local macro_rules | `(tactic| walk_at "wp") => `(tactic| repeat walk_at "wp1")
section
variable {P : Program} {w : World} {K : PySem.W.Frag} {mg : Str → Option Value} {base : Heap}
/-! ### texts of rows: plain -/
theorem ahead_eq (z : Str) : aheadM z = (z.cps.toList.takeWhile fun c => decide (c = 32)).length := by
  unfold aheadM Txt.lstripChars
  rw [PyProof.Rows.stripBy_eq]
  have e1 : stripLo (Str.ofString " ").cps.contains true z = (z.cps.toList.takeWhile fun c => decide (c = 32)).length := by
    unfold stripLo
    rw [if_pos rfl]
    congr 1
    congr 1
    funext c
    have : (Str.ofString " ").cps = #[32] := by decide +kernel
    rw [this]
    by_cases h : c = 32
    · subst h
      decide +kernel
    · rw [decide_eq_false h]
      simp [h]
  have e2 : stripHi (Str.ofString " ").cps.contains false z (stripLo (Str.ofString " ").cps.contains true z) = z.length := rfl
  rw [e2, e1]
  have hl : (z.cps.toList.takeWhile fun c => decide (c = 32)).length ≤ z.length := by
    have := (List.takeWhile_sublist (fun c => decide (c = 32)) (l := z.cps.toList)).length_le
    simpa [Str.length] using this
  have e3 : ∀ (i : Nat), (Builtin.Str.strSub z i z.length).length = z.length - i := fun i => by
    show (z.cps.extract i z.cps.size).size = _
    rw [Array.size_extract]
    simp [Str.length]
  rw [e3]
  omega
theorem depth_of_ahead {z : Str} {d : Nat} (h : (z.cps.toList.takeWhile fun c => decide (c = 32)).length = 2 * d) (hd : d ≤ 5) : depthM z = some d := by
  unfold depthM
  rw [ahead_eq, h, if_neg (by omega)]
  congr 1
  omega
/-- blanks ahead of what does not begin with one -/
theorem take_blanks (n : Nat) : ∀ (l : List Nat), (∀ c, l.head? = some c → c ≠ 32) → ((List.replicate n 32 ++ l).takeWhile fun c => decide (c = 32)).length = n := by
  induction n with
  | zero =>
    intro l h
    cases l with
    | nil => rfl
    | cons c r =>
      have := h c rfl
      show ((c :: r).takeWhile _).length = 0
      rw [List.takeWhile_cons, if_neg (by simpa using this)]
      rfl
  | succ n ih =>
    intro l h
    show ((32 :: (List.replicate n 32 ++ l)).takeWhile _).length = n + 1
    rw [List.takeWhile_cons, if_pos (by decide), List.length_cons, ih l h]
/-! ### rows parted by line ends -/
def splitC : List Nat → List (List Nat)
  | [] => [[]]
  | c :: r => if c = 10 then [] :: splitC r else match splitC r with
    | [] => [[c]]
    | x :: xs => (c :: x) :: xs
def joinC : List (List Nat) → List Nat
  | [] => []
  | [x] => x
  | x :: r => x ++ 10 :: joinC r
theorem splitC_free : ∀ (a : List Nat), 10 ∉ a → splitC a = [a]
  | [], _ => rfl
  | c :: r, h => by
    have h1 : ¬ c = 10 := fun z => h (by rw [z]; exact List.mem_cons_self)
    have h2 := splitC_free r fun z => h (List.mem_cons_of_mem _ z)
    unfold splitC
    rw [if_neg h1, h2]
theorem splitC_cons : ∀ (a b : List Nat), 10 ∉ a → splitC (a ++ 10 :: b) = a :: splitC b
  | [], b, _ => by
    show splitC (10 :: b) = _
    rw [splitC, if_pos rfl]
  | c :: r, b, h => by
    have h1 : ¬ c = 10 := fun z => h (by rw [z]; exact List.mem_cons_self)
    have h2 := splitC_cons r b fun z => h (List.mem_cons_of_mem _ z)
    show splitC (c :: (r ++ 10 :: b)) = _
    rw [splitC, if_neg h1, h2]
theorem splitC_join : ∀ (ls : List (List Nat)), ls ≠ [] → (∀ l ∈ ls, 10 ∉ l) → splitC (joinC ls) = ls
  | [], h, _ => absurd rfl h
  | [x], _, h => splitC_free x (h x List.mem_cons_self)
  | x :: y :: r, _, h => by
    show splitC (x ++ 10 :: joinC (y :: r)) = _
    rw [splitC_cons _ _ (h x List.mem_cons_self), splitC_join (y :: r) (List.cons_ne_nil _ _) fun l hl => h l (List.mem_cons_of_mem _ hl)]
theorem join_list : ∀ (ls : List Str), (Str.join "\n" ls).cps.toList = joinC (ls.map fun y => y.cps.toList)
  | [] => rfl
  | [x] => rfl
  | x :: y :: r => by
    have ih := join_list (y :: r)
    show (x ++ "\n" ++ Str.join "\n" (y :: r)).cps.toList = x.cps.toList ++ 10 :: joinC ((y :: r).map _)
    rw [cat_list, cat_list, ih]
    have e : (Str.ofString "\n").cps.toList = [10] := by decide +kernel
    rw [e, List.append_assoc]
    rfl
theorem mk_list (z : Str) : mk z.cps.toList = z := by
  obtain ⟨⟨l⟩⟩ := z
  rfl
theorem split_eq (z : Str) : (Txt.split z "\n").map (fun y => y.cps.toList) = splitC z.cps.toList := by
  have e0 : (Str.ofString "\n") = ⟨#[10]⟩ := by decide +kernel
  have h1 := StrLaws.join_split z (Str.ofString "\n")
  have h2 : ∀ p ∈ Txt.split z (Str.ofString "\n"), 10 ∉ p.cps.toList := by
    rw [e0]
    exact StrLaws.split_free z 10
  have h3 : Txt.split z (Str.ofString "\n") ≠ [] := fun z' => by
    have := PyProof.Rows.split_pos z (Str.ofString "\n")
    rw [z'] at this
    exact absurd this (by decide)
  conv => rhs; rw [← h1, join_list]
  rw [splitC_join _ (fun z => h3 (List.map_eq_nil_iff.mp z)) (fun l hl => by
    obtain ⟨p, hp, rfl⟩ := List.mem_map.mp hl
    exact h2 p hp)]
theorem split_ne (z : Str) : Txt.split z "\n" ≠ [] := fun z' => by
  have := PyProof.Rows.split_pos z (Str.ofString "\n")
  rw [z'] at this
  exact absurd this (by decide)
/-- a text of rows is parted into them -/
theorem split_rows {z : Str} {ls : List Str} (h : z.cps.toList = joinC (ls.map fun y => y.cps.toList)) (hn : ls ≠ []) (hf : ∀ y ∈ ls, 10 ∉ y.cps.toList) : Txt.split z "\n" = ls := by
  have e := split_eq z
  rw [h, splitC_join _ (fun z => hn (List.map_eq_nil_iff.mp z)) (fun l hl => by
    obtain ⟨p, hp, rfl⟩ := List.mem_map.mp hl
    exact hf p hp)] at e
  have inj : ∀ (a b : List Str), a.map (fun y => y.cps.toList) = b.map (fun y => y.cps.toList) → a = b := by
    intro a
    induction a with
    | nil => intro b h; cases b with
      | nil => rfl
      | cons _ _ => cases h
    | cons x a ih => intro b h; cases b with
      | nil => cases h
      | cons y b =>
        simp only [List.map_cons, List.cons.injEq] at h
        rw [ih b h.2, ← mk_list x, ← mk_list y, h.1]
  exact inj _ _ e
theorem split_bounds {z : Str} (h : z.length ≤ 10000) : (Txt.split z "\n").length ≤ 20000 ∧ ∀ y ∈ Txt.split z "\n", y.length ≤ 10000 := by
  have h1 := PyProof.Rows.split_weight z (Str.ofString "\n") (by decide +kernel)
  have h2 : ∀ (l : List Nat) (y : Nat), y ∈ l → y ≤ l.sum := by
    intro l
    induction l with
    | nil => intro y hy; cases hy
    | cons a l ih =>
      intro y hy
      rw [List.sum_cons]
      rcases List.mem_cons.mp hy with rfl | hy
      · omega
      · have := ih y hy
        omega
  have h3 := PyProof.Rows.split_pos z (Str.ofString "\n")
  refine ⟨by omega, fun y hy => ?_⟩
  have := h2 ((Txt.split z (Str.ofString "\n")).map (·.length)) y.length (List.mem_map.mpr ⟨y, hy, rfl⟩)
  omega
/-! ### messy terms -/
def Small (x : Str) : Prop := x ≠ "" ∧ ∀ c ∈ x.cps.toList, c ∈ smallL
/-- a name of the language -/
def Nm (x : Str) : Prop := isName x = true ∧ ∀ c ∈ x.cps.toList, c ∈ smallL
theorem Nm.ne {x : Str} (h : Nm x) : x.cps.toList ≠ [] := by
  have h1 := h.1
  unfold isName at h1
  simp only [Bool.and_eq_true, decide_eq_true_eq] at h1
  exact ne_list h1.1
theorem Nm.len {x : Str} (h : Nm x) : x.length ≤ 8 := by
  have h1 := h.1
  unfold isName at h1
  simp only [Bool.and_eq_true, decide_eq_true_eq] at h1
  exact h1.2.2.1
theorem Nm.word {x : Str} (h : Nm x) : x ∉ wordsL := by
  have h1 := h.1
  unfold isName at h1
  simp only [Bool.and_eq_true, decide_eq_true_eq, Bool.not_eq_true', decide_eq_false_iff_not] at h1
  exact h1.2.2.2
theorem Nm.first {x : Str} (h : Nm x) : x.cps.toList.getD 0 0 ∈ smallL := by
  have h1 := h.1
  unfold isName at h1
  simp only [Bool.and_eq_true, decide_eq_true_eq] at h1
  exact h1.2.1
theorem numVal_none {x : Str} (h : x.cps.toList.getD 0 0 ∈ smallL) : numVal x = none := by
  cases e : numVal x with
  | none => rfl
  | some n =>
    obtain ⟨hn, rfl⟩ := numVal_some e
    have : ∀ n ∈ List.range 100, (toString n : Str).cps.toList.getD 0 0 ∉ smallL := by decide +kernel
    exact absurd h (this n (List.mem_range.mpr hn))
theorem ne_sign {x : Str} {c : Nat} (h : x.cps.toList.getD 0 0 ∈ smallL) (hc : c ∉ smallL) : x ≠ one c := fun z => by
  rw [z] at h
  exact hc h
theorem leaf_name {x : Str} (h : Nm x) : LeafP (.kn x none) [x] := fun ms p k ha hb => by
  have h0 : now ms p = x := ha.head
  have h1 : now ms (p + 1) ≠ "[" := hb
  unfold rUnit
  have n1 : now ms p ≠ "(" := by
    rw [h0]
    exact ne_sign (c := 40) h.first (by decide +kernel)
  rw [if_neg n1, if_neg (by rw [h0, numVal_none h.first]; decide)]
  unfold rKnown rName
  rw [h0, if_pos h.1]
  simp only [Option.bind_some]
  rw [if_neg h1]
  rfl
theorem numVal_to {n : Nat} (h : n < 100) : numVal (toString n : Str) = some n := by
  have : ∀ n ∈ List.range 100, numVal (toString n : Str) = some n := by decide +kernel
  exact this n (List.mem_range.mpr h)
theorem num_signs : ∀ n ∈ List.range 100, (toString n : Str) ≠ "(" ∧ (toString n : Str).cps.toList ≠ [] ∧ ∀ c ∈ (toString n : Str).cps.toList, c ∈ figL := by decide +kernel
theorem leaf_num {n : Nat} (h : n < 100) : LeafP (.num n) [(toString n : Str)] := fun ms p k ha hb => by
  have h0 : now ms p = (toString n : Str) := ha.head
  unfold rUnit
  rw [if_neg (by rw [h0]; exact (num_signs n (List.mem_range.mpr h)).1), if_pos (by rw [h0, numVal_to h]; rfl)]
  unfold rWhole
  rw [h0, numVal_to h]
  simp only [Option.bind_some]
  rw [if_pos (by omega)]
  rfl
def bl (n : Nat) : List Pc := List.replicate n .b
def sgC (i : Nat) : Nat := [43, 45, 42, 47].getD i 0
theorem sgC_S4 {i : Nat} (h : i < 4) : one (sgC i) = S4 i ∧ sgC i ∈ signL := by
  have h : i = 0 ∨ i = 1 ∨ i = 2 ∨ i = 3 := by omega
  rcases h with rfl | rfl | rfl | rfl <;> decide +kernel
/-- pieces of a term; at most n brackets within one another -/
inductive Msy : Nat → Rd.T → Nat → List Pc → Prop
  | leaf {n f : Nat} {t : Rd.T} {ps : List Pc} (ok : okP none ps) (h : LeafP t (marksP ps)) (nm : ∀ l, Pc.w l ∈ ps → Nm (mk l)) : Msy n t f ps
  | bin {n f i : Nat} {a b : Rd.T} {pa pb : List Pc} (u v : Nat) (hi : i < 4) (hf : f ≤ rk i) (ha : Msy n a (rk i) pa) (hb : Msy n b (rk i + 1) pb) : Msy n (.bin i a b) f (pa ++ (bl u ++ (.s (sgC i) :: (bl v ++ pb))))
  | brk {n f : Nat} {t : Rd.T} {ps : List Pc} (u v : Nat) (h : Msy n t 0 ps) : Msy (n + 1) t f (.s 40 :: (bl u ++ (ps ++ (bl v ++ [.s 41]))))
theorem okP_bl {g : Option Nat} {n : Nat} {ps : List Pc} (h : okP none ps) (hs : n = 0 → Soft ps) : okP g (bl n ++ ps) := by
  cases n with
  | zero => exact (hs rfl).ok h
  | succ n =>
    show okP none (bl n ++ ps)
    clear hs
    induction n with
    | zero => exact h
    | succ n ih => exact ih
theorem okP_bl0 {n : Nat} {ps : List Pc} (h : okP none ps) : okP none (bl n ++ ps) := by
  induction n with
  | zero => exact h
  | succ n ih => exact ih
theorem Soft.bl {n : Nat} {ps : List Pc} (h : Soft ps) : Soft (bl n ++ ps) := by
  cases n with
  | zero => exact h
  | succ n => exact trivial
theorem marks_bl {n : Nat} {ps : List Pc} : marksP (bl n ++ ps) = marksP ps := by
  induction n with
  | zero => rfl
  | succ n ih => exact ih
theorem mem_bl {n : Nat} {p : Pc} (h : p ∈ bl n) : p = .b := List.eq_of_mem_replicate h
theorem Msy.ok {n f : Nat} {t : Rd.T} {ps : List Pc} (h : Msy n t f ps) : okP none ps ∧ Brk n t f (marksP ps) ∧ ∀ l, Pc.w l ∈ ps → Nm (mk l) := by
  induction h with
  | leaf ok h nm => exact ⟨ok, .leaf h, nm⟩
  | @bin n f i a b pa pb u v hi hf _ _ ia ib =>
    obtain ⟨e1, e2⟩ := sgC_S4 hi
    refine ⟨okP_soft ia.1 (okP_bl0 ⟨e2, okP_bl0 ib.1⟩) (Soft.bl trivial), ?_, fun l hl => ?_⟩
    · rw [marksP_append, marks_bl]
      show Brk n (.bin i a b) f (marksP pa ++ one (sgC i) :: marksP (bl v ++ pb))
      rw [marks_bl, e1]
      exact .bin hi hf ia.2.1 ib.2.1
    · rcases List.mem_append.mp hl with hl | hl
      · exact ia.2.2 l hl
      · rcases List.mem_append.mp hl with hl | hl
        · cases mem_bl hl
        · rcases List.mem_cons.mp hl with hl | hl
          · cases hl
          · rcases List.mem_append.mp hl with hl | hl
            · cases mem_bl hl
            · exact ib.2.2 l hl
  | @brk n f t ps u v _ ih =>
    refine ⟨⟨by decide +kernel, okP_bl0 (okP_soft ih.1 (okP_bl0 ⟨by decide +kernel, trivial⟩) (Soft.bl trivial))⟩, ?_, fun l hl => ?_⟩
    · show Brk (n + 1) t f (one 40 :: marksP (bl u ++ (ps ++ (bl v ++ [.s 41]))))
      rw [marks_bl, marksP_append, marks_bl]
      exact .brk ih.2.1
    · rcases List.mem_cons.mp hl with hl | hl
      · cases hl
      · rcases List.mem_append.mp hl with hl | hl
        · cases mem_bl hl
        · rcases List.mem_append.mp hl with hl | hl
          · exact ih.2.2 l hl
          · rcases List.mem_append.mp hl with hl | hl
            · cases mem_bl hl
            · cases List.mem_singleton.mp hl
theorem Msy.mono {n m f : Nat} {t : Rd.T} {ps : List Pc} (h : Msy n t f ps) (hm : n ≤ m) : Msy m t f ps := by
  induction h generalizing m with
  | leaf ok h nm => exact .leaf ok h nm
  | bin u v hi hf _ _ ia ib => exact .bin u v hi hf (ia hm) (ib hm)
  | brk u v _ ih =>
    cases m with
    | zero => omega
    | succ m => exact .brk u v (ih (by omega))
theorem Msy.firm0 {n f g : Nat} {t : Rd.T} {ps : List Pc} (h : Msy n t f ps) (hg : g ≤ f) : Msy n t g ps := by
  cases h with
  | leaf ok h nm => exact .leaf ok h nm
  | bin u v hi hf a b => exact .bin u v hi (by omega) a b
  | brk u v h => exact .brk u v h
theorem flat_bl (n : Nat) : flat (bl n) = List.replicate n 32 := by
  induction n with
  | zero => rfl
  | succ n ih =>
    show 32 :: flat (bl n) = 32 :: List.replicate n 32
    rw [ih]
/-- names and numbers as they may be drawn -/
def TGood : Rd.T → Prop
  | .num n => n < 100
  | .kn x none => Nm x
  | .kn _ (some _) => False
  | .bin i a b => i < 4 ∧ TGood a ∧ TGood b
theorem TGood.ok : ∀ {t : Rd.T}, TGood t → TOk t
  | .num n, h => by
    show n < 1000
    have : n < 100 := h
    omega
  | .kn x none, h => by
    show x.length ≤ 100
    have := Nm.len h
    omega
  | .kn x (some q), h => h.elim
  | .bin i a b, h => ⟨h.1, TGood.ok h.2.1, TGood.ok h.2.2⟩
theorem leafN {n f : Nat} {x : Str} (h : Nm x) : Msy n (.kn x none) f [.w x.cps.toList] := by
  refine .leaf ⟨(fun z => nomatch z), h.ne, h.2, trivial⟩ ?_ (fun l hl => ?_)
  · show LeafP _ [mk x.cps.toList]
    rw [mk_list]
    exact leaf_name h
  · cases List.mem_singleton.mp hl
    rw [mk_list]
    exact h
theorem leafD {n f m : Nat} (h : m < 100) : Msy n (.num m) f [.d (toString m : Str).cps.toList] := by
  obtain ⟨h1, h2, h3⟩ := num_signs m (List.mem_range.mpr h)
  refine .leaf ⟨(fun z => nomatch z), h2, h3, trivial⟩ ?_ (fun l hl => by cases List.mem_singleton.mp hl)
  show LeafP _ [mk (toString m : Str).cps.toList]
  rw [mk_list]
  exact leaf_num h
theorem str_nat_int (n : Nat) : (toString (n : Int) : Str) = (toString n : Str) := rfl
/-- what a term tells is a text of it -/
theorem told_msy : ∀ {t : Rd.T}, TGood t → ∀ f, f ≤ 3 → ∃ ps, flat ps = (t.bnd f).cps.toList ∧ Msy (t.depth - 1) t f ps ∧ (marksP ps).length + 3 ≤ 4 * t.leaves
  | .num n, h, f, hf => by
    refine ⟨_, ?_, leafD h, Nat.le_refl _⟩
    have e : Rd.T.bnd (.num n) f = (toString n : Str) := by
      show Rd.T.brk (decide (3 < f)) _ = _
      rw [decide_eq_false (by omega)]
      rfl
    rw [e]
    show _ ++ [] = _
    rw [List.append_nil]
    rfl
  | .kn x none, h, f, hf => by
    refine ⟨_, ?_, leafN h, Nat.le_refl _⟩
    have e : Rd.T.bnd (.kn x none) f = x := by
      show Rd.T.brk (decide (3 < f)) _ = _
      rw [decide_eq_false (by omega)]
      rfl
    rw [e]
    show _ ++ [] = _
    rw [List.append_nil]
    rfl
  | .kn x (some q), h, _, _ => h.elim
  | .bin i a b, h, f, hf => by
    obtain ⟨hi, ga, gb⟩ := h
    have hr : rk i = 1 ∨ rk i = 2 := by
      unfold rk
      split
      · exact .inl rfl
      · exact .inr rfl
    obtain ⟨pa, fa, ma, la⟩ := told_msy ga (rk i) (by omega)
    obtain ⟨pb, fb, mb, lb⟩ := told_msy gb (rk i + 1) (by omega)
    obtain ⟨e1, e2⟩ := sgC_S4 hi
    have da := Rd.T.depth_pos a
    have db := Rd.T.depth_pos b
    have base : Msy (max a.depth b.depth - 1) (.bin i a b) (rk i) (pa ++ (bl 1 ++ (.s (sgC i) :: (bl 1 ++ pb)))) := .bin 1 1 hi (Nat.le_refl _) (ma.mono (by omega)) (mb.mono (by omega))
    have ebl : (Str.ofString " ").cps.toList = [32] := by decide +kernel
    have fbase : flat (pa ++ (bl 1 ++ (.s (sgC i) :: (bl 1 ++ pb)))) = (Rd.T.told (.bin i a b)).cps.toList := by
      show _ = (Rd.T.brk (decide (a.rank < rk i)) a.told ++ " " ++ S4 i ++ " " ++ Rd.T.brk (decide (b.rank < rk i + 1)) b.told).cps.toList
      rw [cat_list, cat_list, cat_list, cat_list, ebl, ← e1, one_list, flat_append, fa]
      have ef : flat (bl 1 ++ (.s (sgC i) :: (bl 1 ++ pb))) = 32 :: sgC i :: 32 :: flat pb := rfl
      rw [ef, fb]
      unfold Rd.T.bnd
      simp only [List.append_assoc, List.singleton_append, List.cons_append, List.nil_append]
    have lbase : (marksP (pa ++ (bl 1 ++ (.s (sgC i) :: (bl 1 ++ pb))))).length + 5 ≤ 4 * (a.leaves + b.leaves) := by
      rw [marksP_append, marks_bl, List.length_append]
      show (marksP pa).length + (marksP (bl 1 ++ pb)).length.succ + 5 ≤ _
      rw [marks_bl]
      omega
    by_cases hlt : rk i < f
    · refine ⟨.s 40 :: (bl 0 ++ ((pa ++ (bl 1 ++ (.s (sgC i) :: (bl 1 ++ pb)))) ++ (bl 0 ++ [.s 41]))), ?_, ?_, ?_⟩
      · have e : Rd.T.bnd (.bin i a b) f = "(" ++ Rd.T.told (.bin i a b) ++ ")" := by
          show Rd.T.brk (decide (rk i < f)) _ = _
          rw [decide_eq_true hlt]
          rfl
        have eo : (Str.ofString "(").cps.toList = [40] := by decide +kernel
        have ec : (Str.ofString ")").cps.toList = [41] := by decide +kernel
        rw [e, cat_list, cat_list, eo, ec]
        show 40 :: flat ((pa ++ (bl 1 ++ (.s (sgC i) :: (bl 1 ++ pb)))) ++ [.s 41]) = _
        rw [flat_append, fbase]
        rfl
      · have e : (Rd.T.bin i a b).depth - 1 = (max a.depth b.depth - 1) + 1 := by
          show max a.depth b.depth + 1 - 1 = _
          omega
        rw [e]
        exact .brk 0 0 (base.firm0 (Nat.zero_le _))
      · show (marksP ((pa ++ (bl 1 ++ (.s (sgC i) :: (bl 1 ++ pb)))) ++ [.s 41])).length.succ + 3 ≤ 4 * (a.leaves + b.leaves)
        rw [marksP_append, List.length_append]
        show _ + 1 + 1 + 3 ≤ _
        omega
    · refine ⟨_, ?_, (base.mono (by show _ ≤ max a.depth b.depth + 1 - 1; omega)).firm0 (by omega), ?_⟩
      · have e : Rd.T.bnd (.bin i a b) f = Rd.T.told (.bin i a b) := by
          show Rd.T.brk (decide (rk i < f)) _ = _
          rw [decide_eq_false hlt]
          rfl
        rw [e]
        exact fbase
      · show _ ≤ 4 * (a.leaves + b.leaves)
        omega
end
end Lw

namespace Lw
open PySem PySem.Spec PyProof.Rows L2 Fw Htx Ob Tx Rd Lk
local macro_rules | `(tactic| walk_at "cond") => `(tactic| first | assumption | (with_reducible exact cdiv_small (by omega) (by omega)) | (with_reducible exact cmul_small (by omega) (by omega)) | (with_reducible exact cpow_mk (by omega) (by omega) (by omega)) | omega)
local macro_rules | `(tactic| walk_at "ne") => `(tactic| first | assumption | exact Ne.symm (by assumption) | exact ne_of_none (by assumption) (by assumption) | exact Ne.symm (ne_of_none (by assumption) (by assumption)))
local macro_rules | `(tactic| walk_at "at") => `(tactic| first
  | assumption
  | (with_reducible exact upd_same)
  | ((with_reducible refine' at_same ?hk ?hh); (case hk => assumption); (case hh => walk_at "at"))
  | ((with_reducible refine' at_keepT ?hk ?hh ?hd); (case hk => assumption); (case hh => walk_at "at"); (case hd => walk_at "at"))
  | ((with_reducible refine' at_keep ?hk ?hh ?hn); (case hk => assumption); (case hh => walk_at "at"); (case hn => walk_at "ne")))
local macro_rules | `(tactic| walk_at "hp") => `(tactic| first
  | assumption
  | (with_reducible exact FrL.sql (by assumption))
  | ((with_reducible refine' SqT.of ?hq); (case hq => walk_at "at")) | ((with_reducible refine' SqL.of ?hq); (case hq => walk_at "at"))
  | ((with_reducible refine' sql_same ?hk ?hh); (case hk => assumption); (case hh => walk_at "hp"))
  | ((with_reducible refine' sql_keep ?hk ?hh ?hn); (case hk => assumption); (case hh => walk_at "hp"); (case hn => walk_at "ne"))
  | ((with_reducible refine' sqt_same ?hk ?hh); (case hk => assumption); (case hh => walk_at "hp")))
local macro_rules | `(tactic| walk_at "wp1") => `(tactic| first
  | with_reducible refine w_mt ?_ | ((with_reducible refine' w_mt1 ?ha ?hl ?_); (case ha => walk_at "at"); (case hl => rfl))
  | with_reducible refine w_fld ?_ | ((with_reducible refine' w_fld1 ?ha (ClsF.cl (cs := clsL) (as := attL) (by assumption) _ ?hc) (ClsF.no (cs := clsL) (as := attL) (by assumption) _ _ ?hn) ?hl ?_); (case ha => walk_at "at"); (case hc => decide +kernel); (case hn => decide +kernel); (case hl => rfl))
  | with_reducible refine w_sfld ?_ | ((with_reducible refine' w_sfld1 ?ha (ClsF.cl (cs := clsL) (as := attL) (by assumption) _ ?hc) (ClsF.no (cs := clsL) (as := attL) (by assumption) _ _ ?hn) ?he ?hl ?_); (case ha => walk_at "at"); (case hc => decide +kernel); (case hn => decide +kernel); (case he => rfl); (case hl => rfl))
  | with_reducible refine w_lk ?_ | ((with_reducible refine' lkL ?ha ?_); (case ha => walk_at "at")) | with_reducible refine w_mkS ?_ | with_reducible refine w_mk ?_ | with_reducible refine w_bas ?_ | with_reducible refine w_m1 ?_ | with_reducible refine w_isS ?_ | with_reducible refine w_bm0 ?_ | with_reducible refine w_iS ?_ | with_reducible refine w_chain ?_
  | with_reducible refine w_inSg ?_ | with_reducible refine w_ninSg ?_
  | with_reducible refine w_rz ?_ | with_reducible refine w_calX ?_ | with_reducible refine w_calS ?_ | with_reducible refine w_row ?_
  | with_reducible refine w_seq ?_ | with_reducible refine w_set ?_ | with_reducible refine w_drop ?_ | with_reducible refine w_ret ?_ | with_reducible refine w_ifS ?_ | with_reducible refine w_next ?_
  | ((with_reducible refine' w_var ?hv ?_); (case hv => rfl)) | with_reducible refine w_c ?_
  | with_reducible refine w_op ?_ | with_reducible refine w_un ?_ | with_reducible refine w_cb ?_ | with_reducible refine w_cal ?_ | with_reducible refine w_cons ?_ | with_reducible refine w_nil ?_
  | with_reducible refine w_plus ?_ | with_reducible refine w_minus ?_ | with_reducible refine w_lt ?_ | with_reducible refine w_le ?_ | with_reducible refine w_gt ?_ | with_reducible refine w_ge ?_
  | with_reducible refine w_eqI ?_ | with_reducible refine w_neI ?_ | with_reducible refine w_eqB ?_ | with_reducible refine w_neB ?_ | with_reducible refine w_eqS ?_ | with_reducible refine w_neS ?_
  | with_reducible refine w_neg ?_ | with_reducible refine w_abs ?_ | with_reducible refine w_intB ?_ | with_reducible refine w_test ?_ | with_reducible refine w_tB ?_ | with_reducible refine w_bl ?_
  | with_reducible refine w_and ?_ | with_reducible refine w_or ?_ | with_reducible refine w_not ?_ | with_reducible refine w_andV ?_ | with_reducible refine w_orV ?_ | with_reducible refine w_notV ?_ | with_reducible refine w_ifE ?_
  | with_reducible refine w_nyes ?_ | with_reducible refine w_nno ?_ | with_reducible refine w_yes ?_ | with_reducible refine w_no ?_
  | ((with_reducible refine' w_ixL ?ha ?hb ?_); (case ha => walk_at "hp"); (case hb => rfl)) | ((with_reducible refine' w_ixT ?ha ?hb ?_); (case ha => walk_at "hp"); (case hb => rfl))
  | ((with_reducible refine' w_lenL ?ha ?_); (case ha => walk_at "hp")) | ((with_reducible refine' w_lenT ?ha ?_); (case ha => walk_at "hp"))
  | with_reducible refine w_min2 ?_ | with_reducible refine w_max2 ?_ | with_reducible refine w_bm ?_ | with_reducible refine w_lc ?_ | ((with_reducible refine' w_tyL ?ha ?_); (case ha => walk_at "at"))
  | with_reducible refine isi_ii ?_ | with_reducible refine isi_ib ?_ | with_reducible refine isi_bb ?_ | with_reducible refine isi_ss ?_
  | ((with_reducible refine' isi_tt ?ha ?_); (case ha => walk_at "at")) | ((with_reducible refine' isi_ll ?ha ?_); (case ha => walk_at "at"))
  | with_reducible refine w_par ?_ | with_reducible refine w_par2 ?_ | with_reducible refine w_for ?_ | with_reducible refine w_iL ?_ | with_reducible refine w_iT ?_ | with_reducible refine w_iR1 ?_ | with_reducible refine w_iR2 ?_
  | with_reducible refine w_tup ?_ | with_reducible refine w_lst ?_
  | with_reducible refine w_asg ?_ | with_reducible refine w_gname ?_ | with_reducible refine w_gcons ?_ | with_reducible refine w_gnil ?_ | with_reducible refine w_gsub ?_
  | ((with_reducible refine' w_gtup ?ha ?hb ?_); (case ha => walk_at "hp"); (case hb => rfl))
  | ((with_reducible refine' w_fdiv ?hc ?_); (case hc => walk_at "cond")) | ((with_reducible refine' w_mul ?hc ?_); (case hc => walk_at "cond"))
  | ((with_reducible refine' w_mod ?hc ?_); (case hc => walk_at "cond")) | ((with_reducible refine' w_pow ?hc ?_); (case hc => walk_at "cond")))
local macro_rules | `(tactic| walk_at "wp") => `(tactic| repeat walk_at "wp1")
section
variable {P : Program} {w : World} {K : PySem.W.Frag} {mg : Str → Option Value} {base : Heap}
/-! ### lists with commas; the rows of a part -/
def seps : List (List Str) → List Str
  | [] => []
  | tk :: r => "," :: (tk ++ seps r)
theorem sqF_read {α : Type} {ms : List Str} {f : Nat → Option (α × Nat)} (hf : MonoG f) {e : Str} (he : e ≠ ",") : ∀ (its : List (α × List Str)) (acc : List α) (p : Nat), (∀ it ∈ its, ∀ q, At ms q it.2 → (now ms (q + it.2.length) = "," ∨ now ms (q + it.2.length) = e) → f q = some (it.1, q + it.2.length)) →
    At ms p (seps (its.map (·.2))) → now ms (p + (seps (its.map (·.2))).length) = e → sqF ms f acc p = some (acc ++ its.map (·.1), p + (seps (its.map (·.2))).length)
  | [], acc, p, _, _, h => by
    have h' : now ms p = e := h
    rw [sqF_end (by rw [h']; exact he)]
    simp [seps]
  | it :: r, acc, p, hi, ha, h => by
    have a0 : now ms p = "," := ha.head
    have a1 : At ms (p + 1) (it.2 ++ seps (r.map (·.2))) := At.app2 (a := [(("," : Str))]) ha
    have el : p + (seps ((it :: r).map (·.2))).length = p + 1 + it.2.length + (seps (r.map (·.2))).length := by
      show p + ((("," : Str) :: (it.2 ++ seps (r.map (·.2)))).length) = _
      rw [List.length_cons, List.length_append]
      omega
    rw [el] at h ⊢
    have a2 := a1.app2
    have hn : now ms (p + 1 + it.2.length) = "," ∨ now ms (p + 1 + it.2.length) = e := by
      cases r with
      | nil => exact .inr h
      | cons it2 r2 => exact .inl a2.head
    rw [sqF_on hf a0, hi it List.mem_cons_self (p + 1) a1.app1 hn]
    simp only [Option.bind_some]
    rw [sqF_read hf he r (acc ++ [it.1]) _ (fun x hx => hi x (List.mem_cons_of_mem _ hx)) a2 h]
    simp
theorem sqM_read {α : Type} {ms : List Str} {f : Nat → Option (α × Nat)} (hf : MonoG f) {e : Str} (he : e ≠ ",") (it : α × List Str) (its : List (α × List Str)) (p : Nat) (hi : ∀ x ∈ it :: its, ∀ q, At ms q x.2 → (now ms (q + x.2.length) = "," ∨ now ms (q + x.2.length) = e) → f q = some (x.1, q + x.2.length))
    (ha : At ms p (it.2 ++ seps (its.map (·.2)))) (h : now ms (p + (it.2 ++ seps (its.map (·.2))).length) = e) : sqM ms f p = some ((it :: its).map (·.1), p + (it.2 ++ seps (its.map (·.2))).length) := by
  have a2 := ha.app2
  have el : p + (it.2 ++ seps (its.map (·.2))).length = p + it.2.length + (seps (its.map (·.2))).length := by
    rw [List.length_append]
    omega
  rw [el] at h ⊢
  unfold sqM
  have hn : now ms (p + it.2.length) = "," ∨ now ms (p + it.2.length) = e := by
    cases its with
    | nil => exact .inr h
    | cons it2 r2 => exact .inl a2.head
  rw [hi it List.mem_cons_self p ha.app1 hn]
  simp only [Option.bind_some]
  rw [sqF_read hf he its [it.1] _ (fun x hx => hi x (List.mem_cons_of_mem _ hx)) a2 h]
  rfl
theorem now_end {ms : List Str} : now ms ms.length = "" := now_none (Nat.le_refl _)
/-! ### the row of a def -/
def nmSeps (xs : List Str) : List Str := seps (xs.map fun x => [x])
def defMs (f x : Str) (xs : List Str) : List Str := ([("def" : Str), f, ("(" : Str)] : List Str) ++ ((x :: nmSeps xs) ++ [(")" : Str)])
theorem defM_read {f x : Str} {xs : List Str} (hf : isName f = true) (hx : ∀ y ∈ x :: xs, Nm y) (hl : xs.length ≤ 3) : defM (defMs f x xs) = some (f, x :: xs) := by
  have hA : At (defMs f x xs) 3 ((x :: nmSeps xs) ++ [(")" : Str)]) := by
    have := At.of ([("def" : Str), f, ("(" : Str)] : List Str) ((x :: nmSeps xs) ++ [(")" : Str)]) []
    rw [List.append_nil] at this
    exact this
  have h2 : now (defMs f x xs) (3 + (x :: nmSeps xs).length) = ")" := (hA.app2).head
  have hlen : (defMs f x xs).length = 3 + (x :: nmSeps xs).length + 1 := by
    unfold defMs
    simp only [List.length_append, List.length_cons, List.length_nil]
    omega
  have em : ((xs.map fun y => (y, [y])).map (·.2)) = xs.map fun y => [y] := by rw [List.map_map]; rfl
  have hs := sqM_read (ms := defMs f x xs) (name_mono (ms := defMs f x xs)) (e := ")") (by decide) (x, [x]) (xs.map fun y => (y, [y])) 3 (fun y hy q hq _ => by
    have hy2 : ∃ z, z ∈ x :: xs ∧ y = (z, [z]) := by
      rcases List.mem_cons.mp hy with rfl | hy
      · exact ⟨x, List.mem_cons_self, rfl⟩
      · obtain ⟨z, hz, rfl⟩ := List.mem_map.mp hy
        exact ⟨z, List.mem_cons_of_mem _ hz, rfl⟩
    obtain ⟨z, hz, rfl⟩ := hy2
    have h0 : now (defMs f x xs) q = z := hq.head
    show (if isName (now (defMs f x xs) q) = true then _ else _) = _
    rw [h0, if_pos (hx z hz).1]
    rfl) (by rw [em]; exact hA.app1) (by rw [em]; exact h2)
  rw [em] at hs
  have hs' : sqM (defMs f x xs) (rName (defMs f x xs)) 3 = some (x :: xs, 3 + (x :: nmSeps xs).length) := by
    rw [hs]
    congr 2
    show x :: (xs.map fun y => (y, [y])).map (·.1) = x :: xs
    rw [List.map_map]
    congr 1
    exact List.map_id' xs
  have n0 : now (defMs f x xs) 0 = "def" := rfl
  have n1 : now (defMs f x xs) 1 = f := rfl
  have n2 : now (defMs f x xs) 2 = "(" := rfl
  unfold defM must rName
  rw [n0, if_pos rfl]
  simp only [Option.bind_some]
  rw [n1, if_pos hf]
  simp only [Option.bind_some]
  rw [n2, if_pos rfl]
  simp only [Option.bind_some]
  show (sqM (defMs f x xs) (rName (defMs f x xs)) 3).bind _ = _
  rw [hs']
  simp only [Option.bind_some]
  rw [h2, if_pos rfl]
  simp only [Option.bind_some]
  rw [if_pos ⟨by omega, by rw [List.length_cons]; omega⟩]
/-! ### the row that gives -/
theorem term_sep {n : Nat} {t : Rd.T} {tk ms : List Str} {q : Nat} {e : Str} (h : Brk n t 0 tk) (hn : n ≤ 9) (hq : At ms q tk) (he : e = "" ∨ e = ")") (h1 : now ms (q + tk.length) = "," ∨ now ms (q + tk.length) = e) : rTerm ms 9 q = some (t, q + tk.length) := by
  have h2 : now ms (q + tk.length) ≠ "[" ∧ notMul (now ms (q + tk.length)) ∧ notAdd (now ms (q + tk.length)) := by
    rcases h1 with h1 | h1
    · rw [h1]
      exact ⟨by decide, ⟨by decide, by decide⟩, by decide, by decide⟩
    · rcases he with rfl | rfl
      · rw [h1]
        exact ⟨by decide, ⟨by decide, by decide⟩, by decide, by decide⟩
      · rw [h1]
        exact ⟨by decide, ⟨by decide, by decide⟩, by decide, by decide⟩
  exact brk_term h hn hq h2.1 h2.2.1 h2.2.2
/-- terms with commas, up to the row's end -/
theorem give_read {name : Str} {t : Rd.T} {tk : List Str} {its : List (Rd.T × List Str)} (h : ∀ x ∈ (t, tk) :: its, Brk 9 x.1 0 x.2) (hl : its.length ≤ 3) (hm : name = "main" ∨ its = []) : giveM name ("give" :: (tk ++ seps (its.map (·.2)))) = some (t :: its.map (·.1)) := by
  generalize hms : (("give" : Str) :: (tk ++ seps (its.map (·.2)))) = ms
  have hA : At ms 1 (tk ++ seps (its.map (·.2))) := by
    have := At.of ([("give" : Str)]) (tk ++ seps (its.map (·.2))) []
    rw [List.append_nil] at this
    rw [← hms]
    exact this
  have hlen : ms.length = 1 + (tk ++ seps (its.map (·.2))).length := by
    rw [← hms, List.length_cons]
    omega
  have hE : now ms (1 + (tk ++ seps (its.map (·.2))).length) = "" := by
    rw [← hlen]
    exact now_end
  have hs := sqM_read (ms := ms) (rTerm_mono 9) (e := "") (by decide) (t, tk) its 1 (fun x hx q hq hn => term_sep (h x hx) (Nat.le_refl _) hq (.inl rfl) hn) hA hE
  have n0 : now ms 0 = "give" := by rw [← hms]; rfl
  unfold giveM must
  rw [n0, if_pos rfl]
  simp only [Option.bind_some]
  rw [hs]
  simp only [Option.bind_some]
  rw [if_pos]
  · rfl
  · refine ⟨by omega, by rw [List.length_map, List.length_cons]; omega, ?_⟩
    rcases hm with hm | hm
    · exact .inl hm
    · refine .inr ?_
      rw [List.length_map, List.length_cons, hm]
      exact Nat.le_refl _
/-! ### main alone, without steps -/
def main1 (names : List Str) (ts : List Rd.T) : List Pt := [⟨"main", names, [], ts, 1, 2⟩]
theorem prog_main {x : Str} {xs : List Str} {t : Rd.T} {tk : List Str} {its : List (Rd.T × List Str)} (hx : ∀ y ∈ x :: xs, Nm y) (hl : xs.length ≤ 3) (h : ∀ z ∈ (t, tk) :: its, Brk 9 z.1 0 z.2) (hi : its.length ≤ 3) :
    progM [(0, defMs "main" x xs), (1, "give" :: (tk ++ seps (its.map (·.2))))] = .ok (main1 (x :: xs) (t :: its.map (·.1))) := by
  generalize hg : (("give" : Str) :: (tk ++ seps (its.map (·.2)))) = gs
  have f0 : firstM [(0, defMs "main" x xs), (1, gs)] 0 0 = "def" := rfl
  have f1 : firstM [(0, defMs "main" x xs), (1, gs)] 1 1 = "give" := by
    rw [← hg]
    rfl
  have st : stepsK [(0, defMs "main" x xs), (1, gs)] 5 1 = .ok ([], 1) := by
    show stepsF _ _ 1 [] 1 = _
    rw [stepsF_end (by rw [f1]; decide)]
  have pm : partM [(0, defMs "main" x xs), (1, gs)] 0 = .ok (⟨"main", x :: xs, [], t :: its.map (·.1), 1, 2⟩, 2) := by
    unfold partM
    show (match defM (defMs "main" x xs) with
      | none => _
      | some (name, takes) => _) = _
    rw [defM_read (by decide +kernel) hx hl]
    dsimp only
    rw [show (0 + 1 : Nat) = 1 from rfl, st]
    dsimp only
    rw [if_pos f1]
    show (match giveM "main" gs with
      | none => _
      | some gives => _) = _
    rw [← hg, give_read h hi (.inl rfl)]
  have pf : partsF [(0, defMs "main" x xs), (1, gs)] [] 0 = .ok [⟨"main", x :: xs, [], t :: its.map (·.1), 1, 2⟩] := by
    rw [partsF_on (Nat.succ_pos _) (by rw [f0]; rintro (z | z); exact z rfl; cases z), pm]
    dsimp only
    rw [partsF_end (Nat.lt_irrefl 2)]
    rfl
  unfold progM
  rw [pf]
  dsimp only
  show (if ("main" : Str) = "main" then _ else _) = _
  rw [if_pos rfl]
  rfl
/-! ### rows as texts -/
theorem okP_no10 : ∀ {ps : List Pc} {g : Option Nat}, okP g ps → 10 ∉ flat ps
  | [], _, _, h => by cases h
  | .w l :: r, _, ⟨_, _, h3, h4⟩, h => by
    rcases List.mem_append.mp (show 10 ∈ l ++ flat r from h) with h | h
    · exact absurd (h3 10 h) (by decide +kernel)
    · exact okP_no10 h4 h
  | .d l :: r, _, ⟨_, _, h3, h4⟩, h => by
    rcases List.mem_append.mp (show 10 ∈ l ++ flat r from h) with h | h
    · exact absurd (h3 10 h) (by decide +kernel)
    · exact okP_no10 h4 h
  | .s c :: r, _, ⟨h1, h2⟩, h => by
    rcases List.mem_cons.mp (show 10 ∈ c :: flat r from h) with h | h
    · rw [← h] at h1
      exact absurd h1 (by decide +kernel)
    · exact okP_no10 h2 h
  | .b :: r, _, h1, h => by
    rcases List.mem_cons.mp (show 10 ∈ 32 :: flat r from h) with h | h
    · cases h
    · exact okP_no10 (ps := r) (g := none) h1 h
/-- a row of pieces, d blocks in -/
theorem line_read {d : Nat} {ps : List Pc} (hd : d ≤ 5) (h : okP none ps) (hb : ∀ c, (flat ps).head? = some c → c ≠ 32) (h1 : marksP ps ≠ []) (h2 : (marksP ps).length ≤ 60) : lineM (mk (flat (bl (2 * d) ++ ps))) = some (d, marksP ps) := by
  unfold lineM
  have e : (mk (flat (bl (2 * d) ++ ps))).cps.toList = flat (bl (2 * d) ++ ps) := rfl
  rw [depth_of_ahead (d := d) (by rw [e, flat_append, flat_bl]; exact take_blanks _ _ hb) hd]
  simp only [Option.bind_some]
  rw [e, marks_pieces (okP_bl0 h) (by rw [marks_bl]; exact h1) (by rw [marks_bl]; exact h2), marks_bl]
  rfl
def cps (x : Str) : List Nat := x.cps.toList
def commaP : List Str → List Pc
  | [] => []
  | y :: r => .s 44 :: .b :: .w y.cps.toList :: commaP r
def defP (f x : Str) (xs : List Str) : List Pc := .w (cps "def") :: .b :: .w f.cps.toList :: .s 40 :: .w x.cps.toList :: (commaP xs ++ [.s 41])
theorem commaP_ok : ∀ {xs : List Str} {ps : List Pc}, (∀ y ∈ xs, Nm y) → okP none ps → Soft ps → okP none (commaP xs ++ ps) ∧ Soft (commaP xs ++ ps)
  | [], ps, _, h, hs => ⟨h, hs⟩
  | y :: r, ps, hx, h, hs => by
    have ih := commaP_ok (xs := r) (ps := ps) (fun z hz => hx z (List.mem_cons_of_mem _ hz)) h hs
    have hy := hx y List.mem_cons_self
    exact ⟨⟨by decide +kernel, (fun z => nomatch z), hy.ne, hy.2, ih.2.ok ih.1⟩, trivial⟩
theorem commaP_marks : ∀ {xs : List Str}, marksP (commaP xs) = nmSeps xs
  | [] => rfl
  | y :: r => by
    have ih := commaP_marks (xs := r)
    show one 44 :: mk y.cps.toList :: marksP (commaP r) = (("," : Str) :: ([y] ++ seps (r.map fun x => [x])))
    rw [ih, mk_list]
    rfl
theorem defP_ok {f x : Str} {xs : List Str} (hf : Nm f) (hx : ∀ y ∈ x :: xs, Nm y) : okP none (defP f x xs) ∧ marksP (defP f x xs) = defMs f x xs := by
  have hx0 := hx x List.mem_cons_self
  have hc := commaP_ok (xs := xs) (ps := [.s 41]) (fun y hy => hx y (List.mem_cons_of_mem _ hy)) ⟨by decide +kernel, trivial⟩ trivial
  refine ⟨⟨(fun z => nomatch z), by decide +kernel, by decide +kernel, (fun z => nomatch z), hf.ne, hf.2, by decide +kernel, (fun z => nomatch z), hx0.ne, hx0.2, hc.2.ok hc.1⟩, ?_⟩
  show mk (cps "def") :: mk f.cps.toList :: one 40 :: mk x.cps.toList :: marksP (commaP xs ++ [.s 41]) = _
  rw [marksP_append, commaP_marks, mk_list, mk_list]
  rfl
theorem commaP_flat : ∀ (x : Str) (xs : List Str), x.cps.toList ++ flat (commaP xs) = (Txt.join ", " (x :: xs)).cps.toList
  | x, [] => by
    rw [TL.join_eq]
    show x.cps.toList ++ [] = x.cps.toList
    rw [List.append_nil]
  | x, y :: r => by
    have ih := commaP_flat y r
    rw [TL.join_eq] at ih ⊢
    show x.cps.toList ++ (44 :: 32 :: (y.cps.toList ++ flat (commaP r))) = (x ++ ", " ++ Str.join ", " (y :: r)).cps.toList
    rw [cat_list, cat_list, ih]
    have e : (Str.ofString ", ").cps.toList = [44, 32] := by decide +kernel
    rw [e, List.append_assoc]
    rfl
theorem defP_flat (x : Str) (xs : List Str) : flat (defP "main" x xs) = (("def main(" : Str) ++ Txt.join ", " (x :: xs) ++ ")").cps.toList := by
  rw [cat_list, cat_list, ← commaP_flat]
  have e1 : (Str.ofString "def main(").cps.toList = cps "def" ++ (32 :: (cps "main" ++ [40])) := by decide +kernel
  have e2 : (Str.ofString ")").cps.toList = [41] := by decide +kernel
  rw [e1, e2]
  show cps "def" ++ (32 :: (cps "main" ++ (40 :: (x.cps.toList ++ flat (commaP xs ++ [.s 41]))))) = _
  rw [flat_append]
  simp [flat, Pc.cs]
theorem Nm_main : Nm "main" := ⟨by decide +kernel, by decide +kernel⟩
theorem nmSeps_len : ∀ (xs : List Str), (nmSeps xs).length = 2 * xs.length
  | [] => rfl
  | y :: r => by
    have ih := nmSeps_len r
    show (("," : Str) :: ([y] ++ seps (r.map fun x => [x]))).length = _
    rw [List.length_cons, List.length_append, List.length_singleton]
    have : (seps (r.map fun x => [x])).length = 2 * r.length := ih
    rw [this, List.length_cons]
    omega
def giveP (ps : List Pc) : List Pc := .w (cps "give") :: .b :: ps
theorem read_main1 {z x : Str} {xs : List Str} {t : Rd.T} {qs : List Pc} {u v : Nat} (hx : ∀ y ∈ x :: xs, Nm y) (hl : xs.length ≤ 3) (hm : Msy 9 t 0 qs) (hlen : (marksP qs).length ≤ 59)
    (hz : z.cps.toList = flat (defP "main" x xs) ++ 10 :: flat (bl 2 ++ giveP (bl u ++ (qs ++ bl v)))) : readM z = .ok (main1 (x :: xs) [t]) := by
  obtain ⟨ok1, mk1⟩ := defP_ok Nm_main hx
  obtain ⟨okq, bq, _⟩ := hm.ok
  have okv : okP none (bl v) := by
    have := okP_bl0 (n := v) (ps := []) trivial
    rw [List.append_nil] at this
    exact this
  have softv : Soft (bl v) := by
    cases v with
    | zero => exact trivial
    | succ v => exact trivial
  have ok2 : okP none (giveP (bl u ++ (qs ++ bl v))) := ⟨(fun z => nomatch z), by decide +kernel, by decide +kernel, okP_bl0 (okP_soft okq okv softv)⟩
  have mk2 : marksP (giveP (bl u ++ (qs ++ bl v))) = ("give" : Str) :: marksP qs := by
    show mk (cps "give") :: marksP (bl u ++ (qs ++ bl v)) = _
    rw [marks_bl, marksP_append]
    have : marksP (bl v) = [] := by
      have := marks_bl (n := v) (ps := [])
      rw [List.append_nil] at this
      exact this
    rw [this, List.append_nil]
    rfl
  have hs : Txt.split z "\n" = [mk (flat (defP "main" x xs)), mk (flat (bl 2 ++ giveP (bl u ++ (qs ++ bl v))))] := by
    refine split_rows hz (List.cons_ne_nil _ _) fun y hy => ?_
    rcases List.mem_cons.mp hy with rfl | hy
    · exact okP_no10 ok1
    · cases List.mem_singleton.mp hy
      exact okP_no10 (okP_bl0 (n := 2) ok2)
  have l1 : lineM (mk (flat (defP "main" x xs))) = some (0, defMs "main" x xs) := by
    have := line_read (d := 0) (by omega) ok1 (by intro c hc; cases hc; decide) (by rw [mk1]; unfold defMs; simp) (by
      rw [mk1]
      unfold defMs
      simp only [List.length_append, List.length_cons, List.length_nil, nmSeps_len]
      omega)
    rw [mk1] at this
    exact this
  have l2 : lineM (mk (flat (bl 2 ++ giveP (bl u ++ (qs ++ bl v))))) = some (1, ("give" : Str) :: marksP qs) := by
    have := line_read (d := 1) (by omega) ok2 (by intro c hc; cases hc; decide) (by rw [mk2]; exact List.cons_ne_nil _ _) (by
      rw [mk2, List.length_cons]
      omega)
    rw [mk2] at this
    exact this
  unfold readM
  rw [hs]
  have hr : rowsL 0 [mk (flat (defP "main" x xs)), mk (flat (bl 2 ++ giveP (bl u ++ (qs ++ bl v))))] = .inr [(0, defMs "main" x xs), (1, ("give" : Str) :: marksP qs)] := by
    unfold rowsL
    rw [if_neg (by decide), l1]
    dsimp only
    unfold rowsL
    rw [if_neg (by decide), l2]
    dsimp only
    unfold rowsL
    rfl
  rw [hr]
  dsimp only
  have := prog_main (x := x) (xs := xs) (t := t) (tk := marksP qs) (its := []) hx hl (fun z hz => by
    cases List.mem_singleton.mp hz
    exact bq) (Nat.zero_le _)
  simp only [List.map_nil, seps, List.append_nil] at this
  exact this
theorem told_main1 (names : List Str) (t : Rd.T) : progTold (main1 names [t]) = ("def main(" : Str) ++ Txt.join ", " names ++ ")\n  give " ++ t.told := by
  apply TL.ext_tl
  show (Txt.join "\n" (toldP (main1 names [t]))).cps.toList = _
  have e : toldP (main1 names [t]) = [("def " : Str) ++ "main" ++ "(" ++ Txt.join ", " names ++ ")", ("  give " : Str) ++ Txt.join ", " [t.told]] := by
    unfold toldP main1
    rw [List.flatMap_cons, List.flatMap_nil, List.append_nil]
    unfold Pt.told
    dsimp only
    rw [toldS]
    rfl
  rw [e, TL.join_eq]
  show ((("def " : Str) ++ "main" ++ "(" ++ Txt.join ", " names ++ ")") ++ "\n" ++ (("  give " : Str) ++ Txt.join ", " [t.told])).cps.toList = _
  have e2 : Txt.join ", " [t.told] = t.told := by
    rw [TL.join_eq]
    rfl
  rw [e2]
  simp only [TL.tl, cat_list]
  have c1 : (Str.ofString "def ").cps.toList ++ (Str.ofString "main").cps.toList ++ (Str.ofString "(").cps.toList = (Str.ofString "def main(").cps.toList := by decide +kernel
  have c2 : (Str.ofString ")\n  give ").cps.toList = (Str.ofString ")").cps.toList ++ ((Str.ofString "\n").cps.toList ++ (Str.ofString "  give ").cps.toList) := by decide +kernel
  rw [c1, c2]
  simp only [List.append_assoc]
end
end Lw

namespace Lw
open PySem PySem.Spec PyProof.Rows L2 Fw Htx Ob Tx Rd Lk
local macro_rules | `(tactic| walk_at "cond") => `(tactic| first | assumption | (with_reducible exact cdiv_small (by omega) (by omega)) | (with_reducible exact cmul_small (by omega) (by omega)) | (with_reducible exact cpow_mk (by omega) (by omega) (by omega)) | omega)
local macro_rules | `(tactic| walk_at "ne") => `(tactic| first | assumption | exact Ne.symm (by assumption) | exact ne_of_none (by assumption) (by assumption) | exact Ne.symm (ne_of_none (by assumption) (by assumption)))
local macro_rules | `(tactic| walk_at "at") => `(tactic| first
  | assumption
  | (with_reducible exact upd_same)
  | ((with_reducible refine' at_same ?hk ?hh); (case hk => assumption); (case hh => walk_at "at"))
  | ((with_reducible refine' at_keepT ?hk ?hh ?hd); (case hk => assumption); (case hh => walk_at "at"); (case hd => walk_at "at"))
  | ((with_reducible refine' at_keep ?hk ?hh ?hn); (case hk => assumption); (case hh => walk_at "at"); (case hn => walk_at "ne")))
local macro_rules | `(tactic| walk_at "hp") => `(tactic| first
  | assumption
  | (with_reducible exact FrL.sql (by assumption))
  | ((with_reducible refine' SqT.of ?hq); (case hq => walk_at "at")) | ((with_reducible refine' SqL.of ?hq); (case hq => walk_at "at"))
  | ((with_reducible refine' sql_same ?hk ?hh); (case hk => assumption); (case hh => walk_at "hp"))
  | ((with_reducible refine' sql_keep ?hk ?hh ?hn); (case hk => assumption); (case hh => walk_at "hp"); (case hn => walk_at "ne"))
  | ((with_reducible refine' sqt_same ?hk ?hh); (case hk => assumption); (case hh => walk_at "hp")))
local macro_rules | `(tactic| walk_at "wp1") => `(tactic| first
  | with_reducible refine w_mt ?_ | ((with_reducible refine' w_mt1 ?ha ?hl ?_); (case ha => walk_at "at"); (case hl => rfl))
  | with_reducible refine w_fld ?_ | ((with_reducible refine' w_fld1 ?ha (ClsF.cl (cs := clsL) (as := attL) (by assumption) _ ?hc) (ClsF.no (cs := clsL) (as := attL) (by assumption) _ _ ?hn) ?hl ?_); (case ha => walk_at "at"); (case hc => decide +kernel); (case hn => decide +kernel); (case hl => rfl))
  | with_reducible refine w_sfld ?_ | ((with_reducible refine' w_sfld1 ?ha (ClsF.cl (cs := clsL) (as := attL) (by assumption) _ ?hc) (ClsF.no (cs := clsL) (as := attL) (by assumption) _ _ ?hn) ?he ?hl ?_); (case ha => walk_at "at"); (case hc => decide +kernel); (case hn => decide +kernel); (case he => rfl); (case hl => rfl))
  | with_reducible refine w_lk ?_ | ((with_reducible refine' lkL ?ha ?_); (case ha => walk_at "at")) | with_reducible refine w_mkS ?_ | with_reducible refine w_mk ?_ | with_reducible refine w_bas ?_ | with_reducible refine w_m1 ?_ | with_reducible refine w_isS ?_ | with_reducible refine w_bm0 ?_ | with_reducible refine w_iS ?_ | with_reducible refine w_chain ?_
  | with_reducible refine w_inSg ?_ | with_reducible refine w_ninSg ?_
  | with_reducible refine w_rz ?_ | with_reducible refine w_calX ?_ | with_reducible refine w_calS ?_ | with_reducible refine w_row ?_
  | with_reducible refine w_seq ?_ | with_reducible refine w_set ?_ | with_reducible refine w_drop ?_ | with_reducible refine w_ret ?_ | with_reducible refine w_ifS ?_ | with_reducible refine w_next ?_
  | ((with_reducible refine' w_var ?hv ?_); (case hv => rfl)) | with_reducible refine w_c ?_
  | with_reducible refine w_op ?_ | with_reducible refine w_un ?_ | with_reducible refine w_cb ?_ | with_reducible refine w_cal ?_ | with_reducible refine w_cons ?_ | with_reducible refine w_nil ?_
  | with_reducible refine w_plus ?_ | with_reducible refine w_minus ?_ | with_reducible refine w_lt ?_ | with_reducible refine w_le ?_ | with_reducible refine w_gt ?_ | with_reducible refine w_ge ?_
  | with_reducible refine w_eqI ?_ | with_reducible refine w_neI ?_ | with_reducible refine w_eqB ?_ | with_reducible refine w_neB ?_ | with_reducible refine w_eqS ?_ | with_reducible refine w_neS ?_
  | with_reducible refine w_neg ?_ | with_reducible refine w_abs ?_ | with_reducible refine w_intB ?_ | with_reducible refine w_test ?_ | with_reducible refine w_tB ?_ | with_reducible refine w_bl ?_
  | with_reducible refine w_and ?_ | with_reducible refine w_or ?_ | with_reducible refine w_not ?_ | with_reducible refine w_andV ?_ | with_reducible refine w_orV ?_ | with_reducible refine w_notV ?_ | with_reducible refine w_ifE ?_
  | with_reducible refine w_nyes ?_ | with_reducible refine w_nno ?_ | with_reducible refine w_yes ?_ | with_reducible refine w_no ?_
  | ((with_reducible refine' w_ixL ?ha ?hb ?_); (case ha => walk_at "hp"); (case hb => rfl)) | ((with_reducible refine' w_ixT ?ha ?hb ?_); (case ha => walk_at "hp"); (case hb => rfl))
  | ((with_reducible refine' w_lenL ?ha ?_); (case ha => walk_at "hp")) | ((with_reducible refine' w_lenT ?ha ?_); (case ha => walk_at "hp"))
  | with_reducible refine w_min2 ?_ | with_reducible refine w_max2 ?_ | with_reducible refine w_bm ?_ | with_reducible refine w_lc ?_ | ((with_reducible refine' w_tyL ?ha ?_); (case ha => walk_at "at"))
  | with_reducible refine isi_ii ?_ | with_reducible refine isi_ib ?_ | with_reducible refine isi_bb ?_ | with_reducible refine isi_ss ?_
  | ((with_reducible refine' isi_tt ?ha ?_); (case ha => walk_at "at")) | ((with_reducible refine' isi_ll ?ha ?_); (case ha => walk_at "at"))
  | with_reducible refine w_par ?_ | with_reducible refine w_par2 ?_ | with_reducible refine w_for ?_ | with_reducible refine w_iL ?_ | with_reducible refine w_iT ?_ | with_reducible refine w_iR1 ?_ | with_reducible refine w_iR2 ?_
  | with_reducible refine w_tup ?_ | with_reducible refine w_lst ?_
  | with_reducible refine w_asg ?_ | with_reducible refine w_gname ?_ | with_reducible refine w_gcons ?_ | with_reducible refine w_gnil ?_ | with_reducible refine w_gsub ?_
  | ((with_reducible refine' w_gtup ?ha ?hb ?_); (case ha => walk_at "hp"); (case hb => rfl))
  | ((with_reducible refine' w_fdiv ?hc ?_); (case hc => walk_at "cond")) | ((with_reducible refine' w_mul ?hc ?_); (case hc => walk_at "cond"))
  | ((with_reducible refine' w_mod ?hc ?_); (case hc => walk_at "cond")) | ((with_reducible refine' w_pow ?hc ?_); (case hc => walk_at "cond")))
local macro_rules | `(tactic| walk_at "wp") => `(tactic| repeat walk_at "wp1")
section
variable {P : Program} {w : World} {K : PySem.W.Frag} {mg : Str → Option Value} {base : Heap}
/-! ### the law's names -/
def spStyle (K : PySem.W.Frag) : Sp := fun vs H Q _ => ∃ d : Addr, vs = [.ref d] ∧ DiceAt K H d ∧ ∀ (s : Nat) H', s < 43264 → DiceAt K H' d → Fw.Keep d H H' → Q (.int (s : Nat)) H'
def res7 : List Str := ["def", "give", "row", "if", "else", "loop", "main"]
def wordB (s j : Nat) : List Nat := List.replicate (s / 8 % (1 + s % 8)) (97 + (s / 64 + j / 26) % 26) ++ [97 + (s / 1664 + 5 * j) % 26] ++ List.replicate (1 + s % 8 - 1 - s / 8 % (1 + s % 8)) (97 + (s / 64 + j / 26) % 26)
def wordC (s j : Nat) : List Nat := if 1 + s % 8 = 1 ∧ 25 < j then wordB s j ++ [97 + j / 26] else wordB s j
def wordM (s j : Nat) : Str := if mk (wordC s j) ∈ res7 then "q" ++ mk (wordC s j) else mk (wordC s j)
def spWord : Sp := fun vs H Q _ => ∃ s j : Nat, vs = [.int (s : Nat), .int (j : Nat)] ∧ s < 100000 ∧ j < 104 ∧ ∀ H', Same H H' → Q (.str (wordM s j)) H'
theorem small_code {c : Nat} : c ∈ smallL ↔ 97 ≤ c ∧ c < 123 := by
  constructor
  · intro h
    have : ∀ x ∈ smallL, 97 ≤ x ∧ x < 123 := by decide +kernel
    exact this c h
  · intro ⟨h1, h2⟩
    have : ∀ x ∈ List.range 26, 97 + x ∈ smallL := by decide +kernel
    have := this (c - 97) (List.mem_range.mpr (by omega))
    rwa [Nat.add_sub_cancel' h1] at this
theorem letters_at {k : Nat} (h : k < 26) : atI (Str.ofString "abcdefghijklmnopqrstuvwxyz").cps.toList (k : Int) = some (97 + k) := by
  have : ∀ x ∈ List.range 26, atI (Str.ofString "abcdefghijklmnopqrstuvwxyz").cps.toList ((x : Nat) : Int) = some (97 + x) := by decide +kernel
  exact this k (List.mem_range.mpr h)
theorem abcd_at {k : Nat} (h : k < 4) : atI (Str.ofString "abcd").cps.toList (k : Int) = some (97 + k) := by
  have : ∀ x ∈ List.range 4, atI (Str.ofString "abcd").cps.toList ((x : Nat) : Int) = some (97 + x) := by decide +kernel
  exact this k (List.mem_range.mpr h)
theorem wordB_len (s j : Nat) : (wordB s j).length = 1 + s % 8 := by
  unfold wordB
  simp only [List.length_append, List.length_replicate, List.length_singleton]
  have : s / 8 % (1 + s % 8) < 1 + s % 8 := Nat.mod_lt _ (by omega)
  omega
theorem wordB_small (s j : Nat) : ∀ c ∈ wordB s j, c ∈ smallL := by
  intro c hc
  unfold wordB at hc
  rw [small_code]
  have h1 : (s / 64 + j / 26) % 26 < 26 := Nat.mod_lt _ (by decide)
  have h2 : (s / 1664 + 5 * j) % 26 < 26 := Nat.mod_lt _ (by decide)
  rcases List.mem_append.mp hc with hc | hc
  · rcases List.mem_append.mp hc with hc | hc
    · have := List.eq_of_mem_replicate hc
      omega
    · have := List.mem_singleton.mp hc
      omega
  · have := List.eq_of_mem_replicate hc
    omega
theorem wordC_ok {s j : Nat} (hj : j < 104) : (wordC s j).length ≤ 8 ∧ wordC s j ≠ [] ∧ ∀ c ∈ wordC s j, c ∈ smallL := by
  have h1 := wordB_len s j
  have h2 := wordB_small s j
  have h3 : s % 8 < 8 := Nat.mod_lt _ (by decide)
  unfold wordC
  split
  · rename_i h
    refine ⟨by rw [List.length_append, List.length_singleton]; omega, by simp, fun c hc => ?_⟩
    rcases List.mem_append.mp hc with hc | hc
    · exact h2 c hc
    · rw [List.mem_singleton.mp hc, small_code]
      omega
  · refine ⟨by omega, fun z => ?_, h2⟩
    rw [z] at h1
    simp only [List.length_nil] at h1
    omega
theorem wordM_nm {s j : Nat} (hj : j < 104) : Nm (wordM s j) := by
  obtain ⟨h1, h2, h3⟩ := wordC_ok (s := s) hj
  unfold wordM
  split
  · rename_i h
    have : ∀ x ∈ res7, Nm ("q" ++ x) := by
      intro x hx
      have h4 : ∀ x ∈ res7, isName ("q" ++ x) = true ∧ ∀ c ∈ (("q" : Str) ++ x).cps.toList, c ∈ smallL := by decide +kernel
      exact h4 x hx
    exact this _ h
  · rename_i h
    refine ⟨?_, h3⟩
    have hne : mk (wordC s j) ≠ "" := list_ne h2
    have hw : mk (wordC s j) ∉ wordsL := fun z => h (by
      have : ∀ x ∈ wordsL, x ∈ res7 := by decide +kernel
      exact this _ z)
    have hf : (mk (wordC s j)).cps.toList.getD 0 0 ∈ smallL := by
      show (wordC s j).getD 0 0 ∈ smallL
      cases e : wordC s j with
      | nil => exact absurd e h2
      | cons c r => exact h3 c (by rw [e]; exact List.mem_cons_self)
    have hl : (mk (wordC s j)).length ≤ 8 := by
      show (wordC s j).toArray.size ≤ 8
      simpa using h1
    unfold isName
    simp only [Bool.and_eq_true, decide_eq_true_eq, Bool.not_eq_true', decide_eq_false_iff_not]
    exact ⟨hne, hf, hl, hw⟩
theorem mul_code (c : Nat) (n : Nat) : Txt.mul ⟨#[c]⟩ (n : Int) = mk (List.replicate n c) := by
  apply TL.ext_tl
  show (Txt.mul ⟨#[c]⟩ (n : Int)).cps.toList = _
  rw [PyProof.Rows.mul_one_list]
  rfl
theorem cat_mk (a b : List Nat) : mk a ++ mk b = mk (a ++ b) := by
  apply TL.ext_tl
  show (mk a ++ mk b).cps.toList = _
  rw [cat_list]
  rfl
section
variable (T : Fre mg)
theorem c_l_style (F : Def K mg "_law_style" s_l_style) (c_l_next : Cal P w K mg base 1 "_law_next" ["_law_dice_here", "_law_many"] (spNext K)) : Cal P w K mg base 2 "_law_style" ["_law_dice_here"] (spStyle K) := by
  refine cal_of F sc_l_style b_l_style (fun vs H Q E h => ?_) (fun cdv A outer s H vs Q E hr h => ?_)
  · obtain ⟨_, rfl, _⟩ := h
    rfl
  · obtain ⟨d, rfl, D, q⟩ := h
    have po := passes_of (X := cxOf (L2N.CX P w) P w K mg base ["_law_dice_here"] "_law_style" (defScope s_l_style) (He.ga K "_law_style") cdv A outer s H E) rfl
    have tk := L2N.takes_of (X := cxOf (L2N.CX P w) P w K mg base ["_law_dice_here"] "_law_style" (defScope s_l_style) (He.ga K "_law_style") cdv A outer s H E) (E := E) rfl rfl rfl rfl
    have pc := L2N.passes_call tk (fun _ _ _ _ h => h) (E := E)
    have hu64 : (cxOf (L2N.CX P w) P w K mg base ["_law_dice_here"] "_law_style" (defScope s_l_style) (He.ga K "_law_style") cdv A outer s H E).A.units + 64 < cLine := by
      have := hr.un
      show (A.deeper _).units + 64 < cLine
      omega
    refine ⟨_, (pss_one (ps_ret (pe_op o_add (pe_op o_add (pe_cal c_l_next hr (by omega) pc (pa_cons (pv 0) (pa_cons pe_int pa_nil))) (pe_op o_mul pe_int (pe_cal c_l_next hr (by omega) pc (pa_cons (pv 0) (pa_cons pe_int pa_nil))))) (pe_op o_mul pe_int (pe_cal c_l_next hr (by omega) pc (pa_cons (pv 0) (pa_cons pe_int pa_nil))))))), ?_⟩
    refine w_start [some (.ref d)] rfl ?_
    try dsimp only [cxOf]
    walk_at "wp"
    refine ⟨d, 64, rfl, D, by decide, by decide, fun r1 H1 a1 b1 D1 k1 => ?_⟩
    walk_at "wp"
    refine ⟨d, 26, rfl, D1, by decide, by decide, fun r2 H2 a2 b2 D2 k2 => ?_⟩
    walk_at "wp"
    refine ⟨d, 26, rfl, D2, by decide, by decide, fun r3 H3 a3 b3 D3 k3 => ?_⟩
    walk_at "wp"
    have e : r1 + 64 * r2 + 1664 * r3 = (((r1 + 64 * r2 + 1664 * r3).toNat : Nat) : Int) := by omega
    rw [e]
    exact q _ H3 (by omega) D3 ((k1.trans k2).trans k3)
include T
theorem c_l_word (F : Def K mg "_law_word" s_l_word) : Cal P w K mg base 1 "_law_word" ["_law_style_here", "_law_j"] spWord := by
  refine cal_of F sc_l_word b_l_word (fun vs H Q E h => ?_) (fun cdv A outer s H vs Q E hr h => ?_)
  · obtain ⟨_, _, rfl, _⟩ := h
    rfl
  · obtain ⟨z, j, rfl, hz, hj, q⟩ := h
    have sl : sizeLine = 16777216 := sizeLine_eq
    have m8 : (z : Int).fmod 8 = ((z % 8 : Nat) : Int) := by rw [Int.fmod_eq_emod_of_nonneg _ (by omega)]; omega
    have d8 : (z : Int).fdiv 8 = ((z / 8 : Nat) : Int) := by rw [Int.fdiv_eq_ediv_of_nonneg _ (by omega)]; omega
    have d64 : (z : Int).fdiv 64 = ((z / 64 : Nat) : Int) := by rw [Int.fdiv_eq_ediv_of_nonneg _ (by omega)]; omega
    have d1664 : (z : Int).fdiv 1664 = ((z / 1664 : Nat) : Int) := by rw [Int.fdiv_eq_ediv_of_nonneg _ (by omega)]; omega
    have j26 : (j : Int).fdiv 26 = ((j / 26 : Nat) : Int) := by rw [Int.fdiv_eq_ediv_of_nonneg _ (by omega)]; omega
    have hat : z / 8 % (1 + z % 8) < 1 + z % 8 := Nat.mod_lt _ (by omega)
    have mat : (((z / 8 : Nat) : Int)).fmod (1 + ((z % 8 : Nat) : Int)) = ((z / 8 % (1 + z % 8) : Nat) : Int) := by
      rw [Int.fmod_eq_emod_of_nonneg _ (by omega), show (1 : Int) + ((z % 8 : Nat) : Int) = ((1 + z % 8 : Nat) : Int) by omega]
      exact (Int.natCast_emod _ _).symm
    have mr : (((z / 64 : Nat) : Int) + ((j / 26 : Nat) : Int)).fmod 26 = (((z / 64 + j / 26) % 26 : Nat) : Int) := by
      rw [Int.fmod_eq_emod_of_nonneg _ (by omega)]
      omega
    have mo : (((z / 1664 : Nat) : Int) + 5 * (j : Int)).fmod 26 = (((z / 1664 + 5 * j) % 26 : Nat) : Int) := by
      rw [Int.fmod_eq_emod_of_nonneg _ (by omega)]
      omega
    have lr : (z / 64 + j / 26) % 26 < 26 := Nat.mod_lt _ (by decide)
    have lo : (z / 1664 + 5 * j) % 26 < 26 := Nat.mod_lt _ (by decide)
    have ll : (Str.ofString "abcdefghijklmnopqrstuvwxyz").length = 26 := by decide +kernel
    have po := passes_of (X := cxOf (L2N.CX P w) P w K mg base ["_law_style_here", "_law_j", "_law_letters", "_law_size", "_law_at", "_law_rest", "_law_own", "_law_word_here"] "_law_word" (defScope s_l_word) (He.ga K "_law_word") cdv A outer s H E) rfl
    have tk := L2N.takes_of (X := cxOf (L2N.CX P w) P w K mg base ["_law_style_here", "_law_j", "_law_letters", "_law_size", "_law_at", "_law_rest", "_law_own", "_law_word_here"] "_law_word" (defScope s_l_word) (He.ga K "_law_word") cdv A outer s H E) (E := E) rfl rfl rfl rfl
    have pc := L2N.passes_call tk (fun _ _ _ _ h => h) (E := E)
    have hu64 : (cxOf (L2N.CX P w) P w K mg base ["_law_style_here", "_law_j", "_law_letters", "_law_size", "_law_at", "_law_rest", "_law_own", "_law_word_here"] "_law_word" (defScope s_l_word) (He.ga K "_law_word") cdv A outer s H E).A.units + 64 < cLine := by
      have := hr.un
      show (A.deeper _).units + 64 < cLine
      omega
    refine ⟨_, (pss_cons (ps_set (i := 2) sc_l_word.nd rfl (loc_of rfl) pe_str)
      (pss_cons (ps_set (i := 3) sc_l_word.nd rfl (loc_of rfl) (pe_op o_add pe_int (pe_op o_mod (pv 0) pe_int)))
      (pss_cons (ps_set (i := 4) sc_l_word.nd rfl (loc_of rfl) (pe_op o_mod (pe_op o_fdiv (pv 0) pe_int) (pv 3)))
      (pss_cons (ps_set (i := 5) sc_l_word.nd rfl (loc_of rfl) (pe_ix ix_str (pv 2) (pe_op o_mod (pe_op o_add (pe_op o_fdiv (pv 0) pe_int) (pe_op o_fdiv (pv 1) pe_int)) pe_int) (fun _ _ => rfl)))
      (pss_cons (ps_set (i := 6) sc_l_word.nd rfl (loc_of rfl) (pe_ix ix_str (pv 2) (pe_op o_mod (pe_op o_add (pe_op o_fdiv (pv 0) pe_int) (pe_op o_mul pe_int (pv 1))) pe_int) (fun _ _ => rfl)))
      (pss_cons (ps_set (i := 7) sc_l_word.nd rfl (loc_of rfl) (pe_op o_catS (pe_op o_mulS (pv 5) (pv 4)) (pv 6)))
      (pss_cons (ps_set (i := 7) sc_l_word.nd rfl (loc_of rfl) (pe_op o_catS (pv 7) (pe_op o_mulS (pv 5) (pe_op o_sub (pe_op o_sub (pv 3) pe_int) (pv 4)))))
      (Evl.pss_cut (ps_if (PW.pt (pw_and (pt_cmpR op_eq (pv 3) pe_int (nomark _)) (pw_and1 (pt_cmpR o_gt (pv 1) pe_int (nomark _))))) (pss_one (ps_set (i := 7) sc_l_word.nd rfl (loc_of rfl) (pe_op o_catS (pv 7) (pe_ix ix_str pe_str (pe_op o_fdiv (pv 1) pe_int) (fun _ _ => rfl))))) pss_nil)
      (pss_cons (ps_if (pt_cmpR (o_inT (K := K) rfl) (pv 7) (pe_tup (pa_cons pe_str (pa_cons pe_str (pa_cons pe_str (pa_cons pe_str (pa_cons pe_str (pa_cons pe_str (pa_cons pe_str pa_nil)))))))) (by rfl)) (pss_one (ps_set (i := 7) sc_l_word.nd rfl (loc_of rfl) (pe_op o_catS pe_str (pv 7)))) pss_nil)
      (pss_one (ps_ret (pv 7)))))))))))), ?_⟩
    refine w_start [some (.int (z : Nat)), some (.int (j : Nat)), none, none, none, none, none, none] rfl ?_
    try dsimp only [cxOf]
    walk_at "wp"
    rw [m8]
    walk_at "wp"
    rw [d8]
    walk_at "wp"
    rw [mat]
    walk_at "wp"
    rw [d64, j26, mr]
    refine w_ixS (by omega) (letters_at lr) ?_
    walk_at "wp"
    rw [d1664, mo]
    refine w_ixS (by omega) (letters_at lo) ?_
    walk_at "wp"
    refine w_mulS (show (1 : Nat) ≤ 1000 by decide) (by omega) (by omega) ?_
    rw [mul_code]
    walk_at "wp"
    refine w_catS (by
      show (List.replicate _ _).toArray.size + 1 ≤ _
      simp only [List.size_toArray, List.length_replicate]
      omega) ?_
    have ew : mk (List.replicate (z / 8 % (1 + z % 8)) (97 + (z / 64 + j / 26) % 26)) ++ (⟨#[97 + (z / 1664 + 5 * j) % 26]⟩ : Str) = mk (List.replicate (z / 8 % (1 + z % 8)) (97 + (z / 64 + j / 26) % 26) ++ [97 + (z / 1664 + 5 * j) % 26]) := cat_mk _ [_]
    rw [ew]
    walk_at "wp"
    have es : (1 : Int) + ((z % 8 : Nat) : Int) - 1 - ((z / 8 % (1 + z % 8) : Nat) : Int) = ((1 + z % 8 - 1 - z / 8 % (1 + z % 8) : Nat) : Int) := by omega
    rw [es]
    refine w_mulS (show (1 : Nat) ≤ 1000 by decide) (by omega) (by omega) ?_
    rw [mul_code]
    refine w_catS (by
      show (_ : List Nat).toArray.size + (_ : List Nat).toArray.size ≤ _
      simp only [List.size_toArray, List.length_append, List.length_replicate, List.length_singleton]
      omega) ?_
    rw [cat_mk]
    have eb : List.replicate (z / 8 % (1 + z % 8)) (97 + (z / 64 + j / 26) % 26) ++ [97 + (z / 1664 + 5 * j) % 26] ++ List.replicate (1 + z % 8 - 1 - z / 8 % (1 + z % 8)) (97 + (z / 64 + j / 26) % 26) = wordB z j := rfl
    rw [eb]
    walk_at "wp"
    refine w_cut (fun σ' H' => ∃ a b c d, σ' = [some (.int (z : Nat)), some (.int (j : Nat)), a, b, c, d, some (.str (⟨#[97 + (z / 1664 + 5 * j) % 26]⟩ : Str)), some (.str (mk (wordC z j)))] ∧ H' = H) ?_ (fun σ' H' hm => ?_)
    · walk_at "wp"
      refine w_dec (fun h1 => ?_) (fun h1 => ?_)
      · walk_at "wp"
        refine w_dec (fun h2 => ?_) (fun h2 => ?_)
        · walk_at "wp"
          rw [j26]
          refine w_ixS (by have : (Str.ofString "abcd").length = 4 := by decide +kernel
                           omega) (abcd_at (k := j / 26) (by omega)) ?_
          have hl := wordB_len z j
          refine w_catS (by
            show (wordB z j).toArray.size + 1 ≤ _
            simp only [List.size_toArray]
            omega) ?_
          have e3 : mk (wordB z j) ++ (⟨#[97 + j / 26]⟩ : Str) = mk (wordC z j) := by
            have : wordC z j = wordB z j ++ [97 + j / 26] := if_pos ⟨by omega, by omega⟩
            rw [this]
            exact cat_mk _ [_]
          rw [e3]
          walk_at "wp"
          exact ⟨_, _, _, _, rfl, rfl⟩
        · walk_at "wp"
          have : wordC z j = wordB z j := if_neg (fun z => h2 (by omega))
          rw [this]
          exact ⟨_, _, _, _, rfl, rfl⟩
      · walk_at "wp"
        have : wordC z j = wordB z j := if_neg (fun z => h1 (by omega))
        rw [this]
        exact ⟨_, _, _, _, rfl, rfl⟩
    · obtain ⟨a, b, c, d, rfl, rfl⟩ := hm
      walk_at "wp"
      refine newT fun tp H1 ntp etp s1 => ?_
      refine w_inT (ys := res7) (SqT.of etp) ?_
      obtain ⟨hl, _, _⟩ := wordC_ok (s := z) hj
      unfold wordM at q
      walk_at "wp"
      refine w_dec (fun h1 => ?_) (fun h1 => ?_)
      · rw [if_pos h1] at q
        walk_at "wp"
        refine w_catS (by
          show 1 + (wordC z j).toArray.size ≤ _
          simp only [List.size_toArray]
          omega) ?_
        walk_at "wp"
        exact q H1 s1
      · rw [if_neg h1] at q
        walk_at "wp"
        exact q H1 s1
end
end
end Lw

/-! text.replace(written, written + any): the tokens are told apart -/
namespace Tk
open PySem PySem.Spec PyProof.Rows L2 Fw
/-- no token is booked -/
def Bkd (K : PySem.W.Frag) : Prop := PySem.W.nsIn K cStatics sharingNotToldKey = some none
theorem ns_none_of {K : PySem.W.Frag} {h : Heap} {a : Addr} {mg : Str → Option Value} {n : Str} (X : K.In h) (G : h.Ns a mg) (e : PySem.W.nsIn K a n = some none) : mg n = none := by
  obtain ⟨ob, ens, np, h1, h2, _, look⟩ := G
  unfold PySem.W.nsIn at e
  split at e
  · rename_i c0 d0 ens' np' sl0 hl
    have h3 := X _ _ hl
    rw [h1] at h3
    cases h3
    cases h2
    split at e
    · cases e
    · rename_i hfn
      rw [← look]
      unfold nsFind findBy
      rw [Array.find?_toList.symm, hfn]
      rfl
  · cases e
section
variable {X : Cx}
/-- an expression behind which a token is out -/
def PE1 (X : Cx) (e : Expr) (t : TE) : Prop := ∀ (pins : List (Addr × Obj)) (s : Shared) (σ : L2.St) (H : Hp) (Q : VK), Inv X pins σ H s → t σ H Q → wpAny (model X.prog X.w) X.A (eval e X.env) (fun u s' => 1 ≤ s'.toks ∧ EP X pins σ Q u s') X.xe s
theorem pe1_opC {op : Operator} {r : R2} {a : Expr} {ta : TE} {c : Str} {j : Nat} {cp pos : Pos} (ho : OpR X (binaryOp op) r) (ha : PE X a ta) : PE1 X (.BinOp a op (.Constant (.str c) j cp) pos) (tOp r ta (tC (.str c))) := by
  intro pins s σ H Q I h
  refine wpAny_BinOp (thn (ha.run pins s σ H _ I h) fun v s1 ⟨x, H1, I1, r1, q1⟩ => ?_)
  refine Calls.Constant_str ?_
  exact wpAny_mono (wpAny_toks_of (n := 1) (show 1 ≤ s1.toks + 1 by omega) (ho pins _ σ H1 x (.str c) v _ Q (I1.tok _) r1 ⟨s1.toks, rfl⟩ q1)) (fun _ _ h => h) fun _ _ h => h.2
theorem pss_set1 {i : Nat} {x : Str} {e : Expr} {te : TE} {pos' pos : Pos} {rest : List Stmt} {u : TS} (hN : X.N.Nodup) (hi : X.N[i]? = some x) (hx : Loc X.env.scope x) (he : PE1 X e te) (h2 : PSsT X rest u)
    (hs : swapsWith e (some (.Name x pos')) pos.line X.env = pure false := by rfl) (hf : X.fn x = true ∨ X.env.scope.names.lookup x = some .local := by first | exact .inl rfl | exact .inr rfl | assumption) :
    PSs X (.Assign [.Name x pos'] e pos :: rest) (tSeq (tAsg te (gName i)) u) := by
  refine ⟨fun pins s σ H D I h => wpAny_execs_cons (wpAny_Assign_Name (wpAny_mono (he pins s σ H _ I h) (fun v s1 ⟨hk, y, H1, I1, r1, q1⟩ => ?_) fun _ _ z => z) hs)⟩
  refine wpAny_mono (PySem.wpAny_toks (store_ok (Q := fun _ s2 => Inv X pins (σ.set i (some y)) H1 s2) I1 hN hi hx r1 (fun _ I2 => I2) hf)) (fun _ s2 q => ?_) fun _ _ z => z.2
  exact h2 pins s2 _ H1 D (Nat.le_trans hk q.1) q.2 q1
theorem pst_set {i : Nat} {x : Str} {e : Expr} {te : TE} {pos' pos : Pos} (hN : X.N.Nodup) (hi : X.N[i]? = some x) (hx : Loc X.env.scope x) (he : PET X e te) (hs : swapsWith e (some (.Name x pos')) pos.line X.env = pure false := by rfl) (hf : X.fn x = true ∨ X.env.scope.names.lookup x = some .local := by first | exact .inl rfl | exact .inr rfl | assumption) :
    PST X (.Assign [.Name x pos'] e pos) (tAsg te (gName i)) := by
  intro pins s σ H D h0 I h
  refine wpAny_Assign_Name (thn (he pins s σ H _ h0 I h) fun v s1 ⟨y, H1, I1, r1, q1⟩ => ?_) hs
  exact store_ok I1 hN hi hx r1 (fun s2 I2 => ⟨_, H1, I2, q1⟩) hf
def tReplE (to : TE) (y y2 : Str) (te : TE) : TE := fun σ H Q => to σ H fun v H1 => ∃ x, v = .str x ∧ te σ H1 fun u H2 => ∃ r, u = .str r ∧ y2.length + r.length ≤ sizeLine ∧ x.length + (x.length + 1) * (y2 ++ r).length ≤ 16777216 ∧ Q (.str (Txt.replace x y (y2 ++ r))) H2
theorem pet_replE {o e : Expr} {to te : TE} {y y2 : Str} {j j2 : Nat} {c0 c2 bp apos pos : Pos} (hB : Bkd X.K) (ho : PE X o to) (he : PE X e te) (hy : (y2.length == 0) = false := by decide +kernel)
    (hst : starEach [.Constant (.str y) j c0, .BinOp (.Constant (.str y2) j2 c2) .Add e bp] X.env = [(false, eval (.Constant (.str y) j c0) X.env), (false, eval (.BinOp (.Constant (.str y2) j2 c2) .Add e bp) X.env)] := by rfl)
    (hbase : attributeBase o "replace" X.env (eval o X.env) = eval o X.env := by rfl) (hline : (apos.endLine == pos.line) = true := by rfl) :
    PET X (.Call (.Attribute o "replace" apos) [.Constant (.str y) j c0, .BinOp (.Constant (.str y2) j2 c2) .Add e bp] [] pos) (tReplE to y y2 te) := by
  intro pins s σ H Q h0 I h
  refine PySem.Call_method2 hbase hst hline (wpAny_mono (PySem.wpAny_toks (ho.run pins s σ H _ I h)) (fun v s1 q => ?_) fun _ _ z => z.2)
  obtain ⟨hk, v', H1, I1, r1, x, e1, q⟩ := q
  subst e1
  obtain ⟨tx, e2⟩ := r1
  subst e2
  refine ⟨"str", _, PySem.F.plainAttrs_str, PySem.F.slot_str_replace, PySem.F.type_str_replace, typeIs_str _ _ _, (fun _ e => nomatch e), Calls.callWith_builtin rfl (Calls.evalArgs_plain (Calls.spliced_cons ?_))⟩
  refine Calls.Constant_str (Calls.spliced_cons ?_)
  refine wpAny_BinOp (Calls.Constant_str ?_)
  refine wpAny_mono (PySem.wpAny_toks (he.run pins _ σ H1 _ ((I1.tok _).tok _) q)) (fun u s2 q2 => ?_) fun _ _ z => z.2
  obtain ⟨hk2, w', H2, I2, r2, r, e3, hz, hb, q⟩ := q2
  subst e3
  obtain ⟨tr, e4⟩ := r2
  subst e4
  have hk3 : s1.toks + 1 + 1 ≤ s2.toks := hk2
  have nb : NoneBooked s2.heap := by
    obtain ⟨mc, hn, _⟩ := I2.nolimit
    exact ⟨mc, hn, ns_none_of I2.kIn hn hB⟩
  refine PySem.P.add_str ?_
  rw [if_neg (by rw [hy]; exact Bool.false_ne_true)]
  by_cases hr : (r.length == 0) = true
  · rw [if_pos hr]
    show wpAny _ _ _ _ _ _
    refine Calls.spliced_nil ?_
    have er : y2 ++ r = y2 := Str.append_right_empty hr
    rw [er] at hb q
    exact PySem.SC.replaceA (by show s1.toks ≠ 0; omega) (by show s1.toks + 1 ≠ 0; omega) (by show s1.toks ≠ s1.toks + 1; omega) hb (fun t' k => ⟨.str (Txt.replace x y y2), H2, I2.tok k, ⟨t', rfl⟩, q⟩) nb
  · rw [if_neg hr]
    refine ⟨by rw [Str.length_append]; exact hz, ?_⟩
    refine Calls.spliced_nil ?_
    exact PySem.SC.replaceA (by show s1.toks ≠ 0; omega) (by show s2.toks ≠ 0; omega) (by show s1.toks ≠ s2.toks; omega) hb (fun t' k => ⟨.str (Txt.replace x y (y2 ++ r)), H2, I2.tok k, ⟨t', rfl⟩, q⟩) nb
def rStrA : List V → Hp → VK → Prop := fun xs H Q => rStrI xs H Q ∨ ∃ a, xs = [.str a] ∧ Q (.str a) H
theorem c_strA : CallR X (.type "str") rStrA := by
  intro pins s σ H xs us Q I r h
  rcases h with h | h
  · exact c_strI pins s σ H xs us Q I r h
  · exact SkE.call_str_str pins s σ H xs us Q I r h
end
section
variable {σ : L2.St} {H : Hp} {Q : VK} {to te : TE}
theorem w_replE {y y2 : Str} (h : to σ H fun v H1 => ∃ x, v = .str x ∧ te σ H1 fun u H2 => ∃ r, u = .str r ∧ y2.length + r.length ≤ sizeLine ∧ x.length + (x.length + 1) * (y2 ++ r).length ≤ 16777216 ∧ Q (.str (Txt.replace x y (y2 ++ r))) H2) : tReplE to y y2 te σ H Q := h
theorem w_strAi {i : Int} (c : i.natAbs.log2 < 1920) (q : Q (.str (toString i)) H) : rStrA [.int i] H Q := .inl ⟨i, rfl, c, q⟩
theorem w_strAs {a : Str} (q : Q (.str a) H) : rStrA [.str a] H Q := .inr ⟨a, rfl, q⟩
end
end Tk

namespace Lw
open PySem PySem.Spec PyProof.Rows L2 Fw Htx Ob Tx Rd Lk Tk
local macro_rules | `(tactic| walk_at "cond") => `(tactic| first | assumption | (with_reducible exact cdiv_small (by omega) (by omega)) | (with_reducible exact cmul_small (by omega) (by omega)) | (with_reducible exact cpow_mk (by omega) (by omega) (by omega)) | omega)
local macro_rules | `(tactic| walk_at "ne") => `(tactic| first | assumption | exact Ne.symm (by assumption) | exact ne_of_none (by assumption) (by assumption) | exact Ne.symm (ne_of_none (by assumption) (by assumption)))
local macro_rules | `(tactic| walk_at "at") => `(tactic| first
  | assumption
  | (with_reducible exact upd_same)
  | ((with_reducible refine' at_same ?hk ?hh); (case hk => assumption); (case hh => walk_at "at"))
  | ((with_reducible refine' at_keepT ?hk ?hh ?hd); (case hk => assumption); (case hh => walk_at "at"); (case hd => walk_at "at"))
  | ((with_reducible refine' at_keep ?hk ?hh ?hn); (case hk => assumption); (case hh => walk_at "at"); (case hn => walk_at "ne")))
local macro_rules | `(tactic| walk_at "hp") => `(tactic| first
  | assumption
  | (with_reducible exact FrL.sql (by assumption))
  | ((with_reducible refine' SqT.of ?hq); (case hq => walk_at "at")) | ((with_reducible refine' SqL.of ?hq); (case hq => walk_at "at"))
  | ((with_reducible refine' sql_same ?hk ?hh); (case hk => assumption); (case hh => walk_at "hp"))
  | ((with_reducible refine' sql_keep ?hk ?hh ?hn); (case hk => assumption); (case hh => walk_at "hp"); (case hn => walk_at "ne"))
  | ((with_reducible refine' sqt_same ?hk ?hh); (case hk => assumption); (case hh => walk_at "hp")))
local macro_rules | `(tactic| walk_at "wp1") => `(tactic| first
  | with_reducible refine w_mt ?_ | ((with_reducible refine' w_mt1 ?ha ?hl ?_); (case ha => walk_at "at"); (case hl => rfl))
  | with_reducible refine w_fld ?_ | ((with_reducible refine' w_fld1 ?ha (ClsF.cl (cs := clsL) (as := attL) (by assumption) _ ?hc) (ClsF.no (cs := clsL) (as := attL) (by assumption) _ _ ?hn) ?hl ?_); (case ha => walk_at "at"); (case hc => decide +kernel); (case hn => decide +kernel); (case hl => rfl))
  | with_reducible refine w_sfld ?_ | ((with_reducible refine' w_sfld1 ?ha (ClsF.cl (cs := clsL) (as := attL) (by assumption) _ ?hc) (ClsF.no (cs := clsL) (as := attL) (by assumption) _ _ ?hn) ?he ?hl ?_); (case ha => walk_at "at"); (case hc => decide +kernel); (case hn => decide +kernel); (case he => rfl); (case hl => rfl))
  | with_reducible refine w_lk ?_ | ((with_reducible refine' lkL ?ha ?_); (case ha => walk_at "at")) | with_reducible refine w_mkS ?_ | with_reducible refine w_mk ?_ | with_reducible refine w_bas ?_ | with_reducible refine w_m1 ?_ | with_reducible refine w_isS ?_ | with_reducible refine w_bm0 ?_ | with_reducible refine w_iS ?_ | with_reducible refine w_chain ?_
  | with_reducible refine w_inSg ?_ | with_reducible refine w_ninSg ?_
  | with_reducible refine w_rz ?_ | with_reducible refine w_calX ?_ | with_reducible refine w_calS ?_ | with_reducible refine w_row ?_
  | with_reducible refine w_seq ?_ | with_reducible refine w_set ?_ | with_reducible refine w_drop ?_ | with_reducible refine w_ret ?_ | with_reducible refine w_ifS ?_ | with_reducible refine w_next ?_
  | ((with_reducible refine' w_var ?hv ?_); (case hv => rfl)) | with_reducible refine w_c ?_
  | with_reducible refine w_op ?_ | with_reducible refine w_un ?_ | with_reducible refine w_cb ?_ | with_reducible refine w_cal ?_ | with_reducible refine w_cons ?_ | with_reducible refine w_nil ?_
  | with_reducible refine w_plus ?_ | with_reducible refine w_minus ?_ | with_reducible refine w_lt ?_ | with_reducible refine w_le ?_ | with_reducible refine w_gt ?_ | with_reducible refine w_ge ?_
  | with_reducible refine w_eqI ?_ | with_reducible refine w_neI ?_ | with_reducible refine w_eqB ?_ | with_reducible refine w_neB ?_ | with_reducible refine w_eqS ?_ | with_reducible refine w_neS ?_
  | with_reducible refine w_neg ?_ | with_reducible refine w_abs ?_ | with_reducible refine w_intB ?_ | with_reducible refine w_test ?_ | with_reducible refine w_tB ?_ | with_reducible refine w_bl ?_
  | with_reducible refine w_and ?_ | with_reducible refine w_or ?_ | with_reducible refine w_not ?_ | with_reducible refine w_andV ?_ | with_reducible refine w_orV ?_ | with_reducible refine w_notV ?_ | with_reducible refine w_ifE ?_
  | with_reducible refine w_nyes ?_ | with_reducible refine w_nno ?_ | with_reducible refine w_yes ?_ | with_reducible refine w_no ?_
  | ((with_reducible refine' w_ixL ?ha ?hb ?_); (case ha => walk_at "hp"); (case hb => rfl)) | ((with_reducible refine' w_ixT ?ha ?hb ?_); (case ha => walk_at "hp"); (case hb => rfl))
  | ((with_reducible refine' w_lenL ?ha ?_); (case ha => walk_at "hp")) | ((with_reducible refine' w_lenT ?ha ?_); (case ha => walk_at "hp"))
  | with_reducible refine w_min2 ?_ | with_reducible refine w_max2 ?_ | with_reducible refine w_bm ?_ | with_reducible refine w_lc ?_ | ((with_reducible refine' w_tyL ?ha ?_); (case ha => walk_at "at"))
  | with_reducible refine isi_ii ?_ | with_reducible refine isi_ib ?_ | with_reducible refine isi_bb ?_ | with_reducible refine isi_ss ?_
  | ((with_reducible refine' isi_tt ?ha ?_); (case ha => walk_at "at")) | ((with_reducible refine' isi_ll ?ha ?_); (case ha => walk_at "at"))
  | with_reducible refine w_par ?_ | with_reducible refine w_par2 ?_ | with_reducible refine w_for ?_ | with_reducible refine w_iL ?_ | with_reducible refine w_iT ?_ | with_reducible refine w_iR1 ?_ | with_reducible refine w_iR2 ?_
  | with_reducible refine w_tup ?_ | with_reducible refine w_lst ?_
  | with_reducible refine w_asg ?_ | with_reducible refine w_gname ?_ | with_reducible refine w_gcons ?_ | with_reducible refine w_gnil ?_ | with_reducible refine w_gsub ?_
  | ((with_reducible refine' w_gtup ?ha ?hb ?_); (case ha => walk_at "hp"); (case hb => rfl))
  | ((with_reducible refine' w_fdiv ?hc ?_); (case hc => walk_at "cond")) | ((with_reducible refine' w_mul ?hc ?_); (case hc => walk_at "cond"))
  | ((with_reducible refine' w_mod ?hc ?_); (case hc => walk_at "cond")) | ((with_reducible refine' w_pow ?hc ?_); (case hc => walk_at "cond")))
local macro_rules | `(tactic| walk_at "wp") => `(tactic| repeat walk_at "wp1")
section
variable {P : Program} {w : World} {K : PySem.W.Frag} {mg : Str → Option Value} {base : Heap}
/-! ### the law's terms: tuples -/
def TupT (H : Hp) : Addr → Rd.T → Prop
  | a, .num n => H a = some (.tup [.str "n", .int (n : Nat)])
  | a, .kn x none => H a = some (.tup [.str "k", .str x])
  | a, .kn x (some q) => H a = some (.tup [.str "p", .str x, .str q.1, .int q.2])
  | a, .bin i s t => ∃ b c, H a = some (.tup [.str (S4 i), .ref b, .ref c]) ∧ TupT H b s ∧ TupT H c t
theorem TupT.keep {H H' : Hp} (k : KeepN H H') : ∀ {t : Rd.T} {a : Addr}, TupT H a t → TupT H' a t
  | .num n, a, h => k _ _ trivial h
  | .kn x none, a, h => k _ _ trivial h
  | .kn x (some q), a, h => k _ _ trivial h
  | .bin i s t, a, h => by
    obtain ⟨b, c, h1, h2, h3⟩ := h
    exact ⟨b, c, k _ _ trivial h1, TupT.keep k h2, TupT.keep k h3⟩
theorem DiceAt.kn {H H' : Hp} {d : Addr} (D : DiceAt K H d) (k : Fw.Keep d H H') : KeepN H H' := by
  obtain ⟨a, ns, i, x, c, h1, _⟩ := D.ex
  exact Keep.keepL k h1
theorem DiceAt.some {H : Hp} {d : Addr} (D : DiceAt K H d) : ∃ o, H d = Option.some o := by
  obtain ⟨a, ns, i, x, c, h1, _⟩ := D.ex
  exact ⟨_, h1⟩
theorem S4_tag {i : Nat} (hi : i < 4) : S4 i ≠ "n" ∧ S4 i ≠ "k" ∧ S4 i ≠ "p" := by
  rcases S4_cases hi with ⟨_, e⟩ | ⟨_, e⟩ | ⟨_, e⟩ | ⟨_, e⟩ <;> (rw [e]; exact ⟨by decide, by decide, by decide⟩)
theorem S4_rank {i : Nat} (hi : i < 4) : (i < 2 ∧ rk i = 1 ∧ S4 i ≠ "*" ∧ S4 i ≠ "/") ∨ (rk i = 2 ∧ (S4 i = "*" ∨ (S4 i ≠ "*" ∧ S4 i = "/"))) := by
  rcases S4_cases hi with ⟨rfl, e⟩ | ⟨rfl, e⟩ | ⟨rfl, e⟩ | ⟨rfl, e⟩
  · exact .inl ⟨by omega, rfl, by decide, by decide⟩
  · exact .inl ⟨by omega, rfl, by decide, by decide⟩
  · exact .inr ⟨rfl, .inl rfl⟩
  · exact .inr ⟨rfl, .inr ⟨by decide, rfl⟩⟩
def spSaid (d : Nat) : Sp := fun vs H Q _ => ∃ a t, ∃ f : Nat, vs = [.ref a, .int (f : Nat)] ∧ TupT H a t ∧ TGood t ∧ t.depth ≤ d ∧ t.leaves ≤ 60 ∧ f ≤ 3 ∧ Q (.str (t.bnd f)) H
theorem bnd_leafN {n f : Nat} (h : f ≤ 3) : (Rd.T.num n).bnd f = (toString (n : Int) : Str) := by
  show Rd.T.brk (decide (3 < f)) _ = _
  rw [decide_eq_false (by omega)]
  rfl
theorem bnd_leafK {x : Str} {f : Nat} (h : f ≤ 3) : (Rd.T.kn x none).bnd f = x := by
  show Rd.T.brk (decide (3 < f)) _ = _
  rw [decide_eq_false (by omega)]
  rfl
theorem bnd_len {t : Rd.T} (h : TGood t) (f : Nat) : (t.bnd f).length ≤ 2500 * t.leaves := by
  have h1 := told_len h.ok
  have h2 := brk_len (decide (t.rank < f)) t.told
  show (Rd.T.brk _ _).length ≤ _
  omega
section
variable (T : Fre mg)
include T
theorem said_at (F : Def K mg "_law_said" s_l_said) : ∀ d, Cal P w K mg base (d + 1) "_law_said" ["_law_term_here", "_law_firm"] (spSaid d)
  | 0 => by
    have no : ∀ vs H Q E, ¬ spSaid 0 vs H Q E := fun vs H Q E h => by
      obtain ⟨_, t, _, _, _, _, hd, _⟩ := h
      have := Rd.T.depth_pos t
      omega
    exact cal_of F sc_l_said b_l_said (fun vs H Q E h => (no _ _ _ _ h).elim) (fun _ _ _ _ _ _ _ _ _ h => (no _ _ _ _ h).elim)
  | d + 1 => by
    have c_l_said := said_at F d
    refine cal_of F sc_l_said b_l_said (fun vs H Q E h => ?_) (fun cdv A outer s H vs Q E hr h => ?_)
    · obtain ⟨_, _, _, rfl, _⟩ := h
      rfl
    · obtain ⟨a, t, f, rfl, ta, ok, hd, hl, hf, q⟩ := h
      have sl : sizeLine = 16777216 := sizeLine_eq
      have po := passes_of (X := cxOf (L2N.CX P w) P w K mg base ["_law_term_here", "_law_firm", "_law_place", "_law_rank", "_law_text"] "_law_said" (defScope s_l_said) (He.ga K "_law_said") cdv A outer s H E) rfl
      have tk := L2N.takes_of (X := cxOf (L2N.CX P w) P w K mg base ["_law_term_here", "_law_firm", "_law_place", "_law_rank", "_law_text"] "_law_said" (defScope s_l_said) (He.ga K "_law_said") cdv A outer s H E) (E := E) rfl rfl rfl rfl
      have pc := L2N.passes_call tk (fun _ _ _ _ h => h) (E := E)
      have hu64 : (cxOf (L2N.CX P w) P w K mg base ["_law_term_here", "_law_firm", "_law_place", "_law_rank", "_law_text"] "_law_said" (defScope s_l_said) (He.ga K "_law_said") cdv A outer s H E).A.units + 64 < cLine := by
        have := hr.un
        show (A.deeper _).units + 64 < cLine
        omega
      refine ⟨_, (pss_cons (ps_if (pt_cmpR op_eq (pe_ix (ixT (K := K) rfl) (pv 0) pe_int (fun _ _ => rfl)) pe_str (nomark _)) (pss_one (ps_ret (pe_callTy c_strI (by rfl) T.f_str (by decide +kernel) (pa_cons (pe_ix (ixT (K := K) rfl) (pv 0) pe_int (fun _ _ => rfl)) pa_nil)))) pss_nil)
      (pss_cons (ps_if (pt_cmpR op_eq (pe_ix (ixT (K := K) rfl) (pv 0) pe_int (fun _ _ => rfl)) pe_str (nomark _)) (pss_one (ps_ret (pe_ix (ixT (K := K) rfl) (pv 0) pe_int (fun _ _ => rfl)))) pss_nil)
      (pss_cons (ps_if (pt_cmpR op_eq (pe_ix (ixT (K := K) rfl) (pv 0) pe_int (fun _ _ => rfl)) pe_str (nomark _)) (pss_cons (ps_set (i := 2) sc_l_said.nd rfl (loc_of rfl) (pe_ix (ixT (K := K) rfl) (pv 0) pe_int (fun _ _ => rfl)))
      (pss_cons (ps_if (pt_cmpR op_eq (pv 2) pe_str (nomark _)) (pss_one (ps_set (i := 2) sc_l_said.nd rfl (loc_of rfl) (pe_callTy c_strI (by rfl) T.f_str (by decide +kernel) (pa_cons (pe_ix (ixT (K := K) rfl) (pv 0) pe_int (fun _ _ => rfl)) pa_nil)))) (pss_one (ps_if (pt_cmpR o_gt (pe_ix (ixT (K := K) rfl) (pv 0) pe_int (fun _ _ => rfl)) pe_int (nomark _)) (pss_one (ps_set (i := 2) sc_l_said.nd rfl (loc_of rfl) (pe_op o_catS (pe_op o_catS (pv 2) pe_str) (pe_callTy c_strI (by rfl) T.f_str (by decide +kernel) (pa_cons (pe_ix (ixT (K := K) rfl) (pv 0) pe_int (fun _ _ => rfl)) pa_nil))))) (pss_one (ps_if (pt_cmpR o_lt (pe_ix (ixT (K := K) rfl) (pv 0) pe_int (fun _ _ => rfl)) pe_int (nomark _)) (pss_one (ps_set (i := 2) sc_l_said.nd rfl (loc_of rfl) (pe_op o_catS (pe_op o_catS (pv 2) pe_str) (pe_callTy c_strI (by rfl) T.f_str (by decide +kernel) (pa_cons (pe_op o_sub pe_int (pe_ix (ixT (K := K) rfl) (pv 0) pe_int (fun _ _ => rfl))) pa_nil))))) pss_nil)))))
      (pss_one (ps_ret (pe_op o_catS (pe_op o_catS (pe_op o_catS (pe_ix (ixT (K := K) rfl) (pv 0) pe_int (fun _ _ => rfl)) pe_str) (pv 2)) pe_str))))) pss_nil)
      (pss_cons (ps_set (i := 3) sc_l_said.nd rfl (loc_of rfl) pe_int)
      (Evl.pss_cut (ps_if (PW.pt (pw_or (pt_cmpR op_eq (pe_ix (ixT (K := K) rfl) (pv 0) pe_int (fun _ _ => rfl)) pe_str (nomark _)) (pw_or1 (pt_cmpR op_eq (pe_ix (ixT (K := K) rfl) (pv 0) pe_int (fun _ _ => rfl)) pe_str (nomark _))))) (pss_one (ps_set (i := 3) sc_l_said.nd rfl (loc_of rfl) pe_int)) pss_nil)
      (pss_cons (ps_set (i := 4) sc_l_said.nd rfl (loc_of rfl) (pe_op o_catS (pe_op o_catS (pe_op o_catS (pe_op o_catS (pe_cal c_l_said hr (by omega) pc (pa_cons (pe_ix (ixT (K := K) rfl) (pv 0) pe_int (fun _ _ => rfl)) (pa_cons (pv 3) pa_nil))) pe_str) (pe_ix (ixT (K := K) rfl) (pv 0) pe_int (fun _ _ => rfl))) pe_str) (pe_cal c_l_said hr (by omega) pc (pa_cons (pe_ix (ixT (K := K) rfl) (pv 0) pe_int (fun _ _ => rfl)) (pa_cons (pe_op o_add (pv 3) pe_int) pa_nil)))))
      (pss_cons (ps_if (pt_cmpR o_lt (pv 3) (pv 1) (nomark _)) (pss_one (ps_ret (pe_op o_catS (pe_op o_catS pe_str (pv 4)) pe_str))) pss_nil)
      (pss_one (ps_ret (pv 4)))))))))), ?_⟩
      refine w_start [some (.ref a), some (.int (f : Nat)), none, none, none] rfl ?_
      try dsimp only [cxOf]
      match t, ta, ok, hd, hl, q with
      | .num n, ta, ok, hd, hl, q =>
        have hn : n < 100 := ok
        have ea : H a = some (.tup [.str "n", .int (n : Nat)]) := ta
        rw [bnd_leafN hf] at q
        walk_at "wp"
        refine w_decY rfl ?_
        walk_at "wp"
        exact w_strI (lg (n := 10) (by omega) (by decide) (by decide)) q
      | .kn x none, ta, ok, hd, hl, q =>
        have ea : H a = some (.tup [.str "k", .str x]) := ta
        rw [bnd_leafK hf] at q
        walk_at "wp"
        refine w_decO (by decide) ?_
        walk_at "wp"
        refine w_decY rfl ?_
        walk_at "wp"
        exact q
      | .kn x (some p), ta, ok, hd, hl, q => exact ok.elim
      | .bin i t1 t2, ta, ok, hd, hl, q =>
        obtain ⟨hi, ok1, ok2⟩ := ok
        obtain ⟨b, c, ea, tb, tc⟩ := ta
        obtain ⟨n1, n2, n3⟩ := S4_tag hi
        have hd' : max t1.depth t2.depth + 1 ≤ d + 1 := hd
        have hl' : t1.leaves + t2.leaves ≤ 60 := hl
        have p1 := (depth_leaves t1).2
        have p2 := (depth_leaves t2).2
        have l1 := bnd_len ok1
        have l2 := bnd_len ok2
        have ls := S4_len hi
        have e1 : (Str.ofString " ").length = 1 := by decide +kernel
        have e2 : (Str.ofString "(").length = 1 := by decide +kernel
        have e3 : (Str.ofString ")").length = 1 := by decide +kernel
        have hrk : rk i = 1 ∨ rk i = 2 := by
          unfold rk
          split
          · exact .inl rfl
          · exact .inr rfl
        have l1 := l1 (rk i)
        have l2 := l2 (rk i + 1)
        walk_at "wp"
        refine w_decO n1 ?_
        walk_at "wp"
        refine w_decO n2 ?_
        walk_at "wp"
        refine w_decO n3 ?_
        walk_at "wp"
        refine w_cut (fun σ' H' => σ' = [some (.ref a), some (.int (f : Nat)), none, some (.int (rk i : Nat)), none] ∧ H' = H) ?_ (fun σ' H' hm => ?_)
        · walk_at "wp"
          rcases S4_rank hi with ⟨_, er, m1, m2⟩ | ⟨er, m | ⟨m1, m2⟩⟩
          · refine w_decO m1 ?_
            walk_at "wp"
            refine w_decO m2 ?_
            walk_at "wp"
            rw [er]
            exact ⟨rfl, rfl⟩
          · refine w_decY m ?_
            walk_at "wp"
            rw [er]
            exact ⟨rfl, rfl⟩
          · refine w_decO m1 ?_
            walk_at "wp"
            refine w_decY m2 ?_
            walk_at "wp"
            rw [er]
            exact ⟨rfl, rfl⟩
        · obtain ⟨rfl, rfl⟩ := hm
          walk_at "wp"
          refine ⟨b, t1, rk i, rfl, tb, ok1, by omega, by omega, by omega, ?_⟩
          walk_at "wp"
          refine w_catS (by omega) ?_
          walk_at "wp"
          refine w_catS (by rw [Str.length_append]; omega) ?_
          walk_at "wp"
          refine w_catS (by rw [Str.length_append, Str.length_append]; omega) ?_
          walk_at "wp"
          have er1 : (rk i : Int) + 1 = ((rk i + 1 : Nat) : Int) := by omega
          rw [er1]
          refine ⟨c, t2, rk i + 1, rfl, tc, ok2, by omega, by omega, by omega, ?_⟩
          refine w_catS (by rw [Str.length_append, Str.length_append, Str.length_append]; omega) ?_
          walk_at "wp"
          have eb : (Rd.T.bin i t1 t2).bnd f = Rd.T.brk (decide (rk i < f)) (t1.bnd (rk i) ++ " " ++ S4 i ++ " " ++ t2.bnd (rk i + 1)) := rfl
          rw [eb] at q
          generalize hx : t1.bnd (rk i) ++ Str.ofString " " ++ S4 i ++ Str.ofString " " ++ t2.bnd (rk i + 1) = x at q
          have lx : x.length ≤ 160000 := by
            rw [← hx, Str.length_append, Str.length_append, Str.length_append, Str.length_append]
            omega
          refine w_dec (fun h1 => ?_) (fun h1 => ?_)
          · rw [decide_eq_true (by omega)] at q
            walk_at "wp"
            refine w_catS (by omega) ?_
            walk_at "wp"
            refine w_catS (by rw [Str.length_append]; omega) ?_
            exact q
          · rw [decide_eq_false (by omega)] at q
            walk_at "wp"
            exact q
end
/-! ### drawn terms -/
def spLTerm (K : PySem.W.Frag) (k : Nat) : Sp := fun vs H Q _ => ∃ d l, ∃ names : List Str, vs = [.ref d, .ref l, .int (k : Nat)] ∧ DiceAt K H d ∧ H l = some (.lst (names.map V.str)) ∧ l ≠ d ∧ (∀ x ∈ names, Nm x) ∧ 1 ≤ names.length ∧ names.length ≤ 100 ∧
  ∀ a t H', TupT H' a t → TGood t → t.depth ≤ k + 1 → t.leaves ≤ 2 ^ k → DiceAt K H' d → Fw.Keep d H H' → Q (.ref a) H'
theorem at_str {names : List Str} {r : Int} (h0 : 0 ≤ r) (h : r.toNat < names.length) : atI (names.map V.str) r = some (.str names[r.toNat]) := by
  have e : r = ((r.toNat : Nat) : Int) := by omega
  have h2 : atI (names.map V.str) ((r.toNat : Nat) : Int) = some (.str names[r.toNat]) := atI_nat (by
    rw [List.getElem?_map, List.getElem?_eq_getElem h]
    rfl)
  rwa [← e] at h2
theorem four_at {k : Nat} (h : k < 4) : atI (Str.ofString "+-*/").cps.toList (k : Int) = some (sgC k) ∧ (⟨#[sgC k]⟩ : Str) = S4 k := by
  have h : k = 0 ∨ k = 1 ∨ k = 2 ∨ k = 3 := by omega
  rcases h with rfl | rfl | rfl | rfl <;> decide +kernel
section
variable (T : Fre mg)
include T
theorem term_at (F : Def K mg "_law_term" s_l_term) (c_l_next : Cal P w K mg base 1 "_law_next" ["_law_dice_here", "_law_many"] (spNext K)) : ∀ k, Cal P w K mg base (k + 2) "_law_term" ["_law_dice_here", "_law_names", "_law_deep"] (spLTerm K k)
  | 0 => by
    have m0 : Cal P w K mg base 1 "_law_term" ["_law_dice_here", "_law_names", "_law_deep"] (fun _ _ _ _ => False) := cal_of F sc_l_term b_l_term (fun _ _ _ _ h => h.elim) (fun _ _ _ _ _ _ _ _ _ h => h.elim)
    have c_l_term := m0
    refine cal_of F sc_l_term b_l_term (fun vs H Q E h => ?_) (fun cdv A outer s H vs Q E hr h => ?_)
    · obtain ⟨_, _, _, rfl, _⟩ := h
      rfl
    · obtain ⟨d, l, names, rfl, D, el, nld, hn, h1, h2, q⟩ := h
      have po := passes_of (X := cxOf (L2N.CX P w) P w K mg base ["_law_dice_here", "_law_names", "_law_deep", "_law_way", "_law_sign", "_law_one"] "_law_term" (defScope s_l_term) (He.ga K "_law_term") cdv A outer s H E) rfl
      have tk := L2N.takes_of (X := cxOf (L2N.CX P w) P w K mg base ["_law_dice_here", "_law_names", "_law_deep", "_law_way", "_law_sign", "_law_one"] "_law_term" (defScope s_l_term) (He.ga K "_law_term") cdv A outer s H E) (E := E) rfl rfl rfl rfl
      have pc := L2N.passes_call tk (fun _ _ _ _ h => h) (E := E)
      have hu64 : (cxOf (L2N.CX P w) P w K mg base ["_law_dice_here", "_law_names", "_law_deep", "_law_way", "_law_sign", "_law_one"] "_law_term" (defScope s_l_term) (He.ga K "_law_term") cdv A outer s H E).A.units + 64 < cLine := by
        have := hr.un
        show (A.deeper _).units + 64 < cLine
        omega
      refine ⟨_, (pss_cons (ps_if (PW.pt (pw_or (pt_cmpR op_eq (pv 2) pe_int (nomark _)) (pw_or1 (pt_cmpR op_eq (pe_cal c_l_next hr (by omega) pc (pa_cons (pv 0) (pa_cons pe_int pa_nil))) pe_int (nomark _))))) (pss_cons (ps_set (i := 3) sc_l_term.nd rfl (loc_of rfl) (pe_cal c_l_next hr (by omega) pc (pa_cons (pv 0) (pa_cons (pe_op o_add (pe_callB (c_lenK (K := K) rfl) (by rfl) T.f_len (by decide +kernel) (pa_cons (pv 1) pa_nil)) pe_int) pa_nil))))
      (pss_cons (ps_if (pt_cmpR o_lt (pv 3) (pe_callB (c_lenK (K := K) rfl) (by rfl) T.f_len (by decide +kernel) (pa_cons (pv 1) pa_nil)) (nomark _)) (pss_one (ps_ret (pe_tup (pa_cons pe_str (pa_cons (pe_ix (ixL (K := K) rfl) (pv 1) (pv 3) (fun _ _ => rfl)) pa_nil))))) pss_nil)
      (pss_one (ps_ret (pe_tup (pa_cons pe_str (pa_cons (pe_cal c_l_next hr (by omega) pc (pa_cons (pv 0) (pa_cons pe_int pa_nil))) pa_nil))))))) pss_nil)
      (pss_cons (ps_set (i := 4) sc_l_term.nd rfl (loc_of rfl) (pe_ix ix_str pe_str (pe_cal c_l_next hr (by omega) pc (pa_cons (pv 0) (pa_cons pe_int pa_nil))) (fun _ _ => rfl)))
      (pss_cons (ps_set (i := 5) sc_l_term.nd rfl (loc_of rfl) (pe_cal c_l_term hr (by omega) pc (pa_cons (pv 0) (pa_cons (pv 1) (pa_cons (pe_op o_sub (pv 2) pe_int) pa_nil)))))
      (pss_one (ps_ret (pe_tup (pa_cons (pv 4) (pa_cons (pv 5) (pa_cons (pe_cal c_l_term hr (by omega) pc (pa_cons (pv 0) (pa_cons (pv 1) (pa_cons (pe_op o_sub (pv 2) pe_int) pa_nil)))) pa_nil))))))))), ?_⟩
      refine w_start [some (.ref d), some (.ref l), some (.int ((0 : Nat) : Int)), none, none, none] rfl ?_
      try dsimp only [cxOf]
      walk_at "wp"
      refine w_decY rfl ?_
      walk_at "wp"
      rw [List.length_map]
      refine ⟨d, _, rfl, D, by omega, lg (n := 20) (by omega) (by decide) (by decide), fun r H1 a1 b1 D1 k1 => ?_⟩
      have el1 := k1 _ _ nld el
      walk_at "wp"
      rw [List.length_map]
      refine w_dec (fun h3 => ?_) (fun h3 => ?_)
      · have hlt : r.toNat < names.length := by omega
        have er : r = ((r.toNat : Nat) : Int) := by omega
        walk_at "wp"
        refine w_ixL (SqL.of el1) (v := .str names[r.toNat]) (at_str a1 hlt) ?_
        walk_at "wp"
        refine newT fun a H2 na ea s2 => ?_
        exact q a (.kn names[r.toNat] none) H2 ea (hn _ (List.getElem_mem hlt)) (Nat.le_refl _) (Nat.le_refl _) (D1.same s2) (k1.same s2)
      · walk_at "wp"
        refine ⟨d, 100, rfl, D1, by decide, by decide, fun n H2 a2 b2 D2 k2 => ?_⟩
        walk_at "wp"
        refine newT fun a H3 na ea s3 => ?_
        have en : n = ((n.toNat : Nat) : Int) := by omega
        rw [en] at ea
        exact q a (.num n.toNat) H3 ea (show n.toNat < 100 by omega) (Nat.le_refl _) (Nat.le_refl _) (D2.same s3) ((k1.trans k2).same s3)
  | k + 1 => by
    have c_l_term := term_at F c_l_next k
    refine cal_of F sc_l_term b_l_term (fun vs H Q E h => ?_) (fun cdv A outer s H vs Q E hr h => ?_)
    · obtain ⟨_, _, _, rfl, _⟩ := h
      rfl
    · obtain ⟨d, l, names, rfl, D, el, nld, hn, h1, h2, q⟩ := h
      have hp : (2 : Nat) ^ (k + 1) = 2 ^ k + 2 ^ k := by rw [Nat.pow_succ]; omega
      have hp1 : 1 ≤ (2 : Nat) ^ k := Nat.one_le_two_pow
      have po := passes_of (X := cxOf (L2N.CX P w) P w K mg base ["_law_dice_here", "_law_names", "_law_deep", "_law_way", "_law_sign", "_law_one"] "_law_term" (defScope s_l_term) (He.ga K "_law_term") cdv A outer s H E) rfl
      have tk := L2N.takes_of (X := cxOf (L2N.CX P w) P w K mg base ["_law_dice_here", "_law_names", "_law_deep", "_law_way", "_law_sign", "_law_one"] "_law_term" (defScope s_l_term) (He.ga K "_law_term") cdv A outer s H E) (E := E) rfl rfl rfl rfl
      have pc := L2N.passes_call tk (fun _ _ _ _ h => h) (E := E)
      have hu64 : (cxOf (L2N.CX P w) P w K mg base ["_law_dice_here", "_law_names", "_law_deep", "_law_way", "_law_sign", "_law_one"] "_law_term" (defScope s_l_term) (He.ga K "_law_term") cdv A outer s H E).A.units + 64 < cLine := by
        have := hr.un
        show (A.deeper _).units + 64 < cLine
        omega
      refine ⟨_, (pss_cons (ps_if (PW.pt (pw_or (pt_cmpR op_eq (pv 2) pe_int (nomark _)) (pw_or1 (pt_cmpR op_eq (pe_cal c_l_next hr (by omega) pc (pa_cons (pv 0) (pa_cons pe_int pa_nil))) pe_int (nomark _))))) (pss_cons (ps_set (i := 3) sc_l_term.nd rfl (loc_of rfl) (pe_cal c_l_next hr (by omega) pc (pa_cons (pv 0) (pa_cons (pe_op o_add (pe_callB (c_lenK (K := K) rfl) (by rfl) T.f_len (by decide +kernel) (pa_cons (pv 1) pa_nil)) pe_int) pa_nil))))
      (pss_cons (ps_if (pt_cmpR o_lt (pv 3) (pe_callB (c_lenK (K := K) rfl) (by rfl) T.f_len (by decide +kernel) (pa_cons (pv 1) pa_nil)) (nomark _)) (pss_one (ps_ret (pe_tup (pa_cons pe_str (pa_cons (pe_ix (ixL (K := K) rfl) (pv 1) (pv 3) (fun _ _ => rfl)) pa_nil))))) pss_nil)
      (pss_one (ps_ret (pe_tup (pa_cons pe_str (pa_cons (pe_cal c_l_next hr (by omega) pc (pa_cons (pv 0) (pa_cons pe_int pa_nil))) pa_nil))))))) pss_nil)
      (pss_cons (ps_set (i := 4) sc_l_term.nd rfl (loc_of rfl) (pe_ix ix_str pe_str (pe_cal c_l_next hr (by omega) pc (pa_cons (pv 0) (pa_cons pe_int pa_nil))) (fun _ _ => rfl)))
      (pss_cons (ps_set (i := 5) sc_l_term.nd rfl (loc_of rfl) (pe_cal c_l_term hr (by omega) pc (pa_cons (pv 0) (pa_cons (pv 1) (pa_cons (pe_op o_sub (pv 2) pe_int) pa_nil)))))
      (pss_one (ps_ret (pe_tup (pa_cons (pv 4) (pa_cons (pv 5) (pa_cons (pe_cal c_l_term hr (by omega) pc (pa_cons (pv 0) (pa_cons (pv 1) (pa_cons (pe_op o_sub (pv 2) pe_int) pa_nil)))) pa_nil))))))))), ?_⟩
      refine w_start [some (.ref d), some (.ref l), some (.int ((k + 1 : Nat) : Int)), none, none, none] rfl ?_
      try dsimp only [cxOf]
      walk_at "wp"
      refine w_decO (by omega) ?_
      walk_at "wp"
      refine ⟨d, 4, rfl, D, by decide, by decide, fun r0 H0 a0 b0 D0 k0 => ?_⟩
      have el0 := k0 _ _ nld el
      walk_at "wp"
      refine w_dec (fun h0 => ?_) (fun h0 => ?_)
      · walk_at "wp"
        rw [List.length_map]
        refine ⟨d, _, rfl, D0, by omega, lg (n := 20) (by omega) (by decide) (by decide), fun r H1 a1 b1 D1 k1 => ?_⟩
        have el1 := k1 _ _ nld el0
        have k01 := k0.trans k1
        walk_at "wp"
        rw [List.length_map]
        refine w_dec (fun h3 => ?_) (fun h3 => ?_)
        · have hlt : r.toNat < names.length := by omega
          have er : r = ((r.toNat : Nat) : Int) := by omega
          walk_at "wp"
          refine w_ixL (SqL.of el1) (v := .str names[r.toNat]) (at_str a1 hlt) ?_
          walk_at "wp"
          refine newT fun a H2 na ea s2 => ?_
          exact q a (.kn names[r.toNat] none) H2 ea (hn _ (List.getElem_mem hlt)) (show 1 ≤ k + 1 + 1 by omega) (show 1 ≤ 2 ^ (k + 1) by omega) (D1.same s2) (k01.same s2)
        · walk_at "wp"
          refine ⟨d, 100, rfl, D1, by decide, by decide, fun n H2 a2 b2 D2 k2 => ?_⟩
          walk_at "wp"
          refine newT fun a H3 na ea s3 => ?_
          have en : n = ((n.toNat : Nat) : Int) := by omega
          rw [en] at ea
          exact q a (.num n.toNat) H3 ea (show n.toNat < 100 by omega) (show 1 ≤ k + 1 + 1 by omega) (show 1 ≤ 2 ^ (k + 1) by omega) (D2.same s3) ((k01.trans k2).same s3)
      · walk_at "wp"
        refine ⟨d, 4, rfl, D0, by decide, by decide, fun r H1 a1 b1 D1 k1 => ?_⟩
        have el1 := k1 _ _ nld el0
        have k01 := k0.trans k1
        have er : r = ((r.toNat : Nat) : Int) := by omega
        obtain ⟨f1, f2⟩ := four_at (k := r.toNat) (by omega)
        refine w_ixS (by have : (Str.ofString "+-*/").length = 4 := by decide +kernel
                         have := sizeLine_eq
                         omega) (c := sgC r.toNat) (by rw [er, Int.toNat_natCast]; exact f1) ?_
        rw [f2]
        have ek : ((k + 1 : Nat) : Int) - 1 = ((k : Nat) : Int) := by omega
        walk_at "wp"
        rw [ek]
        refine ⟨d, l, names, rfl, D1, el1, nld, hn, h1, h2, fun b t1 H2 tb g1 d1 v1 D2 k2 => ?_⟩
        have el2 := k2 _ _ nld el1
        walk_at "wp"
        rw [ek]
        refine ⟨d, l, names, rfl, D2, el2, nld, hn, h1, h2, fun c t2 H3 tc g2 d2 v2 D3 k3 => ?_⟩
        walk_at "wp"
        refine newT fun a H4 na ea s4 => ?_
        refine q a (.bin r.toNat t1 t2) H4 ⟨b, c, ea, (tb.keep (D2.kn k3)).keep s4.keepN, tc.keep s4.keepN⟩ ⟨by omega, g1, g2⟩ ?_ ?_ (D3.same s4) (((k01.trans k2).trans k3).same s4)
        · show max t1.depth t2.depth + 1 ≤ k + 1 + 1
          omega
        · show t1.leaves + t2.leaves ≤ 2 ^ (k + 1)
          omega
end
end
end Lw

namespace Lw
open PySem PySem.Spec PyProof.Rows L2 Fw Htx Ob Tx Rd Lk Tk
local macro_rules | `(tactic| walk_at "cond") => `(tactic| first | assumption | (with_reducible exact cdiv_small (by omega) (by omega)) | (with_reducible exact cmul_small (by omega) (by omega)) | (with_reducible exact cpow_mk (by omega) (by omega) (by omega)) | omega)
local macro_rules | `(tactic| walk_at "ne") => `(tactic| first | assumption | exact Ne.symm (by assumption) | exact ne_of_none (by assumption) (by assumption) | exact Ne.symm (ne_of_none (by assumption) (by assumption)))
local macro_rules | `(tactic| walk_at "at") => `(tactic| first
  | assumption
  | (with_reducible exact upd_same)
  | ((with_reducible refine' at_same ?hk ?hh); (case hk => assumption); (case hh => walk_at "at"))
  | ((with_reducible refine' at_keepT ?hk ?hh ?hd); (case hk => assumption); (case hh => walk_at "at"); (case hd => walk_at "at"))
  | ((with_reducible refine' at_keep ?hk ?hh ?hn); (case hk => assumption); (case hh => walk_at "at"); (case hn => walk_at "ne")))
local macro_rules | `(tactic| walk_at "hp") => `(tactic| first
  | assumption
  | (with_reducible exact FrL.sql (by assumption))
  | ((with_reducible refine' SqT.of ?hq); (case hq => walk_at "at")) | ((with_reducible refine' SqL.of ?hq); (case hq => walk_at "at"))
  | ((with_reducible refine' sql_same ?hk ?hh); (case hk => assumption); (case hh => walk_at "hp"))
  | ((with_reducible refine' sql_keep ?hk ?hh ?hn); (case hk => assumption); (case hh => walk_at "hp"); (case hn => walk_at "ne"))
  | ((with_reducible refine' sqt_same ?hk ?hh); (case hk => assumption); (case hh => walk_at "hp")))
local macro_rules | `(tactic| walk_at "wp1") => `(tactic| first
  | with_reducible refine w_mt ?_ | ((with_reducible refine' w_mt1 ?ha ?hl ?_); (case ha => walk_at "at"); (case hl => rfl))
  | with_reducible refine w_fld ?_ | ((with_reducible refine' w_fld1 ?ha (ClsF.cl (cs := clsL) (as := attL) (by assumption) _ ?hc) (ClsF.no (cs := clsL) (as := attL) (by assumption) _ _ ?hn) ?hl ?_); (case ha => walk_at "at"); (case hc => decide +kernel); (case hn => decide +kernel); (case hl => rfl))
  | with_reducible refine w_sfld ?_ | ((with_reducible refine' w_sfld1 ?ha (ClsF.cl (cs := clsL) (as := attL) (by assumption) _ ?hc) (ClsF.no (cs := clsL) (as := attL) (by assumption) _ _ ?hn) ?he ?hl ?_); (case ha => walk_at "at"); (case hc => decide +kernel); (case hn => decide +kernel); (case he => rfl); (case hl => rfl))
  | with_reducible refine w_lk ?_ | ((with_reducible refine' lkL ?ha ?_); (case ha => walk_at "at")) | with_reducible refine w_mkS ?_ | with_reducible refine w_mk ?_ | with_reducible refine w_bas ?_ | with_reducible refine w_m1 ?_ | with_reducible refine w_isS ?_ | with_reducible refine w_bm0 ?_ | with_reducible refine w_iS ?_ | with_reducible refine w_chain ?_
  | with_reducible refine w_inSg ?_ | with_reducible refine w_ninSg ?_
  | with_reducible refine w_rz ?_ | with_reducible refine w_calX ?_ | with_reducible refine w_calS ?_ | with_reducible refine w_row ?_
  | with_reducible refine w_seq ?_ | with_reducible refine w_set ?_ | with_reducible refine w_drop ?_ | with_reducible refine w_ret ?_ | with_reducible refine w_ifS ?_ | with_reducible refine w_next ?_
  | ((with_reducible refine' w_var ?hv ?_); (case hv => rfl)) | with_reducible refine w_c ?_
  | with_reducible refine w_op ?_ | with_reducible refine w_un ?_ | with_reducible refine w_cb ?_ | with_reducible refine w_cal ?_ | with_reducible refine w_cons ?_ | with_reducible refine w_nil ?_
  | with_reducible refine w_plus ?_ | with_reducible refine w_minus ?_ | with_reducible refine w_lt ?_ | with_reducible refine w_le ?_ | with_reducible refine w_gt ?_ | with_reducible refine w_ge ?_
  | with_reducible refine w_eqI ?_ | with_reducible refine w_neI ?_ | with_reducible refine w_eqB ?_ | with_reducible refine w_neB ?_ | with_reducible refine w_eqS ?_ | with_reducible refine w_neS ?_
  | with_reducible refine w_neg ?_ | with_reducible refine w_abs ?_ | with_reducible refine w_intB ?_ | with_reducible refine w_test ?_ | with_reducible refine w_tB ?_ | with_reducible refine w_bl ?_
  | with_reducible refine w_and ?_ | with_reducible refine w_or ?_ | with_reducible refine w_not ?_ | with_reducible refine w_andV ?_ | with_reducible refine w_orV ?_ | with_reducible refine w_notV ?_ | with_reducible refine w_ifE ?_
  | with_reducible refine w_nyes ?_ | with_reducible refine w_nno ?_ | with_reducible refine w_yes ?_ | with_reducible refine w_no ?_
  | ((with_reducible refine' w_ixL ?ha ?hb ?_); (case ha => walk_at "hp"); (case hb => rfl)) | ((with_reducible refine' w_ixT ?ha ?hb ?_); (case ha => walk_at "hp"); (case hb => rfl))
  | ((with_reducible refine' w_lenL ?ha ?_); (case ha => walk_at "hp")) | ((with_reducible refine' w_lenT ?ha ?_); (case ha => walk_at "hp"))
  | with_reducible refine w_min2 ?_ | with_reducible refine w_max2 ?_ | with_reducible refine w_bm ?_ | with_reducible refine w_lc ?_ | ((with_reducible refine' w_tyL ?ha ?_); (case ha => walk_at "at"))
  | with_reducible refine isi_ii ?_ | with_reducible refine isi_ib ?_ | with_reducible refine isi_bb ?_ | with_reducible refine isi_ss ?_
  | ((with_reducible refine' isi_tt ?ha ?_); (case ha => walk_at "at")) | ((with_reducible refine' isi_ll ?ha ?_); (case ha => walk_at "at"))
  | with_reducible refine w_par ?_ | with_reducible refine w_par2 ?_ | with_reducible refine w_for ?_ | with_reducible refine w_iL ?_ | with_reducible refine w_iT ?_ | with_reducible refine w_iR1 ?_ | with_reducible refine w_iR2 ?_
  | with_reducible refine w_tup ?_ | with_reducible refine w_lst ?_
  | with_reducible refine w_asg ?_ | with_reducible refine w_gname ?_ | with_reducible refine w_gcons ?_ | with_reducible refine w_gnil ?_ | with_reducible refine w_gsub ?_
  | ((with_reducible refine' w_gtup ?ha ?hb ?_); (case ha => walk_at "hp"); (case hb => rfl))
  | ((with_reducible refine' w_fdiv ?hc ?_); (case hc => walk_at "cond")) | ((with_reducible refine' w_mul ?hc ?_); (case hc => walk_at "cond"))
  | ((with_reducible refine' w_mod ?hc ?_); (case hc => walk_at "cond")) | ((with_reducible refine' w_pow ?hc ?_); (case hc => walk_at "cond")))
local macro_rules | `(tactic| walk_at "wp") => `(tactic| repeat walk_at "wp1")
section
variable {P : Program} {w : World} {K : PySem.W.Frag} {mg : Str → Option Value} {base : Heap}
/-! ### texts of drawn terms -/
def spMessy (K : PySem.W.Frag) (d : Nat) : Sp := fun vs H Q _ => ∃ dd a t, ∃ f : Nat, vs = [.ref dd, .ref a, .int (f : Nat)] ∧ DiceAt K H dd ∧ TupT H a t ∧ TGood t ∧ t.depth ≤ d ∧ t.leaves ≤ 60 ∧ f ≤ 3 ∧
  ∀ (m : Str) ps H', m.cps.toList = flat ps → Msy (t.depth - 1) t f ps → (marksP ps).length + 3 ≤ 4 * t.leaves → m.length + 9 ≤ 17 * t.leaves → DiceAt K H' dd → Fw.Keep dd H H' → Q (.str m) H'
theorem mul_bl (n : Nat) : Txt.mul (Str.ofString " ") (n : Int) = mk (List.replicate n 32) := by
  have e : (Str.ofString " ") = ⟨#[32]⟩ := by decide +kernel
  rw [e]
  exact mul_code 32 n
theorem len_bl (n : Nat) : (mk (List.replicate n 32)).length = n := by
  show (List.replicate n 32).toArray.size = n
  simp
theorem num_lenS {n : Nat} (h : n < 100) : (toString (n : Int) : Str).length ≤ 2 := by
  have : ∀ n ∈ List.range 100, (toString ((n : Nat) : Int) : Str).length ≤ 2 := by decide +kernel
  exact this n (List.mem_range.mpr h)
section
variable (T : Fre mg)
include T
theorem messy_at (F : Def K mg "_law_messy" s_l_messy) (c_l_next : Cal P w K mg base 1 "_law_next" ["_law_dice_here", "_law_many"] (spNext K)) : ∀ d, Cal P w K mg base (d + 2) "_law_messy" ["_law_dice_here", "_law_term_here", "_law_firm"] (spMessy K d)
  | 0 => by
    have no : ∀ vs H Q E, ¬ spMessy K 0 vs H Q E := fun vs H Q E h => by
      obtain ⟨_, _, t, _, _, _, _, _, hd, _⟩ := h
      have := Rd.T.depth_pos t
      omega
    exact cal_of F sc_l_messy b_l_messy (fun vs H Q E h => (no _ _ _ _ h).elim) (fun _ _ _ _ _ _ _ _ _ h => (no _ _ _ _ h).elim)
  | d + 1 => by
    have c_l_messy := messy_at F c_l_next d
    refine cal_of F sc_l_messy b_l_messy (fun vs H Q E h => ?_) (fun cdv A outer s H vs Q E hr h => ?_)
    · obtain ⟨_, _, _, _, rfl, _⟩ := h
      rfl
    · obtain ⟨dd, a, t, f, rfl, D, ta, ok, hd, hl, hf, q⟩ := h
      have sl : sizeLine = 16777216 := sizeLine_eq
      have po := passes_of (X := cxOf (L2N.CX P w) P w K mg base ["_law_dice_here", "_law_term_here", "_law_firm", "_law_rank", "_law_text"] "_law_messy" (defScope s_l_messy) (He.ga K "_law_messy") cdv A outer s H E) rfl
      have tk := L2N.takes_of (X := cxOf (L2N.CX P w) P w K mg base ["_law_dice_here", "_law_term_here", "_law_firm", "_law_rank", "_law_text"] "_law_messy" (defScope s_l_messy) (He.ga K "_law_messy") cdv A outer s H E) (E := E) rfl rfl rfl rfl
      have pc := L2N.passes_call tk (fun _ _ _ _ h => h) (E := E)
      have hu64 : (cxOf (L2N.CX P w) P w K mg base ["_law_dice_here", "_law_term_here", "_law_firm", "_law_rank", "_law_text"] "_law_messy" (defScope s_l_messy) (He.ga K "_law_messy") cdv A outer s H E).A.units + 64 < cLine := by
        have := hr.un
        show (A.deeper _).units + 64 < cLine
        omega
      refine ⟨_, (pss_cons (ps_if (PW.pt (pw_or (pt_cmpR op_eq (pe_ix (ixT (K := K) rfl) (pv 1) pe_int (fun _ _ => rfl)) pe_str (nomark _)) (pw_or1 (pt_cmpR op_eq (pe_ix (ixT (K := K) rfl) (pv 1) pe_int (fun _ _ => rfl)) pe_str (nomark _))))) (pss_one (ps_ret (pe_callTy c_strA (by rfl) T.f_str (by decide +kernel) (pa_cons (pe_ix (ixT (K := K) rfl) (pv 1) pe_int (fun _ _ => rfl)) pa_nil)))) pss_nil)
      (pss_cons (ps_set (i := 3) sc_l_messy.nd rfl (loc_of rfl) pe_int)
      (Evl.pss_cut (ps_if (PW.pt (pw_or (pt_cmpR op_eq (pe_ix (ixT (K := K) rfl) (pv 1) pe_int (fun _ _ => rfl)) pe_str (nomark _)) (pw_or1 (pt_cmpR op_eq (pe_ix (ixT (K := K) rfl) (pv 1) pe_int (fun _ _ => rfl)) pe_str (nomark _))))) (pss_one (ps_set (i := 3) sc_l_messy.nd rfl (loc_of rfl) pe_int)) pss_nil)
      (pss_cons (ps_set (i := 4) sc_l_messy.nd rfl (loc_of rfl) (pe_op o_catS (pe_op o_catS (pe_op o_catS (pe_cal c_l_messy hr (by omega) pc (pa_cons (pv 0) (pa_cons (pe_ix (ixT (K := K) rfl) (pv 1) pe_int (fun _ _ => rfl)) (pa_cons (pv 3) pa_nil)))) (pe_op o_mulS pe_str (pe_cal c_l_next hr (by omega) pc (pa_cons (pv 0) (pa_cons pe_int pa_nil))))) (pe_ix (ixT (K := K) rfl) (pv 1) pe_int (fun _ _ => rfl))) (pe_op o_mulS pe_str (pe_cal c_l_next hr (by omega) pc (pa_cons (pv 0) (pa_cons pe_int pa_nil))))))
      (pss_cons (ps_set (i := 4) sc_l_messy.nd rfl (loc_of rfl) (pe_op o_catS (pv 4) (pe_cal c_l_messy hr (by omega) pc (pa_cons (pv 0) (pa_cons (pe_ix (ixT (K := K) rfl) (pv 1) pe_int (fun _ _ => rfl)) (pa_cons (pe_op o_add (pv 3) pe_int) pa_nil))))))
      (pss_cons (ps_if (PW.pt (pw_or (pt_cmpR o_lt (pv 3) (pv 2) (nomark _)) (pw_or1 (pt_cmpR op_eq (pe_cal c_l_next hr (by omega) pc (pa_cons (pv 0) (pa_cons pe_int pa_nil))) pe_int (nomark _))))) (pss_one (ps_ret (pe_op o_catS (pe_op o_catS (pe_op o_catS pe_str (pe_op o_mulS pe_str (pe_cal c_l_next hr (by omega) pc (pa_cons (pv 0) (pa_cons pe_int pa_nil))))) (pv 4)) pe_str))) pss_nil)
      (pss_one (ps_ret (pv 4))))))))), ?_⟩
      refine w_start [some (.ref dd), some (.ref a), some (.int (f : Nat)), none, none] rfl ?_
      try dsimp only [cxOf]
      match t, ta, ok, hd, hl, q with
      | .num n, ta, ok, hd, hl, q =>
        have hn : n < 100 := ok
        have ea : H a = some (.tup [.str "n", .int (n : Nat)]) := ta
        walk_at "wp"
        refine w_decY rfl ?_
        walk_at "wp"
        refine w_strAi (lg (n := 10) (by omega) (by decide) (by decide)) ?_
        have hln := num_lenS hn
        exact q _ _ H (by show _ = _ ++ []; rw [List.append_nil]; rfl) (leafD hn) (Nat.le_refl _) (by show _ ≤ 17 * 1; omega) D Keep.refl
      | .kn x none, ta, ok, hd, hl, q =>
        have ea : H a = some (.tup [.str "k", .str x]) := ta
        have hln := Nm.len ok
        walk_at "wp"
        refine w_decO (by decide) ?_
        walk_at "wp"
        refine w_decY rfl ?_
        walk_at "wp"
        refine w_strAs ?_
        exact q _ _ H (by show _ = _ ++ []; rw [List.append_nil]; rfl) (leafN ok) (Nat.le_refl _) (by show _ ≤ 17 * 1; omega) D Keep.refl
      | .kn x (some p), ta, ok, hd, hl, q => exact ok.elim
      | .bin i t1 t2, ta, ok, hd, hl, q =>
        obtain ⟨hi, ok1, ok2⟩ := ok
        obtain ⟨b, c, ea, tb, tc⟩ := ta
        obtain ⟨n1, n2, n3⟩ := S4_tag hi
        have hd' : max t1.depth t2.depth + 1 ≤ d + 1 := hd
        have hl' : t1.leaves + t2.leaves ≤ 60 := hl
        have p1 := (depth_leaves t1).2
        have p2 := (depth_leaves t2).2
        have dp1 := Rd.T.depth_pos t1
        have dp2 := Rd.T.depth_pos t2
        have ls := S4_len hi
        have e2 : (Str.ofString "(").length = 1 := by decide +kernel
        have e3 : (Str.ofString " )").length = 2 := by decide +kernel
        have hrk : rk i = 1 ∨ rk i = 2 := by
          unfold rk
          split
          · exact .inl rfl
          · exact .inr rfl
        walk_at "wp"
        refine w_decO n1 ?_
        walk_at "wp"
        refine w_decO n2 ?_
        walk_at "wp"
        refine w_cut (fun σ' H' => σ' = [some (.ref dd), some (.ref a), some (.int (f : Nat)), some (.int (rk i : Nat)), none] ∧ H' = H) ?_ (fun σ' H' hm => ?_)
        · walk_at "wp"
          rcases S4_rank hi with ⟨_, er, m1, m2⟩ | ⟨er, m | ⟨m1, m2⟩⟩
          · refine w_decO m1 ?_
            walk_at "wp"
            refine w_decO m2 ?_
            walk_at "wp"
            rw [er]
            exact ⟨rfl, rfl⟩
          · refine w_decY m ?_
            walk_at "wp"
            rw [er]
            exact ⟨rfl, rfl⟩
          · refine w_decO m1 ?_
            walk_at "wp"
            refine w_decY m2 ?_
            walk_at "wp"
            rw [er]
            exact ⟨rfl, rfl⟩
        · obtain ⟨rfl, rfl⟩ := hm
          walk_at "wp"
          refine ⟨dd, b, t1, rk i, rfl, D, tb, ok1, by omega, by omega, by omega, fun m1 ps1 H1 hm1 My1 ml1 tl1 D1 k1 => ?_⟩
          have ea1 := D.kn k1 _ _ (show Node (.tup _) from trivial) ea
          have tc1 := tc.keep (D.kn k1)
          walk_at "wp"
          refine ⟨dd, 3, rfl, D1, by decide, by decide, fun r2 H2 a2 b2 D2 k2 => ?_⟩
          have ea2 := D1.kn k2 _ _ (show Node (.tup _) from trivial) ea1
          have tc2 := tc1.keep (D1.kn k2)
          have e4 : r2 = ((r2.toNat : Nat) : Int) := by omega
          refine w_mulS (show (1 : Nat) ≤ 1000 by decide) a2 (by omega) ?_
          rw [e4, mul_bl]
          refine w_catS (by rw [len_bl]; omega) ?_
          walk_at "wp"
          refine w_catS (by rw [Str.length_append, len_bl]; omega) ?_
          walk_at "wp"
          refine ⟨dd, 3, rfl, D2, by decide, by decide, fun r3 H3 a3 b3 D3 k3 => ?_⟩
          have ea3 := D2.kn k3 _ _ (show Node (.tup _) from trivial) ea2
          have tc3 := tc2.keep (D2.kn k3)
          have e5 : r3 = ((r3.toNat : Nat) : Int) := by omega
          refine w_mulS (show (1 : Nat) ≤ 1000 by decide) a3 (by omega) ?_
          rw [e5, mul_bl]
          refine w_catS (by rw [Str.length_append, Str.length_append, len_bl, len_bl]; omega) ?_
          walk_at "wp"
          have er1 : (rk i : Int) + 1 = ((rk i + 1 : Nat) : Int) := by omega
          rw [er1]
          refine ⟨dd, c, t2, rk i + 1, rfl, D3, tc3, ok2, by omega, by omega, by omega, fun m2 ps2 H4 hm2 My2 ml2 tl2 D4 k4 => ?_⟩
          refine w_catS (by rw [Str.length_append, Str.length_append, Str.length_append, len_bl, len_bl]; omega) ?_
          generalize hx0 : m1 ++ mk (List.replicate r2.toNat 32) ++ S4 i ++ mk (List.replicate r3.toNat 32) ++ m2 = x
          have lx : x.length + 13 ≤ 17 * (t1.leaves + t2.leaves) := by
            rw [← hx0, Str.length_append, Str.length_append, Str.length_append, Str.length_append, len_bl, len_bl]
            omega
          obtain ⟨s1, s2⟩ := sgC_S4 hi
          generalize hPS : ps1 ++ (bl r2.toNat ++ (.s (sgC i) :: (bl r3.toNat ++ ps2))) = PS
          have hx : x.cps.toList = flat PS := by
            rw [← hx0, ← hPS, cat_list, cat_list, cat_list, cat_list, hm1, hm2, ← s1, one_list, flat_append, flat_append, flat_bl]
            show _ = flat ps1 ++ (List.replicate r2.toNat 32 ++ (sgC i :: flat (bl r3.toNat ++ ps2)))
            rw [flat_append, flat_bl]
            simp [mk, List.append_assoc]
          have MB : Msy (max t1.depth t2.depth - 1) (.bin i t1 t2) (rk i) PS := by
            rw [← hPS]
            exact .bin _ _ hi (Nat.le_refl _) (My1.mono (by omega)) (My2.mono (by omega))
          have mlen : (marksP PS).length + 5 ≤ 4 * (t1.leaves + t2.leaves) := by
            rw [← hPS, marksP_append, marks_bl, List.length_append]
            show (marksP ps1).length + (marksP (bl r3.toNat ++ ps2)).length.succ + 5 ≤ _
            rw [marks_bl]
            omega
          have wrapM : ∀ u, Msy ((Rd.T.bin i t1 t2).depth - 1) (.bin i t1 t2) f (.s 40 :: (bl u ++ (PS ++ (bl 1 ++ [.s 41])))) := fun u => by
            have e : (Rd.T.bin i t1 t2).depth - 1 = (max t1.depth t2.depth - 1) + 1 := by
              show max t1.depth t2.depth + 1 - 1 = _
              omega
            rw [e]
            exact .brk u 1 (MB.firm0 (Nat.zero_le _))
          have k14 := ((k1.trans k2).trans k3).trans k4
          walk_at "wp"
          refine w_dec (fun h1 => ?_) (fun h1 => ?_)
          · walk_at "wp"
            refine ⟨dd, 2, rfl, D4, by decide, by decide, fun r5 H5 a5 b5 D5 k5 => ?_⟩
            have e5 : r5 = ((r5.toNat : Nat) : Int) := by omega
            refine w_mulS (show (1 : Nat) ≤ 1000 by decide) a5 (by omega) ?_
            rw [e5, mul_bl]
            refine w_catS (by rw [len_bl]; omega) ?_
            walk_at "wp"
            refine w_catS (by rw [Str.length_append, len_bl]; omega) ?_
            walk_at "wp"
            refine w_catS (by rw [Str.length_append, Str.length_append, len_bl]; omega) ?_
            refine q _ _ H5 ?_ (wrapM r5.toNat) ?_ ?_ D5 (k14.trans k5)
            · rw [cat_list, cat_list, cat_list, hx]
              show [40] ++ List.replicate _ 32 ++ flat PS ++ [32, 41] = 40 :: flat (bl r5.toNat ++ (PS ++ (bl 1 ++ [.s 41])))
              rw [flat_append, flat_append, flat_bl]
              simp [flat, Pc.cs, bl]
            · show (marksP (bl r5.toNat ++ (PS ++ (bl 1 ++ [.s 41])))).length.succ + 3 ≤ _
              rw [marks_bl, marksP_append, List.length_append]
              show (marksP PS).length + 1 + 1 + 3 ≤ 4 * (t1.leaves + t2.leaves)
              omega
            · rw [Str.length_append, Str.length_append, Str.length_append, len_bl]
              show _ ≤ 17 * (t1.leaves + t2.leaves)
              omega
          · walk_at "wp"
            refine ⟨dd, 5, rfl, D4, by decide, by decide, fun r6 H6 a6 b6 D6 k6 => ?_⟩
            walk_at "wp"
            refine w_dec (fun h2 => ?_) (fun h2 => ?_)
            · walk_at "wp"
              refine ⟨dd, 2, rfl, D6, by decide, by decide, fun r5 H5 a5 b5 D5 k5 => ?_⟩
              have e5 : r5 = ((r5.toNat : Nat) : Int) := by omega
              refine w_mulS (show (1 : Nat) ≤ 1000 by decide) a5 (by omega) ?_
              rw [e5, mul_bl]
              refine w_catS (by rw [len_bl]; omega) ?_
              walk_at "wp"
              refine w_catS (by rw [Str.length_append, len_bl]; omega) ?_
              walk_at "wp"
              refine w_catS (by rw [Str.length_append, Str.length_append, len_bl]; omega) ?_
              refine q _ _ H5 ?_ (wrapM r5.toNat) ?_ ?_ D5 ((k14.trans k6).trans k5)
              · rw [cat_list, cat_list, cat_list, hx]
                show [40] ++ List.replicate _ 32 ++ flat PS ++ [32, 41] = 40 :: flat (bl r5.toNat ++ (PS ++ (bl 1 ++ [.s 41])))
                rw [flat_append, flat_append, flat_bl]
                simp [flat, Pc.cs, bl]
              · show (marksP (bl r5.toNat ++ (PS ++ (bl 1 ++ [.s 41])))).length.succ + 3 ≤ _
                rw [marks_bl, marksP_append, List.length_append]
                show (marksP PS).length + 1 + 1 + 3 ≤ 4 * (t1.leaves + t2.leaves)
                omega
              · rw [Str.length_append, Str.length_append, Str.length_append, len_bl]
                show _ ≤ 17 * (t1.leaves + t2.leaves)
                omega
            · walk_at "wp"
              refine q x PS H6 hx ((MB.mono (by show _ ≤ max t1.depth t2.depth + 1 - 1; omega)).firm0 (by omega)) ?_ ?_ D6 (k14.trans k6)
              · show _ ≤ 4 * (t1.leaves + t2.leaves)
                omega
              · show _ ≤ 17 * (t1.leaves + t2.leaves)
                omega
end
-- CHAIN have c_l_said := said_at (P := P) (w := w) (base := base) (T := T) F_l_said 4
-- CHAIN have c_l_term := term_at (P := P) (w := w) (base := base) (T := T) F_l_term c_l_next 3
-- CHAIN have c_l_messy := messy_at (P := P) (w := w) (base := base) (T := T) F_l_messy c_l_next 4
end
end Lw

namespace Lw
open PySem PySem.Spec PyProof.Rows L2 Fw Htx Ob Tx Rd Lk Tk
local macro_rules | `(tactic| walk_at "cond") => `(tactic| first | assumption | (with_reducible exact cdiv_small (by omega) (by omega)) | (with_reducible exact cmul_small (by omega) (by omega)) | (with_reducible exact cpow_mk (by omega) (by omega) (by omega)) | omega)
local macro_rules | `(tactic| walk_at "ne") => `(tactic| first | assumption | exact Ne.symm (by assumption) | exact ne_of_none (by assumption) (by assumption) | exact Ne.symm (ne_of_none (by assumption) (by assumption)))
local macro_rules | `(tactic| walk_at "at") => `(tactic| first
  | assumption
  | (with_reducible exact upd_same)
  | ((with_reducible refine' at_same ?hk ?hh); (case hk => assumption); (case hh => walk_at "at"))
  | ((with_reducible refine' at_keepT ?hk ?hh ?hd); (case hk => assumption); (case hh => walk_at "at"); (case hd => walk_at "at"))
  | ((with_reducible refine' at_keep ?hk ?hh ?hn); (case hk => assumption); (case hh => walk_at "at"); (case hn => walk_at "ne")))
local macro_rules | `(tactic| walk_at "hp") => `(tactic| first
  | assumption
  | (with_reducible exact FrL.sql (by assumption))
  | ((with_reducible refine' SqT.of ?hq); (case hq => walk_at "at")) | ((with_reducible refine' SqL.of ?hq); (case hq => walk_at "at"))
  | ((with_reducible refine' sql_same ?hk ?hh); (case hk => assumption); (case hh => walk_at "hp"))
  | ((with_reducible refine' sql_keep ?hk ?hh ?hn); (case hk => assumption); (case hh => walk_at "hp"); (case hn => walk_at "ne"))
  | ((with_reducible refine' sqt_same ?hk ?hh); (case hk => assumption); (case hh => walk_at "hp")))
local macro_rules | `(tactic| walk_at "wp1") => `(tactic| first
  | with_reducible refine w_mt ?_ | ((with_reducible refine' w_mt1 ?ha ?hl ?_); (case ha => walk_at "at"); (case hl => rfl))
  | with_reducible refine w_fld ?_ | ((with_reducible refine' w_fld1 ?ha (ClsF.cl (cs := clsL) (as := attL) (by assumption) _ ?hc) (ClsF.no (cs := clsL) (as := attL) (by assumption) _ _ ?hn) ?hl ?_); (case ha => walk_at "at"); (case hc => decide +kernel); (case hn => decide +kernel); (case hl => rfl))
  | with_reducible refine w_sfld ?_ | ((with_reducible refine' w_sfld1 ?ha (ClsF.cl (cs := clsL) (as := attL) (by assumption) _ ?hc) (ClsF.no (cs := clsL) (as := attL) (by assumption) _ _ ?hn) ?he ?hl ?_); (case ha => walk_at "at"); (case hc => decide +kernel); (case hn => decide +kernel); (case he => rfl); (case hl => rfl))
  | with_reducible refine w_lk ?_ | ((with_reducible refine' lkL ?ha ?_); (case ha => walk_at "at")) | with_reducible refine w_mkS ?_ | with_reducible refine w_mk ?_ | with_reducible refine w_bas ?_ | with_reducible refine w_m1 ?_ | with_reducible refine w_isS ?_ | with_reducible refine w_bm0 ?_ | with_reducible refine w_iS ?_ | with_reducible refine w_chain ?_
  | with_reducible refine w_inSg ?_ | with_reducible refine w_ninSg ?_
  | with_reducible refine w_rz ?_ | with_reducible refine w_calX ?_ | with_reducible refine w_calS ?_ | with_reducible refine w_row ?_
  | with_reducible refine w_seq ?_ | with_reducible refine w_set ?_ | with_reducible refine w_drop ?_ | with_reducible refine w_ret ?_ | with_reducible refine w_ifS ?_ | with_reducible refine w_next ?_
  | ((with_reducible refine' w_var ?hv ?_); (case hv => rfl)) | with_reducible refine w_c ?_
  | with_reducible refine w_op ?_ | with_reducible refine w_un ?_ | with_reducible refine w_cb ?_ | with_reducible refine w_cal ?_ | with_reducible refine w_cons ?_ | with_reducible refine w_nil ?_
  | with_reducible refine w_plus ?_ | with_reducible refine w_minus ?_ | with_reducible refine w_lt ?_ | with_reducible refine w_le ?_ | with_reducible refine w_gt ?_ | with_reducible refine w_ge ?_
  | with_reducible refine w_eqI ?_ | with_reducible refine w_neI ?_ | with_reducible refine w_eqB ?_ | with_reducible refine w_neB ?_ | with_reducible refine w_eqS ?_ | with_reducible refine w_neS ?_
  | with_reducible refine w_neg ?_ | with_reducible refine w_abs ?_ | with_reducible refine w_intB ?_ | with_reducible refine w_test ?_ | with_reducible refine w_tB ?_ | with_reducible refine w_bl ?_
  | with_reducible refine w_and ?_ | with_reducible refine w_or ?_ | with_reducible refine w_not ?_ | with_reducible refine w_andV ?_ | with_reducible refine w_orV ?_ | with_reducible refine w_notV ?_ | with_reducible refine w_ifE ?_
  | with_reducible refine w_nyes ?_ | with_reducible refine w_nno ?_ | with_reducible refine w_yes ?_ | with_reducible refine w_no ?_
  | ((with_reducible refine' w_ixL ?ha ?hb ?_); (case ha => walk_at "hp"); (case hb => rfl)) | ((with_reducible refine' w_ixT ?ha ?hb ?_); (case ha => walk_at "hp"); (case hb => rfl))
  | ((with_reducible refine' w_lenL ?ha ?_); (case ha => walk_at "hp")) | ((with_reducible refine' w_lenT ?ha ?_); (case ha => walk_at "hp"))
  | with_reducible refine w_min2 ?_ | with_reducible refine w_max2 ?_ | with_reducible refine w_bm ?_ | with_reducible refine w_lc ?_ | ((with_reducible refine' w_tyL ?ha ?_); (case ha => walk_at "at"))
  | with_reducible refine isi_ii ?_ | with_reducible refine isi_ib ?_ | with_reducible refine isi_bb ?_ | with_reducible refine isi_ss ?_
  | ((with_reducible refine' isi_tt ?ha ?_); (case ha => walk_at "at")) | ((with_reducible refine' isi_ll ?ha ?_); (case ha => walk_at "at"))
  | with_reducible refine w_par ?_ | with_reducible refine w_par2 ?_ | with_reducible refine w_for ?_ | with_reducible refine w_iL ?_ | with_reducible refine w_iT ?_ | with_reducible refine w_iR1 ?_ | with_reducible refine w_iR2 ?_
  | with_reducible refine w_tup ?_ | with_reducible refine w_lst ?_
  | with_reducible refine w_asg ?_ | with_reducible refine w_gname ?_ | with_reducible refine w_gcons ?_ | with_reducible refine w_gnil ?_ | with_reducible refine w_gsub ?_
  | ((with_reducible refine' w_gtup ?ha ?hb ?_); (case ha => walk_at "hp"); (case hb => rfl))
  | ((with_reducible refine' w_fdiv ?hc ?_); (case hc => walk_at "cond")) | ((with_reducible refine' w_mul ?hc ?_); (case hc => walk_at "cond"))
  | ((with_reducible refine' w_mod ?hc ?_); (case hc => walk_at "cond")) | ((with_reducible refine' w_pow ?hc ?_); (case hc => walk_at "cond")))
local macro_rules | `(tactic| walk_at "wp") => `(tactic| repeat walk_at "wp1")
section
variable {P : Program} {w : World} {K : PySem.W.Frag} {mg : Str → Option Value} {base : Heap}
/-! ### "  give " is put in at one place alone -/
def gvL : List Nat := [103, 105, 118, 101]
def Yg : List Nat := 32 :: 32 :: (gvL ++ [32])
theorem rl_no {Z : List Nat} {c : Nat} {r : List Nat} (h : ¬ (c :: r).take Yg.length = Yg) : StrLaws.replL Yg Z (c :: r) = c :: StrLaws.replL Yg Z r := by
  unfold StrLaws.replL
  rw [StrLaws.replS, if_neg h]
theorem rl_hit {Z l : List Nat} : StrLaws.replL Yg Z (Yg ++ l) = Z ++ StrLaws.replL Yg Z l := by
  show StrLaws.replL Yg Z (32 :: (32 :: (gvL ++ [32]) ++ l)) = _
  unfold StrLaws.replL
  have e : (32 :: (32 :: (gvL ++ [32]) ++ l)).take Yg.length = Yg := rfl
  rw [StrLaws.replS, if_pos e, StrLaws.replS_skip]
  rfl
theorem rl_far {Z : List Nat} : ∀ {w l : List Nat}, (∀ c ∈ w, c ≠ 32) → StrLaws.replL Yg Z (w ++ l) = w ++ StrLaws.replL Yg Z l
  | [], l, _ => rfl
  | c :: r, l, h => by
    show StrLaws.replL Yg Z (c :: (r ++ l)) = c :: (r ++ StrLaws.replL Yg Z l)
    rw [rl_no, rl_far fun y hy => h y (List.mem_cons_of_mem _ hy)]
    intro z
    have : c = 32 := (List.cons.inj z).1
    exact h c List.mem_cons_self this
theorem word_give {w X t : List Nat} (hw : w ≠ []) (hs : ∀ c ∈ w, c ∈ smallL) (hX : ∀ c, X.head? = some c → c ∉ smallL) (h : w ++ X = gvL ++ 32 :: t) : w = gvL := by
  match w, hw, hs, h with
  | [a], _, _, h =>
    have : X = 105 :: (118 :: 101 :: 32 :: t) := (List.cons.inj h).2
    exact absurd (show 105 ∈ smallL by decide +kernel) (hX 105 (by rw [this]; rfl))
  | [a, b], _, _, h =>
    have : X = 118 :: (101 :: 32 :: t) := (List.cons.inj (List.cons.inj h).2).2
    exact absurd (show 118 ∈ smallL by decide +kernel) (hX 118 (by rw [this]; rfl))
  | [a, b, c], _, _, h =>
    have : X = 101 :: (32 :: t) := (List.cons.inj (List.cons.inj (List.cons.inj h).2).2).2
    exact absurd (show 101 ∈ smallL by decide +kernel) (hX 101 (by rw [this]; rfl))
  | [a, b, c, d], _, _, h =>
    have h1 := List.cons.inj h
    have h2 := List.cons.inj h1.2
    have h3 := List.cons.inj h2.2
    have h4 := List.cons.inj h3.2
    rw [h1.1, h2.1, h3.1, h4.1]
    rfl
  | a :: b :: c :: d :: e :: r, _, hs, h =>
    have h1 := List.cons.inj h
    have h2 := List.cons.inj h1.2
    have h3 := List.cons.inj h2.2
    have h4 := List.cons.inj h3.2
    have h5 : e = 32 := (List.cons.inj h4.2).1
    exact absurd (hs e (by simp)) (by rw [h5]; decide +kernel)
theorem head_soft {l : List Nat} (hl : l = [] ∨ ∃ r, l = 10 :: r) : ∀ {r : List Pc}, okP (some 97) r → ∀ c, (flat r ++ l).head? = some c → c ∉ smallL
  | [], _, c, h => by
    rcases hl with rfl | ⟨r, rfl⟩
    · cases h
    · cases h
      decide +kernel
  | .w w :: r, h, _, _ => absurd rfl h.1
  | .d w :: r, ⟨_, h2, h3, _⟩, c, h => by
    cases w with
    | nil => exact absurd rfl h2
    | cons a w =>
      cases h
      exact fig_small (h3 _ List.mem_cons_self)
  | .s a :: r, ⟨h1, _⟩, c, h => by
    cases h
    have : ∀ x ∈ signL, x ∉ smallL := by decide +kernel
    exact this _ h1
  | .b :: r, _, c, h => by
    cases h
    decide +kernel
theorem rl_pieces {Z l : List Nat} (hl : l = [] ∨ ∃ r, l = 10 :: r) : ∀ {ps : List Pc} {g : Option Nat}, okP g ps → (∀ w, Pc.w w ∈ ps → w ≠ gvL) → StrLaws.replL Yg Z (flat ps ++ l) = flat ps ++ StrLaws.replL Yg Z l
  | [], _, _, _ => rfl
  | .w w :: r, g, ⟨_, _, h3, h4⟩, hw => by
    show StrLaws.replL Yg Z (w ++ flat r ++ l) = w ++ flat r ++ _
    rw [List.append_assoc, rl_far (fun c hc z => absurd (h3 c hc) (by rw [z]; decide +kernel)), rl_pieces hl h4 (fun x hx => hw x (List.mem_cons_of_mem _ hx)), List.append_assoc]
  | .d w :: r, g, ⟨_, _, h3, h4⟩, hw => by
    show StrLaws.replL Yg Z (w ++ flat r ++ l) = w ++ flat r ++ _
    rw [List.append_assoc, rl_far (fun c hc z => absurd (h3 c hc) (by rw [z]; decide +kernel)), rl_pieces hl h4 (fun x hx => hw x (List.mem_cons_of_mem _ hx)), List.append_assoc]
  | .s a :: r, g, ⟨h1, h2⟩, hw => by
    show StrLaws.replL Yg Z (([a] ++ flat r) ++ l) = ([a] ++ flat r) ++ _
    rw [List.append_assoc, rl_far (fun c hc z => by
      rw [List.mem_singleton.mp hc] at z
      rw [z] at h1
      exact absurd h1 (by decide +kernel)), rl_pieces hl h2 (fun x hx => hw x (List.mem_cons_of_mem _ hx)), List.append_assoc]
  | .b :: r, g, h, hw => by
    show StrLaws.replL Yg Z (32 :: (flat r ++ l)) = 32 :: (flat r ++ _)
    rw [rl_no, rl_pieces hl (ps := r) (g := none) h (fun x hx => hw x (List.mem_cons_of_mem _ hx))]
    intro z
    have z1 : (flat r ++ l).take 6 = 32 :: (gvL ++ [32]) := (List.cons.inj z).2
    have z2 : flat r ++ l = 32 :: (gvL ++ [32]) ++ (flat r ++ l).drop 6 := by
      conv => lhs; rw [← List.take_append_drop 6 (flat r ++ l), z1]
    generalize (flat r ++ l).drop 6 = t at z2
    cases r with
    | nil =>
      rcases hl with rfl | ⟨r', rfl⟩
      · cases z2
      · cases z2
    | cons p r =>
      cases p with
      | w w =>
        obtain ⟨_, h2, h3, _⟩ := h
        cases w with
        | nil => exact h2 rfl
        | cons a w =>
          have : a = 32 := (List.cons.inj z2).1
          exact absurd (h3 a List.mem_cons_self) (by rw [this]; decide +kernel)
      | d w =>
        obtain ⟨_, h2, h3, _⟩ := h
        cases w with
        | nil => exact h2 rfl
        | cons a w =>
          have : a = 32 := (List.cons.inj z2).1
          exact absurd (h3 a List.mem_cons_self) (by rw [this]; decide +kernel)
      | s a =>
        have : a = 32 := (List.cons.inj z2).1
        exact absurd h.1 (by rw [this]; decide +kernel)
      | b =>
        have z3 : flat r ++ l = gvL ++ 32 :: t := by
          have := (List.cons.inj z2).2
          exact this
        cases r with
        | nil =>
          rcases hl with rfl | ⟨r', rfl⟩
          · cases z3
          · cases z3
        | cons p r =>
          have h : okP none (p :: r) := h
          cases p with
          | w w =>
            obtain ⟨_, h2, h3, h4⟩ := h
            have z4 : w ++ (flat r ++ l) = gvL ++ 32 :: t := by
              rw [← List.append_assoc]
              exact z3
            exact hw w (by simp) (word_give h2 h3 (head_soft hl h4) z4)
          | d w =>
            obtain ⟨_, h2, h3, _⟩ := h
            cases w with
            | nil => exact h2 rfl
            | cons a w =>
              have : a = 103 := (List.cons.inj z3).1
              exact absurd (h3 a List.mem_cons_self) (by rw [this]; decide +kernel)
          | s a =>
            have : a = 103 := (List.cons.inj z3).1
            exact absurd h.1 (by rw [this]; decide +kernel)
          | b =>
            have : (32 : Nat) = 103 := (List.cons.inj z3).1
            cases this
/-- the text that is handed in: brackets put in behind give -/
theorem repl_text {A R : List Pc} {z : Str} {Z : List Nat} (hA : okP none A) (nA : ∀ w, Pc.w w ∈ A → w ≠ gvL) (hR : okP none R) (nR : ∀ w, Pc.w w ∈ R → w ≠ gvL) {x y : Str} (hx : x.cps.toList = flat A ++ 10 :: (Yg ++ flat R)) (hy : y.cps.toList = Yg) :
    (Txt.replace x y z).cps.toList = flat A ++ 10 :: (z.cps.toList ++ flat R) := by
  rw [StrLaws.replace_list (by show 1 ≤ y.cps.size; rw [← Array.length_toList, hy]; decide), hy, hx]
  rw [rl_pieces (.inr ⟨_, rfl⟩) hA nA, rl_no (by intro z; cases (List.cons.inj z).1), rl_hit]
  have := rl_pieces (Z := z.cps.toList) (l := []) (.inl rfl) hR nR
  rw [List.append_nil] at this
  rw [this, StrLaws.replL_nil, List.append_nil]
end
end Lw

namespace Lw
open PySem PySem.Spec PyProof.Rows L2 Fw Htx Ob Tx Rd Lk Tk
local macro_rules | `(tactic| walk_at "cond") => `(tactic| first | assumption | (with_reducible exact cdiv_small (by omega) (by omega)) | (with_reducible exact cmul_small (by omega) (by omega)) | (with_reducible exact cpow_mk (by omega) (by omega) (by omega)) | omega)
local macro_rules | `(tactic| walk_at "ne") => `(tactic| first | assumption | exact Ne.symm (by assumption) | exact ne_of_none (by assumption) (by assumption) | exact Ne.symm (ne_of_none (by assumption) (by assumption)))
local macro_rules | `(tactic| walk_at "at") => `(tactic| first
  | assumption
  | (with_reducible exact upd_same)
  | ((with_reducible refine' at_same ?hk ?hh); (case hk => assumption); (case hh => walk_at "at"))
  | ((with_reducible refine' at_keepT ?hk ?hh ?hd); (case hk => assumption); (case hh => walk_at "at"); (case hd => walk_at "at"))
  | ((with_reducible refine' at_keep ?hk ?hh ?hn); (case hk => assumption); (case hh => walk_at "at"); (case hn => walk_at "ne")))
local macro_rules | `(tactic| walk_at "hp") => `(tactic| first
  | assumption
  | (with_reducible exact FrL.sql (by assumption))
  | ((with_reducible refine' SqT.of ?hq); (case hq => walk_at "at")) | ((with_reducible refine' SqL.of ?hq); (case hq => walk_at "at"))
  | ((with_reducible refine' sql_same ?hk ?hh); (case hk => assumption); (case hh => walk_at "hp"))
  | ((with_reducible refine' sql_keep ?hk ?hh ?hn); (case hk => assumption); (case hh => walk_at "hp"); (case hn => walk_at "ne"))
  | ((with_reducible refine' sqt_same ?hk ?hh); (case hk => assumption); (case hh => walk_at "hp")))
local macro_rules | `(tactic| walk_at "wp1") => `(tactic| first
  | with_reducible refine w_mt ?_ | ((with_reducible refine' w_mt1 ?ha ?hl ?_); (case ha => walk_at "at"); (case hl => rfl))
  | with_reducible refine w_fld ?_ | ((with_reducible refine' w_fld1 ?ha (ClsF.cl (cs := clsL) (as := attL) (by assumption) _ ?hc) (ClsF.no (cs := clsL) (as := attL) (by assumption) _ _ ?hn) ?hl ?_); (case ha => walk_at "at"); (case hc => decide +kernel); (case hn => decide +kernel); (case hl => rfl))
  | with_reducible refine w_sfld ?_ | ((with_reducible refine' w_sfld1 ?ha (ClsF.cl (cs := clsL) (as := attL) (by assumption) _ ?hc) (ClsF.no (cs := clsL) (as := attL) (by assumption) _ _ ?hn) ?he ?hl ?_); (case ha => walk_at "at"); (case hc => decide +kernel); (case hn => decide +kernel); (case he => rfl); (case hl => rfl))
  | with_reducible refine w_lk ?_ | ((with_reducible refine' lkL ?ha ?_); (case ha => walk_at "at")) | with_reducible refine w_mkS ?_ | with_reducible refine w_mk ?_ | with_reducible refine w_bas ?_ | with_reducible refine w_m1 ?_ | with_reducible refine w_isS ?_ | with_reducible refine w_bm0 ?_ | with_reducible refine w_iS ?_ | with_reducible refine w_chain ?_
  | with_reducible refine w_inSg ?_ | with_reducible refine w_ninSg ?_
  | with_reducible refine w_rz ?_ | with_reducible refine w_calX ?_ | with_reducible refine w_calS ?_ | with_reducible refine w_row ?_
  | with_reducible refine w_seq ?_ | with_reducible refine w_set ?_ | with_reducible refine w_drop ?_ | with_reducible refine w_ret ?_ | with_reducible refine w_ifS ?_ | with_reducible refine w_next ?_
  | ((with_reducible refine' w_var ?hv ?_); (case hv => rfl)) | with_reducible refine w_c ?_
  | with_reducible refine w_op ?_ | with_reducible refine w_un ?_ | with_reducible refine w_cb ?_ | with_reducible refine w_cal ?_ | with_reducible refine w_cons ?_ | with_reducible refine w_nil ?_
  | with_reducible refine w_plus ?_ | with_reducible refine w_minus ?_ | with_reducible refine w_lt ?_ | with_reducible refine w_le ?_ | with_reducible refine w_gt ?_ | with_reducible refine w_ge ?_
  | with_reducible refine w_eqI ?_ | with_reducible refine w_neI ?_ | with_reducible refine w_eqB ?_ | with_reducible refine w_neB ?_ | with_reducible refine w_eqS ?_ | with_reducible refine w_neS ?_
  | with_reducible refine w_neg ?_ | with_reducible refine w_abs ?_ | with_reducible refine w_intB ?_ | with_reducible refine w_test ?_ | with_reducible refine w_tB ?_ | with_reducible refine w_bl ?_
  | with_reducible refine w_and ?_ | with_reducible refine w_or ?_ | with_reducible refine w_not ?_ | with_reducible refine w_andV ?_ | with_reducible refine w_orV ?_ | with_reducible refine w_notV ?_ | with_reducible refine w_ifE ?_
  | with_reducible refine w_nyes ?_ | with_reducible refine w_nno ?_ | with_reducible refine w_yes ?_ | with_reducible refine w_no ?_
  | ((with_reducible refine' w_ixL ?ha ?hb ?_); (case ha => walk_at "hp"); (case hb => rfl)) | ((with_reducible refine' w_ixT ?ha ?hb ?_); (case ha => walk_at "hp"); (case hb => rfl))
  | ((with_reducible refine' w_lenL ?ha ?_); (case ha => walk_at "hp")) | ((with_reducible refine' w_lenT ?ha ?_); (case ha => walk_at "hp"))
  | with_reducible refine w_min2 ?_ | with_reducible refine w_max2 ?_ | with_reducible refine w_bm ?_ | with_reducible refine w_lc ?_ | ((with_reducible refine' w_tyL ?ha ?_); (case ha => walk_at "at"))
  | with_reducible refine isi_ii ?_ | with_reducible refine isi_ib ?_ | with_reducible refine isi_bb ?_ | with_reducible refine isi_ss ?_
  | ((with_reducible refine' isi_tt ?ha ?_); (case ha => walk_at "at")) | ((with_reducible refine' isi_ll ?ha ?_); (case ha => walk_at "at"))
  | with_reducible refine w_par ?_ | with_reducible refine w_par2 ?_ | with_reducible refine w_for ?_ | with_reducible refine w_iL ?_ | with_reducible refine w_iT ?_ | with_reducible refine w_iR1 ?_ | with_reducible refine w_iR2 ?_
  | with_reducible refine w_tup ?_ | with_reducible refine w_lst ?_
  | with_reducible refine w_asg ?_ | with_reducible refine w_gname ?_ | with_reducible refine w_gcons ?_ | with_reducible refine w_gnil ?_ | with_reducible refine w_gsub ?_
  | ((with_reducible refine' w_gtup ?ha ?hb ?_); (case ha => walk_at "hp"); (case hb => rfl))
  | ((with_reducible refine' w_fdiv ?hc ?_); (case hc => walk_at "cond")) | ((with_reducible refine' w_mul ?hc ?_); (case hc => walk_at "cond"))
  | ((with_reducible refine' w_mod ?hc ?_); (case hc => walk_at "cond")) | ((with_reducible refine' w_pow ?hc ?_); (case hc => walk_at "cond")))
local macro_rules | `(tactic| walk_at "wp") => `(tactic| repeat walk_at "wp1")
section
variable {P : Program} {w : World} {K : PySem.W.Frag} {mg : Str → Option Value} {base : Heap}
/-! ### a comprehension over a range whose items make objects -/
theorem lcR1S {σ : L2.St} {H : Hp} {Q : VK} {te : TE} {n : Int} {m : Nat} {vs : List Nat} (f : Nat → V) (hn : n < 100000) (hl : -100000 ≤ n)
    (hv : ∀ (i : Nat) H2 (Q' : VK), (i : Int) < n → Same H H2 → (∀ H3, Same H2 H3 → Q' (f i) H3) → te ((wipe σ vs).set m (some (.int (i : Int)))) H2 Q') (hw : ∀ x, wipe ((wipe σ vs).set m (some x)) vs = wipe σ vs)
    (q : ∀ D H2, H D = none → H2 D = some (.lst ((List.range n.toNat).map f)) → Same H H2 → Q (.ref D) H2) : ItR1 (fun J H1 => LcR J (gName m) tYes te vs σ Q H1) [.int n] H := by
  refine ⟨n, rfl, by omega, by omega, fun D nD => ?_⟩
  refine lc_range (lo := 0) (n := n.toNat) (fun i H' => Same H H' ∧ H' D = some (.lst ((List.range i).map f))) ⟨same_upd nD, upd_same⟩ (fun i H' hi ⟨s1, e1⟩ => ?_) (fun H' ⟨s1, e1⟩ => q D H' nD e1 s1)
  have e0 : (0 : Int) + (i : Int) = (i : Int) := Int.zero_add _
  rw [e0]
  refine ⟨hw _, hv i H' _ (by omega) s1 fun H3 s3 => ?_⟩
  refine ⟨_, s3 _ _ e1, by rw [List.length_map, List.length_range]; exact Nat.lt_of_lt_of_le (show i < 300000 by omega) (by decide), fun b o hb => ?_, ?_⟩
  · rw [upd_ne (ne_of_none hb nD)]
    exact s3 b o (s1 b o hb)
  · rw [upd_same, List.range_succ, List.map_append]
    rfl
/-! ### brackets round all -/
def outer (u v : Nat) (ps : List Pc) : Nat → List Pc
  | 0 => .s 40 :: (bl u ++ (ps ++ (bl v ++ [.s 41])))
  | m + 1 => .s 40 :: (bl 0 ++ (outer u v ps m ++ (bl 0 ++ [.s 41])))
theorem outer_msy {n : Nat} {t : Rd.T} {u v : Nat} {ps : List Pc} (h : Msy n t 0 ps) : ∀ m, Msy (n + m + 1) t 0 (outer u v ps m)
  | 0 => .brk u v h
  | m + 1 => .brk 0 0 (outer_msy h m)
theorem outer_flat {u v : Nat} {ps : List Pc} : ∀ m, flat (outer u v ps m) = List.replicate (m + 1) 40 ++ (flat (bl u ++ (ps ++ bl v)) ++ List.replicate (m + 1) 41)
  | 0 => by
    show 40 :: flat (bl u ++ (ps ++ (bl v ++ [.s 41]))) = _
    simp only [flat_append]
    simp [flat, Pc.cs]
  | m + 1 => by
    show 40 :: flat (outer u v ps m ++ [.s 41]) = _
    rw [flat_append, outer_flat m]
    have e : List.replicate (m + 1 + 1) 41 = List.replicate (m + 1) 41 ++ [41] := List.replicate_succ'
    rw [e, List.replicate_succ (n := m + 1)]
    simp [flat, Pc.cs]
theorem outer_marks {u v : Nat} {ps : List Pc} : ∀ m, (marksP (outer u v ps m)).length = (marksP ps).length + 2 * (m + 1)
  | 0 => by
    show (one 40 :: marksP (bl u ++ (ps ++ (bl v ++ [.s 41])))).length = _
    rw [marks_bl, marksP_append, marks_bl, List.length_cons, List.length_append]
    rfl
  | m + 1 => by
    show (one 40 :: marksP (outer u v ps m ++ [.s 41])).length = _
    rw [marksP_append, List.length_cons, List.length_append, outer_marks m]
    show _ + 1 + 1 = _
    omega
theorem good_len : ∀ {t : Rd.T}, TGood t → t.told.length + 9 ≤ 17 * t.leaves
  | .num n, h => by
    have := num_lenS (show n < 100 from h)
    show (toString (n : Int) : Str).length + 9 ≤ 17 * 1
    omega
  | .kn x none, h => by
    have := Nm.len h
    show x.length + 9 ≤ 17 * 1
    omega
  | .kn x (some q), h => h.elim
  | .bin i a b, h => by
    have h1 := good_len h.2.1
    have h2 := good_len h.2.2
    have b1 := brk_len (decide (a.rank < rk i)) a.told
    have b2 := brk_len (decide (b.rank < rk i + 1)) b.told
    have ls := S4_len h.1
    have e1 : (Str.ofString " ").length = 1 := by decide +kernel
    show (Rd.T.brk (decide (a.rank < rk i)) a.told ++ " " ++ S4 i ++ " " ++ Rd.T.brk (decide (b.rank < rk i + 1)) b.told).length + 9 ≤ 17 * (a.leaves + b.leaves)
    rw [Str.length_append, Str.length_append, Str.length_append, Str.length_append]
    omega
/-- the text that is handed in is read as the term -/
theorem handed_read {z x : Str} {xs : List Str} {t : Rd.T} {ps : List Pc} {u v m : Nat} (hx : ∀ y ∈ x :: xs, Nm y) (hl : xs.length ≤ 3) (hm : Msy 3 t 0 ps) (hlen : (marksP ps).length ≤ 40) (hm6 : m ≤ 6)
    (hz : z.cps.toList = flat (defP "main" x xs) ++ 10 :: (Yg ++ (List.replicate m 40 ++ (flat (bl u ++ (ps ++ bl v)) ++ List.replicate m 41)))) : readM z = .ok (main1 (x :: xs) [t]) := by
  have eY : ∀ l : List Nat, ∀ R : List Pc, flat R = l → flat (bl 2 ++ giveP R) = Yg ++ l := fun l R h => by
    have ec : cps "give" = gvL := by decide +kernel
    show 32 :: 32 :: (cps "give" ++ (32 :: flat R)) = _
    rw [ec, h]
    rfl
  cases m with
  | zero =>
    refine read_main1 (u := u) (v := v) hx hl (hm.mono (by omega)) (by omega) ?_
    rw [hz, eY _ _ rfl]
    simp
  | succ m =>
    refine read_main1 (u := 0) (v := 0) (qs := outer u v ps m) hx hl ((outer_msy hm m).mono (by omega)) (by rw [outer_marks]; omega) ?_
    rw [hz, eY (List.replicate (m + 1) 40 ++ (flat (bl u ++ (ps ++ bl v)) ++ List.replicate (m + 1) 41)) _ (by
      show flat (outer u v ps m ++ []) = _
      rw [List.append_nil, outer_flat])]
theorem ahead_codes (x : Str) (xs : List Str) : (("def main(" : Str) ++ Txt.join ", " (x :: xs) ++ ")\n  give ").cps.toList = flat (defP "main" x xs) ++ 10 :: Yg := by
  rw [defP_flat, cat_list, cat_list, cat_list, cat_list]
  have e : (Str.ofString ")\n  give ").cps.toList = (Str.ofString ")").cps.toList ++ 10 :: Yg := by decide +kernel
  rw [e]
  simp only [List.append_assoc]
theorem ahead_len {names : List Str} (hn : ∀ y ∈ names, Nm y) (hl : names.length ≤ 4) : (("def main(" : Str) ++ Txt.join ", " names ++ ")\n  give ").length ≤ 100 := by
  have h1 := lens_le (m := 8) (n := 4) (fun y hy => (hn y hy).len) hl
  have h2 := join_len ", " names
  have e1 : (Str.ofString ", ").length = 2 := by decide +kernel
  have e2 : (Str.ofString "def main(").length = 9 := by decide +kernel
  have e3 : (Str.ofString ")\n  give ").length = 9 := by decide +kernel
  rw [e1] at h2
  rw [Str.length_append, Str.length_append]
  omega
theorem ok_main1 {names : List Str} {t : Rd.T} (hn : ∀ y ∈ names, Nm y) (hl : names.length ≤ 4) (ht : TGood t) (h8 : t.leaves ≤ 60) : (∀ q ∈ main1 names [t], PtOk q) ∧ (toldP (main1 names [t])).length ≤ 60 := by
  refine ⟨fun q hq => ?_, ?_⟩
  · cases List.mem_singleton.mp hq
    refine ⟨show (Str.ofString "main").length ≤ 100 by decide +kernel, ⟨show names.length ≤ 60 by omega, fun y hy => Nat.le_trans (hn y hy).len (by decide)⟩, by unfold SsOk; trivial, by show depthS [] ≤ 7; rw [depthS]; omega, fun y hy => ?_, ?_⟩
    · cases List.mem_singleton.mp hy
      exact ht.ok
    · show t.leaves + 0 ≤ 60
      omega
  · unfold toldP main1
    rw [List.flatMap_cons, List.flatMap_nil, List.append_nil]
    unfold Pt.told
    rw [toldS]
    show (2 : Nat) ≤ 60
    omega
section
variable (T : Fre mg) (BK : Bkd K)
include T BK
theorem law_ok {fd : FuncData} (F : FunD K "law" "law" (defArgs s_law) (defBody s_law) (defScope s_law) [] [] (He.ga K "law") fd) (c_l_dice : Cal P w K mg base 1 "_law_dice" ["_law_script"] (spDice K)) (c_l_next : Cal P w K mg base 1 "_law_next" ["_law_dice_here", "_law_many"] (spNext K)) (c_l_style : Cal P w K mg base 2 "_law_style" ["_law_dice_here"] (spStyle K)) (c_l_word : Cal P w K mg base 1 "_law_word" ["_law_style_here", "_law_j"] spWord) (c_read : Cal P w K mg base 63 "read" ["text"] (spRead K)) (m_Program_told : Met P w K mg base 132 "Program" "told" (spToldPr K))
    (c_l_term : Cal P w K mg base 5 "_law_term" ["_law_dice_here", "_law_names", "_law_deep"] (spLTerm K 3)) (c_l_said : Cal P w K mg base 5 "_law_said" ["_law_term_here", "_law_firm"] (spSaid 4)) (c_l_messy : Cal P w K mg base 6 "_law_messy" ["_law_dice_here", "_law_term_here", "_law_firm"] (spMessy K 4)) :
    FnOk P w K mg base (L2N.CX P w) 140 (He.ga K "law") fd ["_law_script"] (spLaw K) := by
  refine F.ok sc_law (fun vs H Q E h => ?_) (fun cdv A outer s H vs Q E hr h => ?_)
  · obtain ⟨_, _, rfl, _⟩ := h
    rfl
  · obtain ⟨a, ns, rfl, hS, q⟩ := h
    have sl : sizeLine = 16777216 := sizeLine_eq
    have po := passes_of (X := cxOf (L2N.CX P w) P w K mg base ["_law_script", "_law_dice_here", "_law_style_here", "_law_names", "_law_j", "_law_term_here", "_law_ahead", "_law_due", "_law_handed", "_law_many", "_law_found"] "law" (defScope s_law) (He.ga K "law") cdv A outer s H E) rfl
    have tk := L2N.takes_of (X := cxOf (L2N.CX P w) P w K mg base ["_law_script", "_law_dice_here", "_law_style_here", "_law_names", "_law_j", "_law_term_here", "_law_ahead", "_law_due", "_law_handed", "_law_many", "_law_found"] "law" (defScope s_law) (He.ga K "law") cdv A outer s H E) (E := E) rfl rfl rfl rfl
    have pc := L2N.passes_call tk (fun _ _ _ _ h => h) (E := E)
    have hu64 : (cxOf (L2N.CX P w) P w K mg base ["_law_script", "_law_dice_here", "_law_style_here", "_law_names", "_law_j", "_law_term_here", "_law_ahead", "_law_due", "_law_handed", "_law_many", "_law_found"] "law" (defScope s_law) (He.ga K "law") cdv A outer s H E).A.units + 64 < cLine := by
      have := hr.un
      show (A.deeper _).units + 64 < cLine
      omega
    refine ⟨_, (pss_cons (ps_set (i := 1) sc_law.nd rfl (loc_of rfl) (pe_cal c_l_dice hr (by omega) pc (pa_cons (pv 0) pa_nil)))
      (pss_cons (ps_set (i := 2) sc_law.nd rfl (loc_of rfl) (pe_cal c_l_style hr (by omega) pc (pa_cons (pv 1) pa_nil)))
      (pss_cons (ps_setLc (i := 3) (own := [("_law_j", 4)]) (g := gName 4) (by rfl) sc_law.nd rfl rfl (by rfl) (pi_range1 (by rfl) T.f_range (pa_cons (pe_op o_add pe_int (pe_cal c_l_next hr (by omega) pc (pa_cons (pv 1) (pa_cons pe_int pa_nil)))) pa_nil)) (blkOk_by (own := [("_law_j", 4)]) (N := ["_law_script", "_law_dice_here", "_law_style_here", "_law_names", "_law_j", "_law_term_here", "_law_ahead", "_law_due", "_law_handed", "_law_many", "_law_found"]) (sc := defScope s_law) (by decide +kernel)) (fun _ _ _ _ _ => pg_name (i := 4) sc_law.nd rfl (Or.inl rfl)) (fun _ _ _ _ _ => pts_nil) (fun _ _ _ _ _ => (pe_cal c_l_word hr (by omega) passF (pa_cons (pv 2) (pa_cons (pv 4) pa_nil)))))
      (pss_cons (ps_set (i := 5) sc_law.nd rfl (loc_of rfl) (pe_cal c_l_term hr (by omega) pc (pa_cons (pv 1) (pa_cons (pv 3) (pa_cons pe_int pa_nil)))))
      (pss_set1 (i := 6) sc_law.nd rfl (loc_of rfl) (pe1_opC o_catS (pe_op o_catS pe_str (pe_m1 PySem.F.slot_str_join PySem.F.type_str_join (m_join (K := K) rfl) pe_str (pv 3))))
      (psst_cons (PST.of (ps_set (i := 7) sc_law.nd rfl (loc_of rfl) (pe_op o_catS (pv 6) (pe_cal c_l_said hr (by omega) pc (pa_cons (pv 5) (pa_cons pe_int pa_nil))))))
      (psst_cons (PST.of (ps_set (i := 8) sc_law.nd rfl (loc_of rfl) (pe_op o_catS (pe_op o_catS (pe_op o_catS (pv 6) (pe_op o_mulS pe_str (pe_cal c_l_next hr (by omega) pc (pa_cons (pv 1) (pa_cons pe_int pa_nil))))) (pe_cal c_l_messy hr (by omega) pc (pa_cons (pv 1) (pa_cons (pv 5) (pa_cons pe_int pa_nil))))) (pe_op o_mulS pe_str (pe_cal c_l_next hr (by omega) pc (pa_cons (pv 1) (pa_cons pe_int pa_nil)))))))
      (psst_cons (PST.of (ps_set (i := 9) sc_law.nd rfl (loc_of rfl) (pe_cal c_l_next hr (by omega) pc (pa_cons (pv 1) (pa_cons pe_int pa_nil)))))
      (psst_cons (pst_set (i := 8) sc_law.nd rfl (loc_of rfl) (CwR.pet_op o_catS (pet_replE BK (pv 8) (pe_op o_mulS pe_str (pv 9))) (CwR.PET.of (pe_op o_mulS pe_str (pv 9)))))
      (PSsT.of (pss_cons (ps_set (i := 10) sc_law.nd rfl (loc_of rfl) (pe_mt0 m_Program_told (pe_cal c_read hr (by omega) pc (pa_cons (pv 8) pa_nil)) hr (by omega) pc))
      (pss_cons (ps_if (PW.pt (pw_or (pt_not (pt_val (pe_callB (c_isiK (K := K) rfl) (by rfl) T.f_isinstance (by decide +kernel) (pa_cons (pv 10) (pa_cons (pe_bltn (v := .ty "str") (by rfl) T.f_str (by decide +kernel) rfl) pa_nil))))) (pw_or1 (pt_cmpR op_ne (pv 10) (pv 7) (nomark _))))) (pss_one (ps_ret pe_bl)) pss_nil)
      (pss_one (ps_ret (pe_cmpR op_eq (pe_mt0 m_Program_told (pe_cal c_read hr (by omega) pc (pa_cons (pv 7) pa_nil)) hr (by omega) pc) (pv 7) (nomark _)))))))))))))))), ?_⟩
    refine w_start [some (.ref a), none, none, none, none, none, none, none, none, none, none] rfl ?_
    try dsimp only [cxOf]
    walk_at "wp"
    refine ⟨a, ns, rfl, hS, fun d H1 nd D1 s1 => ?_⟩
    walk_at "wp"
    refine ⟨d, rfl, D1, fun st H2 hst D2 k2 => ?_⟩
    walk_at "wp"
    refine ⟨d, 4, rfl, D2, by decide, by decide, fun r H3 a3 b3 D3 k3 => ?_⟩
    walk_at "wp"
    refine lcR1S (fun i => .str (wordM st i)) (by omega) (by omega) (fun i H4 Q' hi s4 q' => ?_) (fun _ => rfl) (fun L H4 nL eL s4 => ?_)
    · walk_at "wp"
      exact ⟨st, i, rfl, by omega, by omega, fun H5 s5 => q' H5 s5⟩
    · generalize hnm : (List.range (1 + r).toNat).map (fun i => wordM st i) = names
      have eL : H4 L = some (.lst (names.map V.str)) := by
        rw [eL, ← hnm, List.map_map]
        rfl
      have hn : ∀ y ∈ names, Nm y := fun y hy => by
        rw [← hnm] at hy
        obtain ⟨i, hi, rfl⟩ := List.mem_map.mp hy
        have := List.mem_range.mp hi
        exact wordM_nm (by omega)
      have ln : names.length = (1 + r).toNat := by rw [← hnm, List.length_map, List.length_range]
      obtain ⟨o3, eo3⟩ := D3.some
      have nLd : L ≠ d := (ne_of_none eo3 nL).symm
      walk_at "wp"
      refine ⟨d, L, names, rfl, D3.same s4, eL, nLd, hn, by omega, by omega, fun b t H5 tb gt dp lv D5 k5 => ?_⟩
      have lv8 : t.leaves ≤ 8 := lv
      have eL5 := k5 _ _ nLd eL
      have hln : names.length ≤ 4 := by omega
      obtain ⟨x, xs, hxs⟩ : ∃ x xs, names = x :: xs := by
        cases names with
        | nil => simp only [List.length_nil] at ln; omega
        | cons x xs => exact ⟨x, xs, rfl⟩
      have lens := lens_le (m := 8) (n := 4) (fun y hy => (hn y hy).len) hln
      have e1 : (Str.ofString ", ").length = 2 := by decide +kernel
      have e2 : (Str.ofString "def main(").length = 9 := by decide +kernel
      have e3 : (Str.ofString ")\n  give ").length = 9 := by decide +kernel
      have hjl := join_len ", " names
      rw [e1] at hjl
      walk_at "wp"
      refine w_join (SqL.of eL5) (by rw [e1]; omega) ?_
      refine w_catS (by omega) ?_
      walk_at "wp"
      refine w_catS (by rw [Str.length_append]; omega) ?_
      have hal := ahead_len hn hln
      have hac := ahead_codes x xs
      rw [← hxs] at hac
      generalize hah : Str.ofString "def main(" ++ Txt.join (Str.ofString ", ") names ++ Str.ofString ")\n  give " = ah at hal hac
      walk_at "wp"
      refine ⟨b, t, 0, rfl, tb, gt, by omega, by omega, by omega, ?_⟩
      have etb : t.bnd 0 = t.told := by
        show Rd.T.brk (decide (t.rank < 0)) _ = _
        rw [decide_eq_false (by omega)]
        rfl
      have tl := good_len gt
      rw [etb]
      refine w_catS (by omega) ?_
      have hdue : progTold (main1 names [t]) = ah ++ t.told := by rw [told_main1, ← hah]
      generalize hdu : ah ++ t.told = due at hdue
      walk_at "wp"
      refine ⟨d, 2, rfl, D5, by decide, by decide, fun r6 H6 a6 b6 D6 k6 => ?_⟩
      have tb6 := tb.keep (D5.kn k6)
      have er6 : r6 = ((r6.toNat : Nat) : Int) := by omega
      refine w_mulS (show (1 : Nat) ≤ 1000 by decide) a6 (by omega) ?_
      rw [er6, mul_bl]
      refine w_catS (by rw [len_bl]; omega) ?_
      walk_at "wp"
      refine ⟨d, b, t, 0, rfl, D6, tb6, gt, by omega, by omega, by omega, fun m ps H7 hm My ml tlm D7 k7 => ?_⟩
      refine w_catS (by rw [Str.length_append, len_bl]; omega) ?_
      walk_at "wp"
      refine ⟨d, 2, rfl, D7, by decide, by decide, fun r8 H8 a8 b8 D8 k8 => ?_⟩
      have er8 : r8 = ((r8.toNat : Nat) : Int) := by omega
      refine w_mulS (show (1 : Nat) ≤ 1000 by decide) a8 (by omega) ?_
      rw [er8, mul_bl]
      refine w_catS (by rw [Str.length_append, Str.length_append, len_bl, len_bl]; omega) ?_
      generalize hh0 : ah ++ mk (List.replicate r6.toNat 32) ++ m ++ mk (List.replicate r8.toNat 32) = h0
      have lh0 : h0.length ≤ 300 := by
        rw [← hh0, Str.length_append, Str.length_append, Str.length_append, len_bl, len_bl]
        omega
      obtain ⟨okps, _, nmps⟩ := My.ok
      have okv : ∀ v, okP none (bl v) ∧ Soft (bl v) := fun v => by
        refine ⟨?_, ?_⟩
        · have := okP_bl0 (n := v) (ps := []) trivial
          rw [List.append_nil] at this
          exact this
        · cases v with
          | zero => exact trivial
          | succ v => exact trivial
      have hc0 : h0.cps.toList = flat (defP "main" x xs) ++ 10 :: (Yg ++ flat (bl r6.toNat ++ (ps ++ bl r8.toNat))) := by
        rw [← hh0, cat_list, cat_list, cat_list, hac, hm, flat_append, flat_append, flat_bl, flat_bl]
        simp [mk, List.append_assoc]
      walk_at "wp"
      refine ⟨d, 7, rfl, D8, by decide, by decide, fun r9 H9 a9 b9 D9 k9 => ?_⟩
      have er9 : r9 = ((r9.toNat : Nat) : Int) := by omega
      walk_at "wp"
      refine w_replE ?_
      walk_at "wp"
      refine ⟨_, rfl, ?_⟩
      walk_at "wp"
      refine w_mulS (by decide +kernel) a9 (by omega) ?_
      have mul40 : Txt.mul (Str.ofString "(") r9 = mk (List.replicate r9.toNat 40) := by
        have e : (Str.ofString "(") = ⟨#[40]⟩ := by decide +kernel
        rw [e, er9]
        exact mul_code 40 _
      have mul41 : Txt.mul (Str.ofString ")") r9 = mk (List.replicate r9.toNat 41) := by
        have e : (Str.ofString ")") = ⟨#[41]⟩ := by decide +kernel
        rw [e, er9]
        exact mul_code 41 _
      have lmk : ∀ c, (mk (List.replicate r9.toNat c)).length = r9.toNat := fun c => by
        show (List.replicate r9.toNat c).toArray.size = _
        simp
      have egv : (Str.ofString "  give ").length = 7 := by decide +kernel
      rw [mul40]
      refine ⟨_, rfl, by rw [lmk]; omega, ?_, ?_⟩
      · rw [Str.length_append, lmk, egv]
        have : (h0.length + 1) * (7 + r9.toNat) ≤ 301 * 20 := Nat.mul_le_mul (by omega) (by omega)
        omega
      have hnw : ∀ w, Nm (mk w) → w ≠ gvL := fun w hw z => by
        rw [z] at hw
        exact hw.word (by decide +kernel)
      obtain ⟨okA, mkA⟩ := defP_ok Nm_main (x := x) (xs := xs) (by rw [← hxs]; exact hn)
      have nA : ∀ w, Pc.w w ∈ defP "main" x xs → w ≠ gvL := fun w hw => by
        unfold defP at hw
        rcases List.mem_cons.mp hw with hw | hw
        · cases hw
          decide +kernel
        · rcases List.mem_cons.mp hw with hw | hw
          · cases hw
          · rcases List.mem_cons.mp hw with hw | hw
            · cases hw
              decide +kernel
            · rcases List.mem_cons.mp hw with hw | hw
              · cases hw
              · rcases List.mem_cons.mp hw with hw | hw
                · cases hw
                  exact hnw _ (by rw [mk_list]; exact hn x (by rw [hxs]; exact List.mem_cons_self))
                · rcases List.mem_append.mp hw with hw | hw
                  · have : ∀ {ys : List Str}, Pc.w w ∈ commaP ys → ∃ y ∈ ys, w = y.cps.toList := by
                      intro ys
                      induction ys with
                      | nil => intro h; cases h
                      | cons y ys ih =>
                        intro h
                        rcases List.mem_cons.mp h with h | h
                        · cases h
                        · rcases List.mem_cons.mp h with h | h
                          · cases h
                          · rcases List.mem_cons.mp h with h | h
                            · cases h
                              exact ⟨y, List.mem_cons_self, rfl⟩
                            · obtain ⟨y', hy', e'⟩ := ih h
                              exact ⟨y', List.mem_cons_of_mem _ hy', e'⟩
                    obtain ⟨y, hy, rfl⟩ := this hw
                    exact hnw _ (by rw [mk_list]; exact hn y (by rw [hxs]; exact List.mem_cons_of_mem _ hy))
                  · cases List.mem_singleton.mp hw
      have nR : ∀ w, Pc.w w ∈ bl r6.toNat ++ (ps ++ bl r8.toNat) → w ≠ gvL := fun w hw => by
        rcases List.mem_append.mp hw with hw | hw
        · cases mem_bl hw
        · rcases List.mem_append.mp hw with hw | hw
          · exact hnw w (nmps w hw)
          · cases mem_bl hw
      have hrep := repl_text (z := Str.ofString "  give " ++ mk (List.replicate r9.toNat 40)) (Z := []) okA nA (okP_bl0 (okP_soft okps (okv r8.toNat).1 (okv r8.toNat).2)) nR hc0 (y := Str.ofString "  give ") (by decide +kernel)
      have lrep := TK.replace_len h0 (Str.ofString "  give ") (Str.ofString "  give " ++ mk (List.replicate r9.toNat 40))
      have lrep2 : (Txt.replace h0 (Str.ofString "  give ") (Str.ofString "  give " ++ mk (List.replicate r9.toNat 40))).length ≤ 7000 := by
        have h1 : (h0.length + 1) * (Str.ofString "  give " ++ mk (List.replicate r9.toNat 40)).length ≤ 301 * 20 := Nat.mul_le_mul (by omega) (by rw [Str.length_append, lmk, egv]; omega)
        omega
      generalize hrp : Txt.replace h0 (Str.ofString "  give ") (Str.ofString "  give " ++ mk (List.replicate r9.toNat 40)) = rp at hrep lrep2
      walk_at "wp"
      refine w_mulS (by decide +kernel) a9 (by omega) ?_
      rw [mul41]
      refine w_catS (by rw [lmk]; omega) ?_
      generalize hz0 : rp ++ mk (List.replicate r9.toNat 41) = z
      have lz : z.length ≤ 10000 := by
        rw [← hz0, Str.length_append, lmk]
        omega
      have eY : (Str.ofString "  give ").cps.toList = Yg := by decide +kernel
      have hzc : z.cps.toList = flat (defP "main" x xs) ++ 10 :: (Yg ++ (List.replicate r9.toNat 40 ++ (flat (bl r6.toNat ++ (ps ++ bl r8.toNat)) ++ List.replicate r9.toNat 41))) := by
        rw [← hz0, cat_list, hrep, cat_list, eY]
        simp [mk, List.append_assoc]
      have hrd := handed_read (by rw [← hxs]; exact hn) (by have := congrArg List.length hxs; simp only [List.length_cons] at this; omega) (My.mono (by omega)) (by omega) (by omega) hzc
      rw [← hxs] at hrd
      obtain ⟨pok, plen⟩ := ok_main1 hn hln gt (by omega)
      walk_at "wp"
      refine ⟨z, rfl, lz, split_bounds lz, split_ne z, ?_⟩
      rw [hrd]
      dsimp only
      refine fun pa H10 PA s10 => ?_
      obtain ⟨dpa, lpa, asp, epa, _, _⟩ := id PA
      walk_at "wp"
      refine ⟨pa, _, rfl, PA, pok, plen, fun H11 s11 => ?_⟩
      rw [hdue]
      walk_at "wp"
      refine w_decNO rfl ?_
      walk_at "wp"
      have ldu : due.length ≤ 10000 := by
        rw [← hdu, Str.length_append]
        omega
      obtain ⟨ps2, hp2, My2, ml2⟩ := told_msy gt 0 (by omega)
      have hduc : due.cps.toList = flat (defP "main" x xs) ++ 10 :: (Yg ++ (List.replicate 0 40 ++ (flat (bl 0 ++ (ps2 ++ bl 0)) ++ List.replicate 0 41))) := by
        rw [← hdu, cat_list, hac, ← etb, ← hp2]
        have e0 : flat (bl 0 ++ (ps2 ++ bl 0)) = flat ps2 := by
          show flat (ps2 ++ []) = _
          rw [List.append_nil]
        rw [e0]
        simp [List.append_assoc]
      have hrd2 := handed_read (by rw [← hxs]; exact hn) (by have := congrArg List.length hxs; simp only [List.length_cons] at this; omega) (My2.mono (by omega)) (by omega) (by omega) hduc
      rw [← hxs] at hrd2
      refine ⟨due, rfl, ldu, split_bounds ldu, split_ne due, ?_⟩
      rw [hrd2]
      dsimp only
      refine fun pb H12 PB s12 => ?_
      obtain ⟨dpb, lpb, bsp, epb, _, _⟩ := id PB
      walk_at "wp"
      refine ⟨pb, _, rfl, PB, pok, plen, fun H13 s13 => ?_⟩
      rw [hdue]
      walk_at "wp"
      rw [decide_eq_true rfl]
      exact q H13
end
end
end Lw

namespace Lw
open PySem PySem.Spec PyProof.Rows L2 Fw Htx Ob Tx Rd Lk Tk
theorem facts {P : Program} {w : World} {K : PySem.W.Frag} {h : Heap} {mg : Str → Option Value} {f : Addr} (X : K.In h) (G : h.Ns mainGlobals mg) (hfa : mg ("law" : Str) = some (.ref f)) (c : Hy.Says bsL fn K) :
    ∃ fd : FuncData, (∀ (s : Shared) (v : Value), BindsTo s fd ⟨[v], []⟩ [("_law_script", v)]) ∧ ∀ base : Heap, K.In base → base.Ns mainGlobals mg → FnOk P w K mg base (L2N.CX P w) 140 f fd ["_law_script"] (spLaw K) := by
  have hfn : (fn.all fun d => d.ok K) = true := c.b fnL (List.mem_cons_self)
  have hfaL : (fa.all fun d => d.ok K) = true := c.b faL (List.mem_cons_of_mem _ List.mem_cons_self)
  have hex := headB_ok (c.b headB (List.mem_cons_of_mem _ (List.mem_cons_of_mem _ List.mem_cons_self)))
  have hfq : ∀ (i : Nat) (q : He.Fa), fa[i]? = some q → q.ok K = true := fun i q h => List.all_eq_true.mp hfaL q (List.mem_of_getElem? h)
  have df : ∀ (i : Nat) (x : Str) (st : Stmt), fn[i]? = some (dd x st) → fa[i]? = some (.glo x) → Def K mg x st := fun i x st h1 h2 => ⟨c.def_ hfn i h1, He.glo_ok X G (hfq i _ h2)⟩
  have T : Fre mg := ⟨He.free_ok X G (hfq 16 _ rfl), He.free_ok X G (hfq 17 _ rfl), He.free_ok X G (hfq 18 _ rfl), He.free_ok X G (hfq 19 _ rfl), He.free_ok X G (hfq 20 _ rfl), He.free_ok X G (hfq 21 _ rfl), He.free_ok X G (hfq 22 _ rfl)⟩
  have F__wall : Def K mg "_wall" s__wall := df 0 _ _ rfl rfl
  have F_written : Def K mg "written" s_written := df 1 _ _ rfl rfl
  have F_place_told : Def K mg "place_told" s_place_told := df 2 _ _ rfl rfl
  have F_marks_of : Def K mg "marks_of" s_marks_of := df 3 _ _ rfl rfl
  have F_is_name : Def K mg "is_name" s_is_name := df 4 _ _ rfl rfl
  have F_is_number : Def K mg "is_number" s_is_number := df 5 _ _ rfl rfl
  have F_depth_of : Def K mg "depth_of" s_depth_of := df 6 _ _ rfl rfl
  have F_read : Def K mg "read" s_read := df 7 _ _ rfl rfl
  have F_l_dice : Def K mg "_law_dice" s_l_dice := df 8 _ _ rfl rfl
  have F_l_next : Def K mg "_law_next" s_l_next := df 9 _ _ rfl rfl
  have F_l_style : Def K mg "_law_style" s_l_style := df 10 _ _ rfl rfl
  have F_l_word : Def K mg "_law_word" s_l_word := df 11 _ _ rfl rfl
  have F_l_said : Def K mg "_law_said" s_l_said := df 12 _ _ rfl rfl
  have F_l_term : Def K mg "_law_term" s_l_term := df 13 _ _ rfl rfl
  have F_l_messy : Def K mg "_law_messy" s_l_messy := df 14 _ _ rfl rfl
  have F_law : Def K mg "law" s_law := df 15 _ _ rfl rfl
  have ini : IniD K := c.def_ hfn 16 (d := md0) rfl
  have F_Term_leaves : MDef K "Term" "leaves" "Term.leaves" s_Term_leaves := c.def_ hfn 17 (d := md1) rfl
  have F_Term_rank : MDef K "Term" "rank" "Term.rank" s_Term_rank := c.def_ hfn 18 (d := md2) rfl
  have F_Term_bound : MDef K "Term" "bound" "Term.bound" s_Term_bound := c.def_ hfn 19 (d := md3) rfl
  have F_Number___init__ : MDef K "Number" "__init__" "Number.__init__" s_Number___init__ := c.def_ hfn 20 (d := md4) rfl
  have F_Number_told : MDef K "Number" "told" "Number.told" s_Number_told := c.def_ hfn 21 (d := md5) rfl
  have F_Number_worth : MDef K "Number" "worth" "Number.worth" s_Number_worth := c.def_ hfn 22 (d := md6) rfl
  have F_Number_slope : MDef K "Number" "slope" "Number.slope" s_Number_slope := c.def_ hfn 23 (d := md7) rfl
  have F_Number_reckoned : MDef K "Number" "reckoned" "Number.reckoned" s_Number_reckoned := c.def_ hfn 24 (d := md8) rfl
  have F_Number_looked : MDef K "Number" "looked" "Number.looked" s_Number_looked := c.def_ hfn 25 (d := md9) rfl
  have F_Known___init__ : MDef K "Known" "__init__" "Known.__init__" s_Known___init__ := c.def_ hfn 26 (d := md10) rfl
  have F_Known_told : MDef K "Known" "told" "Known.told" s_Known_told := c.def_ hfn 27 (d := md11) rfl
  have F_Known_worth : MDef K "Known" "worth" "Known.worth" s_Known_worth := c.def_ hfn 28 (d := md12) rfl
  have F_Known_slope : MDef K "Known" "slope" "Known.slope" s_Known_slope := c.def_ hfn 29 (d := md13) rfl
  have F_Known_reckoned : MDef K "Known" "reckoned" "Known.reckoned" s_Known_reckoned := c.def_ hfn 30 (d := md14) rfl
  have F_Known_looked : MDef K "Known" "looked" "Known.looked" s_Known_looked := c.def_ hfn 31 (d := md15) rfl
  have F_Pairwise___init__ : MDef K "Pairwise" "__init__" "Pairwise.__init__" s_Pairwise___init__ := c.def_ hfn 32 (d := md16) rfl
  have F_Pairwise_leaves : MDef K "Pairwise" "leaves" "Pairwise.leaves" s_Pairwise_leaves := c.def_ hfn 33 (d := md17) rfl
  have F_Pairwise_told : MDef K "Pairwise" "told" "Pairwise.told" s_Pairwise_told := c.def_ hfn 34 (d := md18) rfl
  have F_Pairwise_worth : MDef K "Pairwise" "worth" "Pairwise.worth" s_Pairwise_worth := c.def_ hfn 35 (d := md19) rfl
  have F_Pairwise_reckoned : MDef K "Pairwise" "reckoned" "Pairwise.reckoned" s_Pairwise_reckoned := c.def_ hfn 36 (d := md20) rfl
  have F_Pairwise_looked : MDef K "Pairwise" "looked" "Pairwise.looked" s_Pairwise_looked := c.def_ hfn 37 (d := md21) rfl
  have F_Sum___init__ : MDef K "Sum" "__init__" "Sum.__init__" s_Sum___init__ := c.def_ hfn 38 (d := md22) rfl
  have F_Sum_rank : MDef K "Sum" "rank" "Sum.rank" s_Sum_rank := c.def_ hfn 39 (d := md23) rfl
  have F_Sum_slope : MDef K "Sum" "slope" "Sum.slope" s_Sum_slope := c.def_ hfn 40 (d := md24) rfl
  have F_Less___init__ : MDef K "Less" "__init__" "Less.__init__" s_Less___init__ := c.def_ hfn 41 (d := md25) rfl
  have F_Less_rank : MDef K "Less" "rank" "Less.rank" s_Less_rank := c.def_ hfn 42 (d := md26) rfl
  have F_Less_slope : MDef K "Less" "slope" "Less.slope" s_Less_slope := c.def_ hfn 43 (d := md27) rfl
  have F_Times___init__ : MDef K "Times" "__init__" "Times.__init__" s_Times___init__ := c.def_ hfn 44 (d := md28) rfl
  have F_Times_rank : MDef K "Times" "rank" "Times.rank" s_Times_rank := c.def_ hfn 45 (d := md29) rfl
  have F_Times_slope : MDef K "Times" "slope" "Times.slope" s_Times_slope := c.def_ hfn 46 (d := md30) rfl
  have F_Over___init__ : MDef K "Over" "__init__" "Over.__init__" s_Over___init__ := c.def_ hfn 47 (d := md31) rfl
  have F_Over_rank : MDef K "Over" "rank" "Over.rank" s_Over_rank := c.def_ hfn 48 (d := md32) rfl
  have F_Over_slope : MDef K "Over" "slope" "Over.slope" s_Over_slope := c.def_ hfn 49 (d := md33) rfl
  have F_Row___init__ : MDef K "Row" "__init__" "Row.__init__" s_Row___init__ := c.def_ hfn 50 (d := md34) rfl
  have F_Row_bad : MDef K "Row" "bad" "Row.bad" s_Row_bad := c.def_ hfn 51 (d := md35) rfl
  have F_Row_now : MDef K "Row" "now" "Row.now" s_Row_now := c.def_ hfn 52 (d := md36) rfl
  have F_Row_behind : MDef K "Row" "behind" "Row.behind" s_Row_behind := c.def_ hfn 53 (d := md37) rfl
  have F_Row_took : MDef K "Row" "took" "Row.took" s_Row_took := c.def_ hfn 54 (d := md38) rfl
  have F_Row_must : MDef K "Row" "must" "Row.must" s_Row_must := c.def_ hfn 55 (d := md39) rfl
  have F_Row_ended : MDef K "Row" "ended" "Row.ended" s_Row_ended := c.def_ hfn 56 (d := md40) rfl
  have F_Row_read_name : MDef K "Row" "read_name" "Row.read_name" s_Row_read_name := c.def_ hfn 57 (d := md41) rfl
  have F_Row_read_whole : MDef K "Row" "read_whole" "Row.read_whole" s_Row_read_whole := c.def_ hfn 58 (d := md42) rfl
  have F_Row_read_place : MDef K "Row" "read_place" "Row.read_place" s_Row_read_place := c.def_ hfn 59 (d := md43) rfl
  have F_Row_read_known : MDef K "Row" "read_known" "Row.read_known" s_Row_read_known := c.def_ hfn 60 (d := md44) rfl
  have F_Row_read_unit : MDef K "Row" "read_unit" "Row.read_unit" s_Row_read_unit := c.def_ hfn 61 (d := md45) rfl
  have F_Row_read_product : MDef K "Row" "read_product" "Row.read_product" s_Row_read_product := c.def_ hfn 62 (d := md46) rfl
  have F_Row_read_term : MDef K "Row" "read_term" "Row.read_term" s_Row_read_term := c.def_ hfn 63 (d := md47) rfl
  have F_Row_read_terms : MDef K "Row" "read_terms" "Row.read_terms" s_Row_read_terms := c.def_ hfn 64 (d := md48) rfl
  have F_Row_read_names : MDef K "Row" "read_names" "Row.read_names" s_Row_read_names := c.def_ hfn 65 (d := md49) rfl
  have F_Step___init__ : MDef K "Step" "__init__" "Step.__init__" s_Step___init__ := c.def_ hfn 66 (d := md50) rfl
  have F_Fill___init__ : MDef K "Fill" "__init__" "Fill.__init__" s_Fill___init__ := c.def_ hfn 67 (d := md51) rfl
  have F_Fill_done : MDef K "Fill" "done" "Fill.done" s_Fill_done := c.def_ hfn 68 (d := md52) rfl
  have F_Fill_looked : MDef K "Fill" "looked" "Fill.looked" s_Fill_looked := c.def_ hfn 69 (d := md53) rfl
  have F_Fill_told : MDef K "Fill" "told" "Fill.told" s_Fill_told := c.def_ hfn 70 (d := md54) rfl
  have F_Called___init__ : MDef K "Called" "__init__" "Called.__init__" s_Called___init__ := c.def_ hfn 71 (d := md55) rfl
  have F_Called_done : MDef K "Called" "done" "Called.done" s_Called_done := c.def_ hfn 72 (d := md56) rfl
  have F_Called_looked : MDef K "Called" "looked" "Called.looked" s_Called_looked := c.def_ hfn 73 (d := md57) rfl
  have F_Called_told : MDef K "Called" "told" "Called.told" s_Called_told := c.def_ hfn 74 (d := md58) rfl
  have F_Rowed___init__ : MDef K "Rowed" "__init__" "Rowed.__init__" s_Rowed___init__ := c.def_ hfn 75 (d := md59) rfl
  have F_Rowed_done : MDef K "Rowed" "done" "Rowed.done" s_Rowed_done := c.def_ hfn 76 (d := md60) rfl
  have F_Rowed_looked : MDef K "Rowed" "looked" "Rowed.looked" s_Rowed_looked := c.def_ hfn 77 (d := md61) rfl
  have F_Rowed_told : MDef K "Rowed" "told" "Rowed.told" s_Rowed_told := c.def_ hfn 78 (d := md62) rfl
  have F_Choice___init__ : MDef K "Choice" "__init__" "Choice.__init__" s_Choice___init__ := c.def_ hfn 79 (d := md63) rfl
  have F_Choice_done : MDef K "Choice" "done" "Choice.done" s_Choice_done := c.def_ hfn 80 (d := md64) rfl
  have F_Choice_looked : MDef K "Choice" "looked" "Choice.looked" s_Choice_looked := c.def_ hfn 81 (d := md65) rfl
  have F_Choice_told : MDef K "Choice" "told" "Choice.told" s_Choice_told := c.def_ hfn 82 (d := md66) rfl
  have F_Turns___init__ : MDef K "Turns" "__init__" "Turns.__init__" s_Turns___init__ := c.def_ hfn 83 (d := md67) rfl
  have F_Turns_done : MDef K "Turns" "done" "Turns.done" s_Turns_done := c.def_ hfn 84 (d := md68) rfl
  have F_Turns_looked : MDef K "Turns" "looked" "Turns.looked" s_Turns_looked := c.def_ hfn 85 (d := md69) rfl
  have F_Turns_told : MDef K "Turns" "told" "Turns.told" s_Turns_told := c.def_ hfn 86 (d := md70) rfl
  have F_Part___init__ : MDef K "Part" "__init__" "Part.__init__" s_Part___init__ := c.def_ hfn 87 (d := md71) rfl
  have F_Part_told : MDef K "Part" "told" "Part.told" s_Part_told := c.def_ hfn 88 (d := md72) rfl
  have F_Program___init__ : MDef K "Program" "__init__" "Program.__init__" s_Program___init__ := c.def_ hfn 89 (d := md73) rfl
  have F_Program_main : MDef K "Program" "main" "Program.main" s_Program_main := c.def_ hfn 90 (d := md74) rfl
  have F_Program_told : MDef K "Program" "told" "Program.told" s_Program_told := c.def_ hfn 91 (d := md75) rfl
  have F_Reader___init__ : MDef K "Reader" "__init__" "Reader.__init__" s_Reader___init__ := c.def_ hfn 92 (d := md76) rfl
  have F_Reader_bad : MDef K "Reader" "bad" "Reader.bad" s_Reader_bad := c.def_ hfn 93 (d := md77) rfl
  have F_Reader_first : MDef K "Reader" "first" "Reader.first" s_Reader_first := c.def_ hfn 94 (d := md78) rfl
  have F_Reader_taken : MDef K "Reader" "taken" "Reader.taken" s_Reader_taken := c.def_ hfn 95 (d := md79) rfl
  have F_Reader_read_program : MDef K "Reader" "read_program" "Reader.read_program" s_Reader_read_program := c.def_ hfn 96 (d := md80) rfl
  have F_Reader_read_part : MDef K "Reader" "read_part" "Reader.read_part" s_Reader_read_part := c.def_ hfn 97 (d := md81) rfl
  have F_Reader_read_steps : MDef K "Reader" "read_steps" "Reader.read_steps" s_Reader_read_steps := c.def_ hfn 98 (d := md82) rfl
  have F_Reader_read_block : MDef K "Reader" "read_block" "Reader.read_block" s_Reader_read_block := c.def_ hfn 99 (d := md83) rfl
  have F_Reader_read_step : MDef K "Reader" "read_step" "Reader.read_step" s_Reader_read_step := c.def_ hfn 100 (d := md84) rfl
  have F_Reader_read_choice : MDef K "Reader" "read_choice" "Reader.read_choice" s_Reader_read_choice := c.def_ hfn 101 (d := md85) rfl
  have F_Reader_read_filled : MDef K "Reader" "read_filled" "Reader.read_filled" s_Reader_read_filled := c.def_ hfn 102 (d := md86) rfl
  have CF : ClsF K clsL attL := clsFB_ok hex.cls
  have MF : MthF K := mthB_ok hex.mth
  have IF : InhF K := inhB_ok hex.inh
  have hgl : ∀ c, c ∈ gloL → mg c = some (.ref (He.ga K c)) := fun c hc => He.glo_ok X G (List.all_eq_true.mp hex.glo c hc)
  have hmk : ∀ c, c ∈ mkrL → Mk K (He.ga K c) (He.ma K (He.ga K c) "__init__") := fun c hc => He.mkr_ok (List.all_eq_true.mp hex.mkr c hc)
  have hba : ∀ c m, (c, m) ∈ basL → BasF K c m := fun c m hc => basB_ok (List.all_eq_true.mp hex.bas (c, m) hc)
  obtain ⟨hxc, hty⟩ := Bool.and_eq_true_iff.mp hex.exc
  have ty : PySem.W.typeIn K (.ref (He.ma K (He.ga K "SlopeError") "__init__")) = some (.type "function") := of_decide_eq_true hty
  have hZ : ∀ c, c ∈ excL → Exk K mg c := fun c hc => exkB_ok X G (List.all_eq_true.mp hxc c hc)
  have hcst : ∀ q, q ∈ cstL → q.ok K = true := fun q hq => List.all_eq_true.mp hex.cst q hq
  have CS : Cst K mg := ⟨(by obtain ⟨t, e⟩ := He.str_ok X G (hcst (.str "SMALL" "abcdefghijklmnopqrstuvwxyz") (List.mem_of_getElem? (i := 0) rfl)); exact ⟨_, e, t, rfl⟩), (by obtain ⟨t, e⟩ := He.str_ok X G (hcst (.str "FIGURES" "0123456789") (List.mem_of_getElem? (i := 1) rfl)); exact ⟨_, e, t, rfl⟩), (by obtain ⟨t, e⟩ := He.str_ok X G (hcst (.str "SIGNS" "+-*/()[]<=,") (List.mem_of_getElem? (i := 2) rfl)); exact ⟨_, e, t, rfl⟩), (hgl "WORDS" (by decide +kernel)), (fun H => Tx.tupB_ok (ys := ["def", "give", "row", "if", "else", "loop"]) (hex.tup _ (by unfold tupsB; exact List.mem_cons_self)) H), (by obtain ⟨t, e⟩ := He.int_ok X G (hcst (.int "MOST_MARKS" 60) (List.mem_of_getElem? (i := 3) rfl)); exact ⟨_, e, t, rfl⟩), (by obtain ⟨t, e⟩ := He.int_ok X G (hcst (.int "MOST_LETTERS" 8) (List.mem_of_getElem? (i := 4) rfl)); exact ⟨_, e, t, rfl⟩), (by obtain ⟨t, e⟩ := He.int_ok X G (hcst (.int "MOST_FIGURES" 2) (List.mem_of_getElem? (i := 5) rfl)); exact ⟨_, e, t, rfl⟩), (by obtain ⟨t, e⟩ := He.int_ok X G (hcst (.int "MOST_BRACKETS" 9) (List.mem_of_getElem? (i := 6) rfl)); exact ⟨_, e, t, rfl⟩), (by obtain ⟨t, e⟩ := He.int_ok X G (hcst (.int "MOST_ROWS" 60) (List.mem_of_getElem? (i := 7) rfl)); exact ⟨_, e, t, rfl⟩), (by obtain ⟨t, e⟩ := He.int_ok X G (hcst (.int "MOST_DEEP" 5) (List.mem_of_getElem? (i := 8) rfl)); exact ⟨_, e, t, rfl⟩), (by obtain ⟨t, e⟩ := He.int_ok X G (hcst (.int "MOST_PARTS" 6) (List.mem_of_getElem? (i := 9) rfl)); exact ⟨_, e, t, rfl⟩), (by obtain ⟨t, e⟩ := He.int_ok X G (hcst (.int "MOST_TAKEN" 4) (List.mem_of_getElem? (i := 10) rfl)); exact ⟨_, e, t, rfl⟩), (by obtain ⟨t, e⟩ := He.int_ok X G (hcst (.int "MOST_GIVEN" 4) (List.mem_of_getElem? (i := 11) rfl)); exact ⟨_, e, t, rfl⟩), (by obtain ⟨t, e⟩ := He.int_ok X G (hcst (.int "MOST_TURNS" 9) (List.mem_of_getElem? (i := 12) rfl)); exact ⟨_, e, t, rfl⟩), (by obtain ⟨t, e⟩ := He.int_ok X G (hcst (.int "MOST_PLACES" 9) (List.mem_of_getElem? (i := 13) rfl)); exact ⟨_, e, t, rfl⟩)⟩

  obtain ⟨⟨fd, F⟩, g⟩ := id F_law
  have e := hfa.symm.trans g
  cases e
  have b := FunD.bindsA (ps := ["_law_script"]) F b_law
  refine ⟨fd, fun s v => b s [v] rfl, fun base _ _ => ?_⟩
  have c_l_next := c_l_next (P := P) (w := w) (base := base) (F := F_l_next) (T := T)
  have c_l_dice := c_l_dice (P := P) (w := w) (base := base) (F := F_l_dice) (T := T)
  have Z_BadText : Exk K mg "BadText" := hZ "BadText" (by decide +kernel)
  have ini2 : IniOk P w K mg base [] := ini2_of ini T ty
  have c_marks_of := c_marks_of (P := P) (w := w) (base := base) (T := T) (CS := CS) (Z_BadText := Z_BadText) (ini2 := ini2) (F := F_marks_of)
  have c_is_name := c_is_name (P := P) (w := w) (base := base) (T := T) (CS := CS) (F := F_is_name)
  have c_is_number := c_is_number (P := P) (w := w) (base := base) (T := T) (CS := CS) (F := F_is_number)
  have m_Row_bad := m_Row_bad (P := P) (w := w) (base := base) (CF := CF) (MF := MF) (Z_BadText := Z_BadText) (ini2 := ini2) (F := F_Row_bad)
  have m_Row_now := m_Row_now (P := P) (w := w) (base := base) (T := T) (CF := CF) (MF := MF) (F := F_Row_now)
  have m_Row_behind := m_Row_behind (P := P) (w := w) (base := base) (T := T) (CF := CF) (MF := MF) (F := F_Row_behind)
  have m_Row_took := m_Row_took (P := P) (w := w) (base := base) (T := T) (CS := CS) (CF := CF) (MF := MF) (F := F_Row_took) (m_Row_now := m_Row_now)
  have m_Row_must := m_Row_must (P := P) (w := w) (base := base) (T := T) (CS := CS) (CF := CF) (MF := MF) (F := F_Row_must) (m_Row_took := m_Row_took) (m_Row_bad := m_Row_bad)
  have m_Row_ended := m_Row_ended (P := P) (w := w) (base := base) (T := T) (CS := CS) (CF := CF) (MF := MF) (F := F_Row_ended) (m_Row_bad := m_Row_bad)
  have m_Row_read_name := m_Row_read_name (P := P) (w := w) (base := base) (T := T) (CS := CS) (CF := CF) (MF := MF) (F := F_Row_read_name) (m_Row_now := m_Row_now) (m_Row_bad := m_Row_bad) (c_is_name := c_is_name)
  have m_Row_read_whole := m_Row_read_whole (P := P) (w := w) (base := base) (T := T) (CS := CS) (CF := CF) (MF := MF) (F := F_Row_read_whole) (m_Row_now := m_Row_now) (m_Row_bad := m_Row_bad) (c_is_number := c_is_number)
  have k_Number := k_Number (P := P) (w := w) (base := base) (CF := CF) (F := F_Number___init__) (mk := hmk "Number" (by decide +kernel)) (g := hgl "Number" (by decide +kernel))
  have k_Known := k_Known (P := P) (w := w) (base := base) (CF := CF) (F := F_Known___init__) (mk := hmk "Known" (by decide +kernel)) (g := hgl "Known" (by decide +kernel))
  have B_Pairwise := B_Pairwise (P := P) (w := w) (base := base) (CF := CF) (F := F_Pairwise___init__) (B := hba "Pairwise" "__init__" (by decide +kernel)) (g := hgl "Pairwise" (by decide +kernel))
  have k_Sum := k_Sum (P := P) (w := w) (base := base) (CF := CF) (F := F_Sum___init__) (mk := hmk "Sum" (by decide +kernel)) (g := hgl "Sum" (by decide +kernel)) (B_Pairwise := B_Pairwise)
  have k_Less := k_Less (P := P) (w := w) (base := base) (CF := CF) (F := F_Less___init__) (mk := hmk "Less" (by decide +kernel)) (g := hgl "Less" (by decide +kernel)) (B_Pairwise := B_Pairwise)
  have k_Times := k_Times (P := P) (w := w) (base := base) (CF := CF) (F := F_Times___init__) (mk := hmk "Times" (by decide +kernel)) (g := hgl "Times" (by decide +kernel)) (B_Pairwise := B_Pairwise)
  have k_Over := k_Over (P := P) (w := w) (base := base) (CF := CF) (F := F_Over___init__) (mk := hmk "Over" (by decide +kernel)) (g := hgl "Over" (by decide +kernel)) (B_Pairwise := B_Pairwise)
  have m_Row_read_place := m_Row_read_place (P := P) (w := w) (base := base) (T := T) (CS := CS) (CF := CF) (MF := MF) (F := F_Row_read_place) (m_Row_now := m_Row_now) (m_Row_took := m_Row_took) (m_Row_read_name := m_Row_read_name) (m_Row_read_whole := m_Row_read_whole) (c_is_number := c_is_number)
  have m_Row_read_known := m_Row_read_known (P := P) (w := w) (base := base) (T := T) (CS := CS) (CF := CF) (MF := MF) (F := F_Row_read_known) (m_Row_took := m_Row_took) (m_Row_must := m_Row_must) (m_Row_read_name := m_Row_read_name) (m_Row_read_place := m_Row_read_place) (k_Known := k_Known)
  have m_Row_read_term : Met P w K mg base 36 "Row" "read_term" (spRd K 0 fun ms => rTerm ms 9) := read_term_at T CS CF MF F_Row_read_unit F_Row_read_product F_Row_read_term m_Row_now m_Row_bad m_Row_took m_Row_must m_Row_read_whole c_is_number k_Number m_Row_read_known k_Sum k_Less k_Times k_Over 9 0 rfl
  have c_written := c_written (P := P) (w := w) (base := base) (F := F_written) (T := T)
  have c_place_told := c_place_told (P := P) (w := w) (base := base) (T_ := T) (F := F_place_told)
  have m_Number_told := m_Number_told (P := P) (w := w) (base := base) (T_ := T) (CF := CF) (MF := MF) (F := F_Number_told) (c_written := c_written)
  have m_Known_told := m_Known_told (P := P) (w := w) (base := base) (T_ := T) (CF := CF) (MF := MF) (F := F_Known_told) (c_place_told := c_place_told)
  have m_Term_rank := m_Term_rank (P := P) (w := w) (base := base) (T_ := T) (CF := CF) (MF := MF) (F := F_Term_rank)
  have m_Sum_rank := m_Sum_rank (P := P) (w := w) (base := base) (T_ := T) (CF := CF) (MF := MF) (F := F_Sum_rank)
  have m_Less_rank := m_Less_rank (P := P) (w := w) (base := base) (T_ := T) (CF := CF) (MF := MF) (F := F_Less_rank)
  have m_Times_rank := m_Times_rank (P := P) (w := w) (base := base) (T_ := T) (CF := CF) (MF := MF) (F := F_Times_rank)
  have m_Over_rank := m_Over_rank (P := P) (w := w) (base := base) (T_ := T) (CF := CF) (MF := MF) (F := F_Over_rank)
  have m_Row_read_names := m_Row_read_names (P := P) (w := w) (base := base) (T := T) (CS := CS) (CF := CF) (MF := MF) (F := F_Row_read_names) (m_Row_took := m_Row_took) (m_Row_read_name := m_Row_read_name)
  have m_Row_read_terms := m_Row_read_terms (P := P) (w := w) (base := base) (T := T) (CS := CS) (CF := CF) (MF := MF) (F := F_Row_read_terms) (m_Row_took := m_Row_took) (m_Row_read_term := m_Row_read_term)
  have c_depth_of := c_depth_of (P := P) (w := w) (base := base) (T := T) (CS := CS) (Z_BadText := Z_BadText) (ini2 := ini2) (F := F_depth_of)
  have k_Row := k_Row (P := P) (w := w) (base := base) (CF := CF) (F := F_Row___init__) (mk := hmk "Row" (by decide +kernel)) (g := hgl "Row" (by decide +kernel))
  have m_Reader_first := m_Reader_first (P := P) (w := w) (base := base) (T := T) (CF := CF) (MF := MF) (F := F_Reader_first)
  have m_Reader_taken := m_Reader_taken (P := P) (w := w) (base := base) (T := T) (CF := CF) (MF := MF) (F := F_Reader_taken) (k_Row := k_Row)
  have k_Reader := k_Reader (P := P) (w := w) (base := base) (T := T) (CS := CS) (CF := CF) (Z_BadText := Z_BadText) (ini2 := ini2) (F := F_Reader___init__) (mk := hmk "Reader" (by decide +kernel)) (g := hgl "Reader" (by decide +kernel)) (c_depth_of := c_depth_of) (c_marks_of := c_marks_of)
  have B_Step := B_Step (P := P) (w := w) (base := base) (CF := CF) (F := F_Step___init__) (B := hba "Step" "__init__" (by decide +kernel)) (g := hgl "Step" (by decide +kernel))
  have k_Fill := k_Fill (P := P) (w := w) (base := base) (CF := CF) (F := F_Fill___init__) (mk := hmk "Fill" (by decide +kernel)) (g := hgl "Fill" (by decide +kernel)) (B_Step := B_Step)
  have k_Called := k_Called (P := P) (w := w) (base := base) (CF := CF) (F := F_Called___init__) (mk := hmk "Called" (by decide +kernel)) (g := hgl "Called" (by decide +kernel)) (B_Step := B_Step)
  have k_Rowed := k_Rowed (P := P) (w := w) (base := base) (CF := CF) (F := F_Rowed___init__) (mk := hmk "Rowed" (by decide +kernel)) (g := hgl "Rowed" (by decide +kernel)) (B_Step := B_Step)
  have k_Choice := k_Choice (P := P) (w := w) (base := base) (CF := CF) (F := F_Choice___init__) (mk := hmk "Choice" (by decide +kernel)) (g := hgl "Choice" (by decide +kernel)) (B_Step := B_Step)
  have k_Turns := k_Turns (P := P) (w := w) (base := base) (CF := CF) (F := F_Turns___init__) (mk := hmk "Turns" (by decide +kernel)) (g := hgl "Turns" (by decide +kernel)) (B_Step := B_Step)
  have k_Part := k_Part (P := P) (w := w) (base := base) (CF := CF) (F := F_Part___init__) (mk := hmk "Part" (by decide +kernel)) (g := hgl "Part" (by decide +kernel))
  have k_Program := k_Program (P := P) (w := w) (base := base) (CF := CF) (F := F_Program___init__) (mk := hmk "Program" (by decide +kernel)) (g := hgl "Program" (by decide +kernel))
  have m_Reader_bad := m_Reader_bad (P := P) (w := w) (base := base) (T := T) (CS := CS) (CF := CF) (MF := MF) (Z_BadText := Z_BadText) (ini2 := ini2) (F := F_Reader_bad)
  have m_Reader_read_filled := m_Reader_read_filled (P := P) (w := w) (base := base) (T := T) (CS := CS) (CF := CF) (MF := MF) (F := F_Reader_read_filled) (m_Row_read_known := m_Row_read_known) (m_Row_must := m_Row_must) (m_Row_behind := m_Row_behind) (m_Row_now := m_Row_now) (m_Row_read_name := m_Row_read_name) (m_Row_read_terms := m_Row_read_terms) (m_Row_read_term := m_Row_read_term) (m_Row_ended := m_Row_ended) (k_Called := k_Called) (k_Fill := k_Fill)
  have m_Reader_read_steps : Met P w K mg base 60 "Reader" "read_steps" (spBlk K 1 fun rows => stepsK rows 5) := read_steps_all (T := T) (CS := CS) (CF := CF) (MF := MF) F_Reader_read_choice F_Reader_read_step F_Reader_read_block F_Reader_read_steps m_Row_took m_Row_must m_Row_read_name m_Row_read_whole m_Row_read_term m_Row_ended m_Reader_bad m_Reader_first m_Reader_taken m_Reader_read_filled k_Rowed k_Turns k_Choice 5 (by decide)
  have m_Reader_read_part := m_Reader_read_part (P := P) (w := w) (base := base) (T := T) (CS := CS) (CF := CF) (MF := MF) (F := F_Reader_read_part) (m_Reader_taken := m_Reader_taken) (m_Row_must := m_Row_must) (m_Row_read_name := m_Row_read_name) (m_Row_read_names := m_Row_read_names) (m_Row_ended := m_Row_ended) (m_Row_bad := m_Row_bad) (m_Reader_read_steps := m_Reader_read_steps) (m_Reader_first := m_Reader_first) (m_Reader_bad := m_Reader_bad) (m_Row_read_terms := m_Row_read_terms) (k_Part := k_Part)
  have m_Reader_read_program := m_Reader_read_program (P := P) (w := w) (base := base) (T := T) (CS := CS) (CF := CF) (MF := MF) (Z_BadText := Z_BadText) (ini2 := ini2) (F := F_Reader_read_program) (m_Reader_first := m_Reader_first) (m_Reader_bad := m_Reader_bad) (m_Reader_read_part := m_Reader_read_part) (k_Program := k_Program)
  have c_read := c_read (P := P) (w := w) (base := base) (F := F_read) (k_Reader := k_Reader) (m_Reader_read_program := m_Reader_read_program)
  have rks := ranks_at (P := P) (w := w) (base := base) (CF := CF) (IF := IF) m_Term_rank m_Sum_rank m_Less_rank m_Times_rank m_Over_rank
  have tds : TdsF P w K mg base := (told_at (T_ := T) (CF := CF) (MF := MF) (IF := IF) F_Term_bound F_Pairwise_told rks m_Number_told m_Known_told 60).1
  have m_Fill_told := m_Fill_told (P := P) (w := w) (base := base) (T := T) (CF := CF) (MF := MF) (tds := tds) (F := F_Fill_told)
  have m_Rowed_told := m_Rowed_told (P := P) (w := w) (base := base) (T := T) (CF := CF) (MF := MF) (tds := tds) (F := F_Rowed_told)
  have m_Called_told := m_Called_told (P := P) (w := w) (base := base) (T := T) (CF := CF) (MF := MF) (tds := tds) (F := F_Called_told)
  have tSs : ToldsF P w K mg base := fun s hs => steps_told_all (T := T) (CF := CF) (MF := MF) (tds := tds) F_Choice_told F_Turns_told m_Fill_told m_Called_told m_Rowed_told 7 s hs
  have m_Part_told := m_Part_told (P := P) (w := w) (base := base) (T := T) (CF := CF) (MF := MF) (tds := tds) (tSs := tSs) (F := F_Part_told)
  have m_Program_told := m_Program_told (P := P) (w := w) (base := base) (T := T) (CF := CF) (MF := MF) (F := F_Program_told) (m_Part_told := m_Part_told)
  have c_l_style := c_l_style (P := P) (w := w) (base := base) (F := F_l_style) (c_l_next := c_l_next)
  have c_l_word := c_l_word (P := P) (w := w) (base := base) (T := T) (F := F_l_word)
  have c_l_said := said_at (P := P) (w := w) (base := base) (T := T) F_l_said 4
  have c_l_term := term_at (P := P) (w := w) (base := base) (T := T) F_l_term c_l_next 3
  have c_l_messy := messy_at (P := P) (w := w) (base := base) (T := T) F_l_messy c_l_next 4
  have BK : Bkd K := hex.bk
  exact law_ok T BK F c_l_dice c_l_next c_l_style c_l_word c_read m_Program_told c_l_term c_l_said c_l_messy
end Lw
open PySem PySem.W PySem.Calls PyProof.Rows
theorem PySem.Challenge.cw_slopesback_k04_terms_read_holds : PySem.Challenge.rw_slopesback_k04_terms_read.Holds := by
  w_on; o_law
  refine HandSHeadRun.head_any (r := OpenLaw.row PySem.Challenge.rw_slopesback_k04_terms_read) (q := view (OpenLaw.row PySem.Challenge.rw_slopesback_k04_terms_read).prog [57]) (H := Lw.hk) (ob := Lw.ob) (M := 40000) (loose := Lw.looseL) (d := HandSHeadRun.topDef (OpenLaw.row PySem.Challenge.rw_slopesback_k04_terms_read).prog 57) (kwd := []) Lw.ob_eq
    (by kernel_rfl) (fun s => by kernel_rfl) Lw.run (by kernel_rfl) (by kernel_rfl) (by kernel_rfl) (by rfl) (by first | assumption | decide +kernel) (by decide +kernel) ⟨rfl, rfl, rfl, rfl, rfl, by decide +kernel⟩ ?hw ?hc
  case hw => w_witness2
  case hc =>
    refine Fw.walk_ofEB (l := PySem.Challenge.rw_slopesback_k04_terms_read) (n := 63) (k := 140) (x := "_law_script") (CX := fun w => L2N.CX (PySem.Challenge.rw_slopesback_k04_terms_read).prog w) rfl (by decide) (by kernel_rfl) ⟨rfl, by decide, by decide⟩ ?F (fun w H s e s' z => ?X)
    case X =>
      obtain ⟨_, _, _, _, _, _, _, _, _, _, _, _, z⟩ := z
      exact z
    intro w mg fa h Y G hmg0
    obtain ⟨K, KX, c⟩ := Y
    have hmg : mg ("law" : PySem.Str) = some (.ref fa) := by
      have e : (HandSHeadRun.topDef (OpenLaw.row PySem.Challenge.rw_slopesback_k04_terms_read).prog 57).name = ("law" : PySem.Str) := by kernel_rfl
      rw [← e]
      exact hmg0
    obtain ⟨fd, hb, hF⟩ := Lw.facts (P := (PySem.Challenge.rw_slopesback_k04_terms_read).prog) (w := w) KX G hmg c
    exact ⟨K, fd, Lw.spLaw K, KX, hb, fun H a ns hl _ hO hS => ⟨a, ns, rfl, Lw.SqS.of hO hS, fun _ => rfl⟩, hF⟩
#print axioms PySem.Challenge.cw_slopesback_k04_terms_read_holds
