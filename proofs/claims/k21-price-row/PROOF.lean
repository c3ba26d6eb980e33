import PyProof.Rows.All
import Wide.All
import OpenK.AllK
import Wide.FinOn
import HandS.ForMost
import HandS.ForExc
import HandS.ExcInit
import HandS.ExcField
import HandS.IsInst
import HandS.Wide
import HandS.EndBits
import HandS.Defaults
import HandS.Flow
import HandS.Head2
import HandS.HeadHook4
import HandS.HotCalls
import HandS.Evl
import PySem.Challenge.RW_slopesback_k21_price_in_one_row
set_option Elab.async false
set_option linter.all false
set_option maxRecDepth 100000
set_option maxHeartbeats 4000000
/-! words of our own over the hand layer: a callee by its name, readings in steps -/
namespace Fw
open PySem PySem.Spec PyProof.Rows L2

/-! ### the end of a law: K from the head, the script's bits -/
theorem walk_ofEB {l : PySem.W.OpenLaw} {n k : Nat} {q : Program} {loose : List Str} {XP : (Str → Option Value) → Heap → Prop} {YP : World → Heap → Prop} {d : DefRec} {CX : World → CXT} {x : Str}
    (hn : l.most = some n) (hn2 : n ≤ sizeLine) (hdf : d.params.defaults = []) (hr : Room k callerA)
    (F : ∀ (w : World) (mg : Str → Option Value) (fa : Addr) (h : Heap), YP w h → h.Ns mainGlobals mg → mg d.name = some (.ref fa) →
      ∃ (K : PySem.W.Frag) (fd : FuncData) (sp : Sp), K.In h ∧ (∀ (s : Shared) (u : Value), BindsTo s fd ⟨[u], []⟩ [(x, u)]) ∧
        (∀ (H : Hp) (a : Addr) (ns : List Int), ns.length ≤ n → (∀ z ∈ ns, Builtin.Int.intBits z ≤ 1048576) → Only H → SqL K H a (ns.map V.int) → sp [.ref a] H (fun v _ => v = .bl true) fun _ _ _ => False) ∧
        ∀ base : Heap, K.In base → base.Ns mainGlobals mg → FnOk l.prog w K mg base (CX w) k fa fd [x] sp)
    (hCX : ∀ (w : World) (H : Hp) (s : Shared) (e : Value) (s' : Shared), CX w [] H s (fun _ _ _ => False) e s' → False) :
    PySem.W.WalkO q loose XP YP l.row.toRowW d [] (fun f vs => PySem.call f vs) := by
  refine Att.attach_callB hn hdf fun w s₀ s₁ mg mb fa o pm cd doc a vs ns G Y ho hd hcd hmg hobj hints hlen hbits hg => ?_
  obtain ⟨K, fd, sp, KX, hb, hsp, hF⟩ := F w mg fa _ Y G.T.g hmg
  exact law_call KX G.T.g G.T.b G.T.builtins G.T.nolimit hg hobj hints (Nat.le_trans hlen hn2) hr hF hb (fun H hO hS => hsp H a ns hlen hbits hO hS) fun H e s' => hCX w H s₁ e s'

/-! ### a def of the top, by its name -/
structure Cal (P : Program) (w : World) (K : PySem.W.Frag) (mg : Str → Option Value) (base : Heap) (k : Nat) (x : Str) (ps : List Str) (sp : Sp) : Prop where
  ex : ∃ f fd, FnOk P w K mg base (L2.CX P w) k f fd ps sp ∧ Binds K fd ps [] ∧ mg x = some (.ref f) ∧ PySem.W.keepIn K (.ref f) = true
/-- what stands of a def behind the top -/
def Def (K : PySem.W.Frag) (mg : Str → Option Value) (x : Str) (st : Stmt) : Prop :=
  (∃ fd, FunD K x x (defArgs st) (defBody st) (defScope st) [] [] (He.ga K x) fd) ∧ mg x = some (.ref (He.ga K x))
def BindsOk (x q : Str) (ps : List Str) (st : Stmt) : Prop := ∀ (kV doc pm : Value) (an : Option Addr) (cdv ct : Value) (us : List Value), us.length = ps.length → bindArgs (PySem.W.fnOf x q (defArgs st) (defBody st) (defScope st) .none kV doc pm an cdv ct) ⟨us, []⟩ = pure (ps.zip us)
section
variable {P : Program} {w : World} {K : PySem.W.Frag} {mg : Str → Option Value} {base : Heap}
theorem cal_of {x : Str} {st : Stmt} {N ps : List Str} {k : Nat} {sp : Sp} (F : Def K mg x st) (S : FnScope N ps (defScope st)) (b : BindsOk x x ps st) (len : ∀ vs H Q E, sp vs H Q E → vs.length = ps.length)
    (hbody : ∀ (cdv : Value) (A : Around) (outer : List Env) (s : Shared) (H : Hp) (vs : List V) (Q : VK) (E : XK), Room k (A.deeper (envOfC x (defScope st) s.heap.objs.size (He.ga K x) cdv)) → sp vs H Q E →
      ∃ t, PSs (cxOf (L2.CX P w) P w K mg base N x (defScope st) (He.ga K x) cdv A outer s H E) (defBody st) t ∧ t { nx := fun _ H' => Q .non H', rt := Q } (start N vs) H) : Cal P w K mg base (k + 1) x ps sp := by
  obtain ⟨⟨fd, F⟩, g⟩ := F
  exact ⟨_, fd, F.ok S len hbody, F.bindsN b, g, F.kp⟩
theorem Cal.mono {x : Str} {ps : List Str} {j k : Nat} {sp : Sp} (c : Cal P w K mg base j x ps sp) (h : j ≤ k) : Cal P w K mg base k x ps sp := by
  obtain ⟨f, fd, F, r⟩ := c.ex
  exact ⟨f, fd, F.mono h, r⟩
theorem Cal.imp {x : Str} {ps : List Str} {k : Nat} {sp sp' : Sp} (c : Cal P w K mg base k x ps sp) (h : ∀ vs H Q E, sp' vs H Q E → sp vs H Q E) : Cal P w K mg base k x ps sp' := by
  obtain ⟨f, fd, F, r⟩ := c.ex
  exact ⟨f, fd, F.imp h, r⟩
end
def tCal (sp : Sp) (E : XK) (t : TA) : TE := fun σ H Q => t σ H fun vs H1 => sp vs H1 Q E
section
variable {X : Cx} {k j : Nat} {x : Str} {ps : List Str} {sp : Sp} {E : XK} {p pos : Pos} {e : Expr} {es : List Expr} {t : TA}
theorem pe_cal (c : Cal X.prog X.w X.K X.mg X.base j x ps sp) (hr : Room k X.A) (hj : j ≤ k) (hx : Passes (L2.CX X.prog X.w) X E) (ha : PA X (e :: es) t) (hg : Gl X x := by rfl)
    (hdb : (x == ("__debug__" : Str)) = false := by decide) (he : starEach (e :: es) X.env = (false, eval e X.env) :: starEach es X.env := by rfl) (hpl : (backTo pos (starEach es X.env)).any (·.1) = false := by rfl) :
    PE X (.Call (.Name x p) (e :: es) [] pos) (tCal sp E t) := by
  obtain ⟨f, fd, F, b, g, kp⟩ := c.ex
  have h := pe_call (p := p) (pos := pos) (F.mono hj) hr hg g kp b .nil hx ha hdb he hpl
  have e1 : tCall sp [] E t = tCal sp E t := by
    funext σ H Q
    show t σ H (fun vs H1 => sp (vs ++ []) H1 Q E) = t σ H fun vs H1 => sp vs H1 Q E
    congr 1
    funext vs H1
    rw [List.append_nil]
  rw [← e1]
  exact h
end

/-! ### operators -/
section
variable {X : Cx}
def rMul : R2 := rI CMulW fun i j => .int (i * j)
/-- // by a divisor that is not nought -/
def CFdiv (_ j : Int) : Prop := j ≠ 0 ∧ j.natAbs.log2 < 9000
def rFdiv : R2 := rI CFdiv fun i j => .int (i.fdiv j)
def rMod : R2 := rI (fun _ j => j ≠ 0) fun i j => .int (i.fmod j)
def rPow : R2 := rI CPow fun i j => .int (i ^ j.toNat)
def rPlus : R2 := rI0 fun i j => .int (i + j)
def rMinus : R2 := rI0 fun i j => .int (i - j)
def rLt : R2 := rI0 fun i j => .bl (decide (i < j))
def rLe : R2 := rI0 fun i j => .bl (decide (i ≤ j))
def rGt : R2 := rI0 fun i j => .bl (decide (j < i))
def rGe : R2 := rI0 fun i j => .bl (decide (j ≤ i))
theorem o_mul : OpR X (binaryOp .Mult) rMul := op_mulW
theorem o_fdiv : OpR X (binaryOp .FloorDiv) rFdiv := opI fun i j _ _ _ _ _ hc q => floordiv_int hc.1 q (.inl (PyProof.noPylong_of_log2 hc.2))
theorem o_mod : OpR X (binaryOp .Mod) rMod := op_modN
theorem o_pow : OpR X (binaryOp .Pow) rPow := op_pow
theorem o_add : OpR X (binaryOp .Add) rPlus := op_add
theorem o_sub : OpR X (binaryOp .Sub) rMinus := op_sub
theorem o_lt : OpR X (compareOp .Lt) rLt := op_lt
theorem o_le : OpR X (compareOp .LtE) rLe := op_le
theorem o_gt : OpR X (compareOp .Gt) rGt := op_gt
theorem o_ge : OpR X (compareOp .GtE) rGe := op_ge
def rAbs : List V → Hp → VK → Prop := fun xs H Q => ∃ i, xs = [.int i] ∧ Q (.int (if i < 0 then -i else i)) H
theorem c_abs : CallR X (.builtin "abs") rAbs := call_abs
def rStrI : List V → Hp → VK → Prop := fun xs H Q => ∃ i, xs = [.int i] ∧ i.natAbs.log2 < 1920 ∧ Q (.str (toString i)) H
theorem c_strI : CallR X (.type "str") rStrI := call_str_int
def rIntB : List V → Hp → VK → Prop := fun xs H Q => (∃ i, xs = [.int i] ∧ Q (.int i) H) ∨ ∃ k, xs = [.bl k] ∧ Q (.int (if k then 1 else 0)) H
theorem c_intB : CallR X (.type "int") rIntB := call_int1
def rLenS (K : PySem.W.Frag) : List V → Hp → VK → Prop := fun xs H Q => ∃ p ys, xs = [.ref p] ∧ (SqL K H p ys ∨ SqT K H p ys) ∧ Q (.int ys.length) H
theorem c_len : CallR X (.builtin "len") (rLenS X.K) := call_len_seq
theorem ixL {K : PySem.W.Frag} (h : X.K = K) : IxR X (rIxL K) := h ▸ ix_list
theorem ixT {K : PySem.W.Frag} (h : X.K = K) : IxR X (rIxT K) := h ▸ ix_tup
theorem c_lenK {K : PySem.W.Frag} (h : X.K = K) : CallR X (.builtin "len") (rLenS K) := h ▸ c_len
theorem c_isiK {K : PySem.W.Frag} (h : X.K = K) : CallR X (.builtin "isinstance") (rIsi K) := h ▸ call_isi
def rNeg : V → Hp → VK → Prop := rU fun i => .int (-i)
theorem u_neg : UnR X (unaryOp .USub) rNeg := un_neg
def rCatS : R2 := fun x y H Q => ∃ i j, x = .str i ∧ y = .str j ∧ i.length + j.length ≤ sizeLine ∧ Q (.str (i ++ j)) H
theorem o_catS : OpR X (binaryOp .Add) rCatS := op_add_str
end

/-! ### heaps -/
/-- all but what stands at d is as it was -/
def Keep (d : Addr) (H H' : Hp) : Prop := ∀ b o, b ≠ d → H b = some o → H' b = some o
theorem Keep.refl {d : Addr} {H : Hp} : Keep d H H := fun _ _ _ h => h
theorem Keep.trans {d : Addr} {H H1 H2 : Hp} (a : Keep d H H1) (b : Keep d H1 H2) : Keep d H H2 := fun c o hc h => b c o hc (a c o hc h)
theorem Keep.same {d : Addr} {H H1 H2 : Hp} (a : Keep d H H1) (b : Same H1 H2) : Keep d H H2 := fun c o hc h => b c o (a c o hc h)
theorem _root_.L2.Same.keep {d : Addr} {H H1 H2 : Hp} (a : Same H H1) (b : Keep d H1 H2) : Keep d H H2 := fun c o hc h => b c o hc (a c o h)
theorem _root_.L2.Same.toKeep {d : Addr} {H H1 : Hp} (a : Same H H1) : Keep d H H1 := fun c o _ h => a c o h
/-- what was not there at H may change -/
theorem Keep.toSame {d : Addr} {H H1 H2 : Hp} (a : Same H H1) (b : Keep d H1 H2) (h : H d = none) : Same H H2 := fun c o hc => b c o (ne_of_none hc h) (a c o hc)
theorem at_same {H H' : Hp} {b : Addr} {o : HO} (k : Same H H') (h : H b = some o) : H' b = some o := k _ _ h
theorem at_keep {d : Addr} {H H' : Hp} {b : Addr} {o : HO} (k : Keep d H H') (h : H b = some o) (n : b ≠ d) : H' b = some o := k _ _ n h
theorem at_keepT {d : Addr} {H H' : Hp} {b : Addr} {xs ys : List V} (k : Keep d H H') (h : H b = some (.tup xs)) (hd : H d = some (.lst ys)) : H' b = some (.tup xs) := k _ _ (ne_of h hd (by intro z; cases z)) h
theorem sql_same {K : PySem.W.Frag} {a : Addr} {H H' : Hp} {xs : List V} (k : Same H H') (h : SqL K H a xs) : SqL K H' a xs := k.seq h
theorem sqt_same {K : PySem.W.Frag} {a : Addr} {H H' : Hp} {xs : List V} (k : Same H H') (h : SqT K H a xs) : SqT K H' a xs := by
  rcases h with (h | ⟨o, h⟩) | h
  · exact .inl (.inl (k _ _ h))
  · exact .inl (.inr ⟨o, k _ _ h⟩)
  · exact .inr h
theorem sql_keep {K : PySem.W.Frag} {d a : Addr} {H H' : Hp} {xs : List V} (k : Keep d H H') (h : SqL K H a xs) (ne : a ≠ d) : SqL K H' a xs := by
  rcases h with (h | ⟨o, h⟩) | h
  · exact .inl (.inl (k _ _ ne h))
  · exact .inl (.inr ⟨o, k _ _ ne h⟩)
  · exact .inr h
theorem atI_ints {ns : List Int} {z : Int} (h0 : 0 ≤ z) (h1 : z < (ns.length : Int)) : ∃ y ∈ ns, atI (ns.map V.int) z = some (.int y) := by
  have hj : z.toNat < ns.length := by omega
  refine ⟨ns[z.toNat], List.getElem_mem hj, ?_⟩
  refine at_of (j := z.toNat) (by omega) ?_
  rw [List.getElem?_map, List.getElem?_eq_getElem hj]
  rfl
theorem same_upd {H : Hp} {p : Addr} {o : HO} (h : H p = none) : Same H (upd H p o) := fun b x e => by
  rw [upd_ne (ne_of_none e h)]
  exact e
theorem keep_upd {H : Hp} {p : Addr} {o : HO} : Keep p H (upd H p o) := fun b x n e => by
  rw [upd_ne n]
  exact e

/-! ### readings in steps -/
/-- a for over what J yields -/
def ForR (J : It) (g : TG) (tb : TS) (D : Ends) (σ : L2.St) (H : Hp) : Prop := ∃ W : Nat → Nat → L2.St → Hp → Prop, (∃ m, W 0 m σ H) ∧ ∀ i m σ H, W i m σ H →
  (J.stop i H ∧ D.nx σ H) ∨ (J.go i H ∧ ∃ N : L2.St → Hp → Prop, (∀ σ' H', N σ' H' → ∃ m', m' < m ∧ W (i + 1) m' σ' H') ∧ ∀ x H', J.yld i H x H' → g x σ H' fun σ2 H2 => tb { D with nx := N, ct := N, bk := D.nx } σ2 H2)
def ItL (K : PySem.W.Frag) (R : It → Hp → Prop) (x : V) (H : Hp) : Prop := ∃ a, x = .ref a ∧ (∃ xs, SqL K H a xs) ∧ R (Itl K a) H
def ItT (K : PySem.W.Frag) (R : It → Hp → Prop) (x : V) (H : Hp) : Prop := ∃ a, x = .ref a ∧ (∃ xs, SqT K H a xs) ∧ R (Itt K a) H
def ItR1 (R : It → Hp → Prop) (vs : List V) (H : Hp) : Prop := ∃ j : Int, vs = [.int j] ∧ -(2 ^ 62) ≤ j ∧ j < 2 ^ 62 ∧ R (Itr 0 j.toNat) H
def ItR2 (R : It → Hp → Prop) (vs : List V) (H : Hp) : Prop := ∃ i j : Int, vs = [.int i, .int j] ∧ (-(2 ^ 62) ≤ i ∧ i < 2 ^ 62 ∧ -(2 ^ 62) ≤ j ∧ j < 2 ^ 62) ∧ R (Itr i (j - i).toNat) H
/-- a list comprehension over what J yields -/
def LcR (J : It) (g : TG) (tt : TT) (te : TE) (vs : List Nat) (σ : L2.St) (Q : VK) (H1 : Hp) : Prop := ∀ D, H1 D = none → ∃ W : Nat → Nat → Hp → Prop, (∃ m, W 0 m (upd H1 D (.lst []))) ∧ ∀ i m H, W i m H →
  (J.stop i H ∧ Q (.ref D) H) ∨ (J.go i H ∧ ∃ Nx : Hp → Prop, (∀ H', Nx H' → ∃ m', m' < m ∧ W (i + 1) m' H') ∧ ∀ x H', J.yld i H x H' → g x (wipe σ vs) H' fun σ2 H2 => wipe σ2 vs = wipe σ vs ∧ tt σ2 H2 fun b H3 =>
    if b = true then te σ2 H3 fun y H4 => ∃ acc, H4 D = some (.lst acc) ∧ acc.length < sizeLine ∧ Nx (upd H4 D (.lst (acc ++ [y]))) else Nx H3)
def rMinL (K : PySem.W.Frag) : List V → Hp → VK → Prop := rMin K
theorem c_minL {X : Cx} (hc : X.calm = true) : CallR X (.builtin "min") (rMinL X.K) := cr_min hc
def rMin2 : List V → Hp → VK → Prop := fun xs H Q => ∃ i j, xs = [.int i, .int j] ∧ Q (.int (if j < i then j else i)) H
def rMax2 : List V → Hp → VK → Prop := fun xs H Q => ∃ i j, xs = [.int i, .int j] ∧ Q (.int (if j > i then j else i)) H
theorem c_min2 {X : Cx} (hc : X.calm = true) : CallR X (.builtin "min") rMin2 := call_min2 hc
theorem c_max2 {X : Cx} (hc : X.calm = true) : CallR X (.builtin "max") rMax2 := call_max2 hc
theorem loc_of {sc : Scope} {x : Str} (h : (sc.names.lookup x == some .local || sc.names.lookup x == some .cell) = true) : Loc sc x := by
  rcases Bool.or_eq_true_iff.mp h with h | h
  · exact .inl (eq_of_beq h)
  · exact .inr (eq_of_beq h)
def NewT (Q : VK) (xs : List V) (H : Hp) : Prop := xs.length ≤ sizeLine ∧ ∀ p, H p = none → Q (.ref p) (upd H p (.tup xs))
def NewL (Q : VK) (xs : List V) (H : Hp) : Prop := xs.length ≤ sizeLine ∧ ∀ p, H p = none → Q (.ref p) (upd H p (.lst xs))
section
variable {K : PySem.W.Frag} {σ : L2.St} {H H' : Hp} {ta tb tc te : TE} {tt tu : TT} {tas : TA} {D : Ends} {t u : TS} {x y v : V} {Q : VK} {R : Bool → Hp → Prop} {S : List V → Hp → Prop} {Z : L2.St → Hp → Prop} {i j : Int} {g : TG} {gs : TGs}
theorem w_start {N : List Str} {vs : List V} (σ : L2.St) (e : start N vs = σ) (h : t D σ H) : t D (start N vs) H := e ▸ h
theorem w_seq (h : t { nx := u D, rt := D.rt, bk := D.bk, ct := D.ct } σ H) : tSeq t u D σ H := h
theorem w_next (h : D.nx σ H) : tNext D σ H := h
theorem w_set {n : Nat} (h : te σ H fun v H1 => D.nx (σ.set n (some v)) H1) : tAsg te (gName n) D σ H := h
theorem w_asg (h : te σ H fun v H1 => g v σ H1 D.nx) : tAsg te g D σ H := h
theorem w_gname {n : Nat} (h : Z (σ.set n (some v)) H) : gName n v σ H Z := h
theorem w_gtup {a : Addr} {xs : List V} {n : Nat} (h : SqT K H a xs) (hn : xs.length = n) (q : gs xs σ H Z) : gTup K n gs (.ref a) σ H Z := ⟨a, xs, rfl, h, hn, q⟩
theorem w_gcons {r : List V} (h : g v σ H fun σ' H' => gs r σ' H' Z) : gCons g gs (v :: r) σ H Z := ⟨v, r, rfl, h⟩
theorem w_gnil (h : Z σ H) : gNil [] σ H Z := ⟨rfl, h⟩
theorem w_gsub {st : TSet} (h : ta σ H fun o H1 => tb σ H1 fun i H2 => st o i v H2 fun H3 => Z σ H3) : gSub ta tb st v σ H Z := h
theorem w_setL0 {p : Addr} {xs : List V} {n : Nat} {F : Hp → Prop} (h : H p = some (.lst xs)) (hn : ixN xs.length i = some n) (q : F (upd H p (.lst (xs.set n v)))) : rSetL (.ref p) (.int i) v H F := ⟨p, xs, i, n, rfl, rfl, h, hn, q⟩
theorem w_setL {p : Addr} {xs : List V} {n : Nat} {F : Hp → Prop} (h : H p = some (.lst xs)) (hn : ixN xs.length i = some n) (q : ∀ H1, H1 p = some (.lst (xs.set n v)) → Keep p H H1 → F H1) : rSetL (.ref p) (.int i) v H F := ⟨p, xs, i, n, rfl, rfl, h, hn, q _ upd_same keep_upd⟩
theorem w_drop (h : te σ H fun _ H1 => D.nx σ H1) : tDrop te D σ H := h
theorem w_ret (h : te σ H D.rt) : tRet te D σ H := h
theorem w_var {n : Nat} (h : σ[n]? = some (some v)) (q : Q v H) : tVar n σ H Q := ⟨v, h, q⟩
theorem w_c (q : Q v H) : tC v σ H Q := q
theorem w_op {r : R2} (h : ta σ H fun x H1 => tb σ H1 fun y H2 => r x y H2 Q) : tOp r ta tb σ H Q := h
theorem w_un {r : V → Hp → VK → Prop} (h : ta σ H fun x H1 => r x H1 Q) : tUn r ta σ H Q := h
theorem w_cb {r : List V → Hp → VK → Prop} (h : tas σ H fun vs H1 => r vs H1 Q) : tCB r tas σ H Q := h
theorem w_cal {sp : Sp} {E : XK} (h : tas σ H fun vs H1 => sp vs H1 Q E) : tCal sp E tas σ H Q := h
theorem w_nil (q : S [] H) : tNil σ H S := q
theorem w_cons (h : ta σ H fun x H1 => tas σ H1 fun xs H2 => S (x :: xs) H2) : tCons ta tas σ H S := h
theorem w_plus (q : Q (.int (i + j)) H) : rPlus (.int i) (.int j) H Q := ⟨i, j, rfl, rfl, q⟩
theorem w_minus (q : Q (.int (i - j)) H) : rMinus (.int i) (.int j) H Q := ⟨i, j, rfl, rfl, q⟩
theorem w_mul (c : CMulW i j) (q : Q (.int (i * j)) H) : rMul (.int i) (.int j) H Q := ⟨i, j, rfl, rfl, c, q⟩
theorem w_fdiv (c : CFdiv i j) (q : Q (.int (i.fdiv j)) H) : rFdiv (.int i) (.int j) H Q := ⟨i, j, rfl, rfl, c, q⟩
theorem w_mod (c : j ≠ 0) (q : Q (.int (i.fmod j)) H) : rMod (.int i) (.int j) H Q := ⟨i, j, rfl, rfl, c, q⟩
theorem w_pow (c : CPow i j) (q : Q (.int (i ^ j.toNat)) H) : rPow (.int i) (.int j) H Q := ⟨i, j, rfl, rfl, c, q⟩
theorem w_lt (q : Q (.bl (decide (i < j))) H) : rLt (.int i) (.int j) H Q := ⟨i, j, rfl, rfl, q⟩
theorem w_le (q : Q (.bl (decide (i ≤ j))) H) : rLe (.int i) (.int j) H Q := ⟨i, j, rfl, rfl, q⟩
theorem w_gt (q : Q (.bl (decide (j < i))) H) : rGt (.int i) (.int j) H Q := ⟨i, j, rfl, rfl, q⟩
theorem w_ge (q : Q (.bl (decide (j ≤ i))) H) : rGe (.int i) (.int j) H Q := ⟨i, j, rfl, rfl, q⟩
theorem w_eqI (q : Q (.bl (decide (i = j))) H) : rEq (.int i) (.int j) H Q := ⟨rfl, by
  have e : decide (V.int i = V.int j) = decide (i = j) := by simp
  rw [e]; exact q⟩
theorem w_neI (q : Q (.bl (!decide (i = j))) H) : rNe (.int i) (.int j) H Q := ⟨rfl, by
  have e : decide (V.int i = V.int j) = decide (i = j) := by simp
  rw [e]; exact q⟩
theorem w_eqB {b c : Bool} (q : Q (.bl (decide (b = c))) H) : rEq (.bl b) (.bl c) H Q := ⟨rfl, by
  have e : decide (V.bl b = V.bl c) = decide (b = c) := by simp
  rw [e]; exact q⟩
theorem w_neB {b c : Bool} (q : Q (.bl (!decide (b = c))) H) : rNe (.bl b) (.bl c) H Q := ⟨rfl, by
  have e : decide (V.bl b = V.bl c) = decide (b = c) := by simp
  rw [e]; exact q⟩
theorem w_eqS {b c : Str} (q : Q (.bl (decide (b = c))) H) : rEq (.str b) (.str c) H Q := ⟨rfl, by
  have e : decide (V.str b = V.str c) = decide (b = c) := by simp
  rw [e]; exact q⟩
theorem w_neS {b c : Str} (q : Q (.bl (!decide (b = c))) H) : rNe (.str b) (.str c) H Q := ⟨rfl, by
  have e : decide (V.str b = V.str c) = decide (b = c) := by simp
  rw [e]; exact q⟩
theorem w_neg (q : Q (.int (-i)) H) : rNeg (.int i) H Q := ⟨i, rfl, q⟩
theorem w_abs (q : Q (.int (if i < 0 then -i else i)) H) : rAbs [.int i] H Q := ⟨i, rfl, q⟩
theorem w_strI (c : i.natAbs.log2 < 1920) (q : Q (.str (toString i)) H) : rStrI [.int i] H Q := ⟨i, rfl, c, q⟩
theorem w_intB {b : Bool} (q : Q (.int (if b then 1 else 0)) H) : rIntB [.bl b] H Q := .inr ⟨b, rfl, q⟩
theorem w_intI (q : Q (.int i) H) : rIntB [.int i] H Q := .inl ⟨i, rfl, q⟩
theorem w_catS {a b : Str} (c : a.length + b.length ≤ sizeLine) (q : Q (.str (a ++ b)) H) : rCatS (.str a) (.str b) H Q := ⟨a, b, rfl, rfl, c, q⟩
theorem cdiv_small {i j : Int} (h0 : j ≠ 0) (h : j.natAbs < 2 ^ 64) : CFdiv i j := ⟨h0, Nat.lt_trans (PySem.Flt.log2_lt_of (by decide) h) (by decide)⟩
theorem cpow_mk {i j : Int} (h0 : 0 ≤ j) (h1 : j ≤ 1000000) (h2 : i.natAbs < 2 ^ 64) : CPow i j := ⟨h0, h1, h2⟩
theorem cmul_small {i j : Int} (h : i.natAbs < 2 ^ 64) (h2 : j.natAbs < 2 ^ 64) : CMulW i j := wide_mul h h2 (by decide) (by decide) (by decide)
theorem w_lenL {p : Addr} {xs : List V} (h : SqL K H p xs) (q : Q (.int xs.length) H) : rLenS K [.ref p] H Q := ⟨p, xs, rfl, .inl h, q⟩
theorem w_lenT {p : Addr} {xs : List V} (h : SqT K H p xs) (q : Q (.int xs.length) H) : rLenS K [.ref p] H Q := ⟨p, xs, rfl, .inr h, q⟩
theorem w_ixL {p : Addr} {xs : List V} (h : SqL K H p xs) (e : atI xs i = some v) (q : Q v H) : rIxL K (.ref p) (.int i) H Q := ⟨p, xs, i, v, rfl, rfl, h, e, q⟩
theorem w_ixT {p : Addr} {xs : List V} (h : SqT K H p xs) (e : atI xs i = some v) (q : Q v H) : rIxT K (.ref p) (.int i) H Q := ⟨p, xs, i, v, rfl, rfl, h, e, q⟩
theorem w_tup0 (h : tas σ H fun xs H1 => xs.length ≤ sizeLine ∧ ∀ p, H1 p = none → Q (.ref p) (upd H1 p (.tup xs))) : tTup tas σ H Q := h
theorem w_lst0 (h : tas σ H fun xs H1 => xs.length ≤ sizeLine ∧ ∀ p, H1 p = none → Q (.ref p) (upd H1 p (.lst xs))) : tLst tas σ H Q := h
theorem w_tup (h : tas σ H fun xs H1 => NewT Q xs H1) : tTup tas σ H Q := h
theorem w_lst (h : tas σ H fun xs H1 => NewL Q xs H1) : tLst tas σ H Q := h
theorem newT {xs : List V} (q : ∀ p H2, H p = none → H2 p = some (.tup xs) → Same H H2 → Q (.ref p) H2) (hn : Nat.ble xs.length 1000 = true := by rfl) : NewT Q xs H := ⟨Nat.le_of_lt (small1000 (Nat.le_of_ble_eq_true hn)), fun p np => q p _ np upd_same (same_upd np)⟩
theorem newL {xs : List V} (q : ∀ p H2, H p = none → H2 p = some (.lst xs) → Same H H2 → Q (.ref p) H2) (hn : Nat.ble xs.length 1000 = true := by rfl) : NewL Q xs H := ⟨Nat.le_of_lt (small1000 (Nat.le_of_ble_eq_true hn)), fun p np => q p _ np upd_same (same_upd np)⟩
theorem w_for {wi : TI} (h : wi σ H fun J H1 => ForR J g t D σ H1) : tFor wi g t D σ H := h
theorem w_iL {R : It → Hp → Prop} (h : te σ H fun x H1 => ItL K R x H1) : iList K te σ H R := h
theorem w_iT {R : It → Hp → Prop} (h : te σ H fun x H1 => ItT K R x H1) : iTup K te σ H R := h
theorem w_iR1 {R : It → Hp → Prop} (h : tas σ H fun x H1 => ItR1 R x H1) : iRng1 tas σ H R := h
theorem w_iR2 {R : It → Hp → Prop} (h : tas σ H fun x H1 => ItR2 R x H1) : iRng2 tas σ H R := h
theorem forL {a : Addr} {xs : List V} (hx : SqL K H a xs) (Pv : Nat → L2.St → Hp → Prop) (h0 : Pv 0 σ H) (hl : ∀ i σ H, i ≤ xs.length → Pv i σ H → SqL K H a xs)
    (hs : ∀ i x σ H, xs[i]? = some x → Pv i σ H → g x σ H fun σ2 H2 => t { nx := Pv (i + 1), rt := D.rt, ct := Pv (i + 1), bk := D.nx } σ2 H2) (hd : ∀ σ H, Pv xs.length σ H → D.nx σ H) :
    ItL K (fun J H1 => ForR J g t D σ H1) (.ref a) H := ⟨a, rfl, ⟨xs, hx⟩, for_list (xs := xs) Pv h0 hl hs hd⟩
theorem forR1 {n : Int} (hn : n < 2 ^ 62) (h0' : 0 ≤ n) (Pv : Nat → L2.St → Hp → Prop) (h0 : Pv 0 σ H)
    (hs : ∀ (i : Nat) σ H, (i : Int) < n → Pv i σ H → g (.int (i : Int)) σ H fun σ2 H2 => t { nx := Pv (i + 1), rt := D.rt, ct := Pv (i + 1), bk := D.nx } σ2 H2) (hd : ∀ σ H, Pv n.toNat σ H → D.nx σ H) :
    ItR1 (fun J H1 => ForR J g t D σ H1) [.int n] H := ⟨n, rfl, by omega, hn, for_range (lo := 0) (n := n.toNat) Pv h0 (fun i σ H hi p => by
      have e : (0 : Int) + (i : Int) = (i : Int) := Int.zero_add _
      rw [e]
      exact hs i σ H (by omega) p) hd⟩
theorem forR2 {lo n : Int} (hn : n < 2 ^ 62) (hl : -(2 ^ 62) ≤ lo ∧ lo < 2 ^ 62 ∧ -(2 ^ 62) ≤ n) (Pv : Nat → L2.St → Hp → Prop) (h0 : Pv 0 σ H)
    (hs : ∀ (i : Nat) σ H, lo + (i : Int) < n → Pv i σ H → g (.int (lo + (i : Int))) σ H fun σ2 H2 => t { nx := Pv (i + 1), rt := D.rt, ct := Pv (i + 1), bk := D.nx } σ2 H2) (hd : ∀ σ H, Pv (n - lo).toNat σ H → D.nx σ H) :
    ItR2 (fun J H1 => ForR J g t D σ H1) [.int lo, .int n] H := ⟨lo, n, rfl, ⟨hl.1, hl.2.1, hl.2.2, hn⟩, for_range (lo := lo) (n := (n - lo).toNat) Pv h0 (fun i σ H hi p => hs i σ H (by omega) p) hd⟩
theorem w_while (W : Nat → L2.St → Hp → Prop) (m0 : Nat) (h0 : W m0 σ H) (h : ∀ m σ H, W m σ H → tt σ H fun b H1 => if b = true then ∃ N : L2.St → Hp → Prop, (∀ σ' H', N σ' H' → ∃ m', m' < m ∧ W m' σ' H') ∧ t { D with nx := N, ct := N, bk := D.nx } σ H1 else D.nx σ H1) : tWhile tt t D σ H := ⟨W, ⟨m0, h0⟩, h⟩
theorem w_turn {W : Nat → L2.St → Hp → Prop} {m : Nat} {C : (L2.St → Hp → Prop) → Prop} (h : C fun σ' H' => ∃ m', m' < m ∧ W m' σ' H') : ∃ N : L2.St → Hp → Prop, (∀ σ' H', N σ' H' → ∃ m', m' < m ∧ W m' σ' H') ∧ C N := ⟨_, fun _ _ x => x, h⟩
theorem w_par {a b : Nat} (h : tas σ H fun vs H1 => ∃ v w, vs = [v, w] ∧ D.nx ((σ.set a (some v)).set b (some w)) H1) : tPar a b tas D σ H := h
theorem w_par2 {C : V → V → Prop} (h : C x y) : ∃ v w, [x, y] = [v, w] ∧ C v w := ⟨x, y, rfl, h⟩
theorem isi_ii (q : Q (.bl true) H) : rIsi K [.int i, .ty "int"] H Q := ⟨_, _, _, _, true, rfl, .ty _, .base (.int _), kit_ty (by decide +kernel), q⟩
theorem isi_ib (q : Q (.bl false) H) : rIsi K [.int i, .ty "bool"] H Q := ⟨_, _, _, _, false, rfl, .ty _, .base (.int _), kit_ty (by decide +kernel), q⟩
theorem isi_bb {b : Bool} (q : Q (.bl true) H) : rIsi K [.bl b, .ty "bool"] H Q := ⟨_, _, _, _, true, rfl, .ty _, .base (.bl _), kit_ty (by decide +kernel), q⟩
theorem isi_ss {b : Str} (q : Q (.bl true) H) : rIsi K [.str b, .ty "str"] H Q := ⟨_, _, _, _, true, rfl, .ty _, .base (.str _), kit_ty (by decide +kernel), q⟩
theorem isi_tt {p : Addr} {xs : List V} (h : H p = some (.tup xs)) (q : Q (.bl true) H) : rIsi K [.ref p, .ty "tuple"] H Q := ⟨_, _, _, _, true, rfl, .ty _, .base (.tup h), kit_ty (by decide +kernel), q⟩
theorem isi_ll {p : Addr} {xs : List V} (h : H p = some (.lst xs)) (q : Q (.bl true) H) : rIsi K [.ref p, .ty "list"] H Q := ⟨_, _, _, _, true, rfl, .ty _, .base (.lst h), kit_ty (by decide +kernel), q⟩
theorem w_cut (M : L2.St → Hp → Prop) (h : t { D with nx := M } σ H) (k : ∀ σ' H', M σ' H' → u D σ' H') : Evl.tCut t u D σ H := ⟨M, h, k⟩
theorem w_min2 (q : Q (.int (if j < i then j else i)) H) : rMin2 [.int i, .int j] H Q := ⟨i, j, rfl, q⟩
theorem w_max2 (q : Q (.int (if j > i then j else i)) H) : rMax2 [.int i, .int j] H Q := ⟨i, j, rfl, q⟩
theorem w_minL {p : Addr} {ns : List Int} (h : SqL K H p (ns.map V.int)) (h0 : 0 < ns.length) (q : ∀ m, m ∈ ns → (∀ y, y ∈ ns → m ≤ y) → Q (.int m) H) : rMinL K [.ref p] H Q := ⟨p, ns, rfl, h, h0, q⟩
/-- a built-in's method -/
theorem w_bm {T : String} {r : V → List V → Hp → VK → Prop} (h : ta σ H fun x H1 => tyV K T x H1 ∧ tas σ H1 fun xs H2 => r x xs H2 Q) : tBM K T r ta tas σ H Q := h
theorem w_tyL {p : Addr} {xs : List V} {C : Prop} (h : H p = some (.lst xs)) (q : C) : tyV K "list" (.ref p) H ∧ C := ⟨.inl ⟨rfl, xs, SqL.of h⟩, q⟩
theorem w_app {l : Addr} {xs : List V} (h : H l = some (.lst xs)) (hl : xs.length < 100000) (q : ∀ H1, H1 l = some (.lst (xs ++ [y])) → Keep l H H1 → Q .non H1) : rAppend (.ref l) [y] H Q := ⟨l, xs, y, rfl, rfl, h, Nat.lt_of_lt_of_le hl (by decide), q _ upd_same keep_upd⟩
theorem w_lc {wi : TI} {vs : List Nat} (h : wi σ H fun J H1 => LcR J g tt te vs σ Q H1) : tLc wi g tt te vs σ H Q := h
theorem lcR2 {lo n : Int} {m : Nat} {vs : List Nat} (f : Nat → V) (hn : n < 100000) (hl : -100000 ≤ lo ∧ lo < 100000 ∧ -100000 ≤ n)
    (hv : ∀ (i : Nat) H2 (Q' : VK), lo + (i : Int) < n → Same H H2 → Q' (f i) H2 → te ((wipe σ vs).set m (some (.int (lo + (i : Int))))) H2 Q') (hw : ∀ x, wipe ((wipe σ vs).set m (some x)) vs = wipe σ vs)
    (q : ∀ D H2, H D = none → H2 D = some (.lst ((List.range (n - lo).toNat).map f)) → Same H H2 → Q (.ref D) H2) : ItR2 (fun J H1 => LcR J (gName m) tYes te vs σ Q H1) [.int lo, .int n] H := by
  refine ⟨lo, n, rfl, by omega, fun D nD => ?_⟩
  refine lc_range (lo := lo) (n := (n - lo).toNat) (fun i H' => Same H H' ∧ H' D = some (.lst ((List.range i).map f))) ⟨same_upd nD, upd_same⟩ (fun i H' hi ⟨s1, e1⟩ => ?_) (fun H' ⟨s1, e1⟩ => q D H' nD e1 s1)
  refine ⟨hw _, hv i H' _ (by omega) s1 ?_⟩
  refine ⟨_, e1, by rw [List.length_map, List.length_range]; exact Nat.lt_of_lt_of_le (show i < 300000 by omega) (by decide), fun b o hb => ?_, ?_⟩
  · rw [upd_ne (ne_of_none hb nD)]
    exact s1 b o hb
  · rw [upd_same, List.range_succ, List.map_append]
    rfl
theorem lcR1 {n : Int} {m : Nat} {vs : List Nat} (f : Nat → V) (hn : n < 100000) (hl : -100000 ≤ n)
    (hv : ∀ (i : Nat) H2 (Q' : VK), (i : Int) < n → Same H H2 → Q' (f i) H2 → te ((wipe σ vs).set m (some (.int (i : Int)))) H2 Q') (hw : ∀ x, wipe ((wipe σ vs).set m (some x)) vs = wipe σ vs)
    (q : ∀ D H2, H D = none → H2 D = some (.lst ((List.range n.toNat).map f)) → Same H H2 → Q (.ref D) H2) : ItR1 (fun J H1 => LcR J (gName m) tYes te vs σ Q H1) [.int n] H := by
  refine ⟨n, rfl, by omega, by omega, fun D nD => ?_⟩
  refine lc_range (lo := 0) (n := n.toNat) (fun i H' => Same H H' ∧ H' D = some (.lst ((List.range i).map f))) ⟨same_upd nD, upd_same⟩ (fun i H' hi ⟨s1, e1⟩ => ?_) (fun H' ⟨s1, e1⟩ => q D H' nD e1 s1)
  have e0 : (0 : Int) + (i : Int) = (i : Int) := Int.zero_add _
  rw [e0]
  refine ⟨hw _, hv i H' _ (by omega) s1 ?_⟩
  refine ⟨_, e1, by rw [List.length_map, List.length_range]; exact Nat.lt_of_lt_of_le (show i < 300000 by omega) (by decide), fun b o hb => ?_, ?_⟩
  · rw [upd_ne (ne_of_none hb nD)]
    exact s1 b o hb
  · rw [upd_same, List.range_succ, List.map_append]
    rfl
theorem w_test (h : te σ H fun x H' => ∃ k, x = .bl k ∧ R k H') : tTest te σ H R := h
theorem w_tB (h : te σ H fun x H' => ∃ k, x = .bl k ∧ R k H') : tB te σ H R := h
theorem w_bl {b : Bool} {C : Bool → Prop} (h : C b) : ∃ k, V.bl b = .bl k ∧ C k := ⟨b, rfl, h⟩
theorem w_and (h : tt σ H fun c H1 => if c = true then tu σ H1 R else R false H1) : tAnd tt tu σ H R := h
theorem w_or (h : tt σ H fun c H1 => if c = true then R true H1 else tu σ H1 R) : tOr tt tu σ H R := h
theorem w_not (h : tt σ H fun c H1 => R (!c) H1) : tNot tt σ H R := h
theorem w_andV (h : ta σ H fun x H1 => ∃ c, x = .bl c ∧ if c = true then tb σ H1 Q else Q (.bl false) H1) : tAndV ta tb σ H Q := h
theorem w_orV (h : ta σ H fun x H1 => ∃ c, x = .bl c ∧ if c = true then Q (.bl true) H1 else tb σ H1 Q) : tOrV ta tb σ H Q := h
theorem w_notV (h : ta σ H fun x H1 => ∃ c, x = .bl c ∧ Q (.bl (!c)) H1) : tNotV ta σ H Q := h
theorem w_ifE (h : tt σ H fun c H1 => if c = true then ta σ H1 Q else tb σ H1 Q) : tIf tt ta tb σ H Q := h
theorem w_ifS (h : tt σ H fun b H1 => if b = true then t D σ H1 else u D σ H1) : tIfS tt t u D σ H := h
theorem w_dec {c : Prop} [Decidable c] {A B : Prop} (h1 : c → A) (h2 : ¬ c → B) : if decide c = true then A else B := by
  by_cases h : c
  · rw [if_pos (decide_eq_true h)]; exact h1 h
  · rw [if_neg (by simpa using h)]; exact h2 h
theorem w_decN {c : Prop} [Decidable c] {A B : Prop} (h1 : ¬ c → A) (h2 : c → B) : if (!decide c) = true then A else B := by
  by_cases h : c
  · rw [if_neg (by simpa using h)]; exact h2 h
  · rw [if_pos (by simpa using h)]; exact h1 h
theorem w_decY {c : Prop} [Decidable c] {A B : Prop} (hc : c) (h : A) : if decide c = true then A else B := by rw [if_pos (decide_eq_true hc)]; exact h
theorem w_decO {c : Prop} [Decidable c] {A B : Prop} (hc : ¬ c) (h : B) : if decide c = true then A else B := by rw [if_neg (by simpa using hc)]; exact h
theorem w_decNY {c : Prop} [Decidable c] {A B : Prop} (hc : ¬ c) (h : A) : if (!decide c) = true then A else B := by rw [if_pos (by simpa using hc)]; exact h
theorem w_decNO {c : Prop} [Decidable c] {A B : Prop} (hc : c) (h : B) : if (!decide c) = true then A else B := by rw [if_neg (by simpa using hc)]; exact h
theorem w_new {xs : List V} {C : Prop} (q : C) (hn : Nat.ble xs.length 1000 = true := by rfl) : xs.length ≤ sizeLine ∧ C := ⟨Nat.le_of_lt (small1000 (Nat.le_of_ble_eq_true hn)), q⟩
theorem w_nyes {A B : Prop} (h : B) : if (!true) = true then A else B := by rw [if_neg (by decide)]; exact h
theorem w_nno {A B : Prop} (h : A) : if (!false) = true then A else B := by rw [if_pos (by decide)]; exact h
theorem w_yes {A B : Prop} (h : A) : if true = true then A else B := by rw [if_pos rfl]; exact h
theorem w_no {A B : Prop} (h : B) : if false = true then A else B := by rw [if_neg Bool.false_ne_true]; exact h
end
end Fw

/-! fractions in lowest terms, as made and _law_cut reckon them: plain Lean -/
namespace Mth
/-- the greatest common divisor, with the bottom's sign -/
def sg (t b : Int) : Int := if b < 0 then -(Nat.gcd t.natAbs b.natAbs : Int) else (Nat.gcd t.natAbs b.natAbs : Int)
def cT (t b : Int) : Int := t.fdiv (sg t b)
def cB (t b : Int) : Int := b.fdiv (sg t b)
theorem g_pos {t b : Int} (h : b ≠ 0) : 0 < Nat.gcd t.natAbs b.natAbs := Nat.gcd_pos_of_pos_right _ (by omega)
theorem sg_ne {t b : Int} (h : b ≠ 0) : sg t b ≠ 0 := by
  have := g_pos (t := t) h
  unfold sg
  split <;> omega
theorem sg_abs {t b : Int} : (sg t b).natAbs = Nat.gcd t.natAbs b.natAbs := by
  unfold sg
  split <;> omega
theorem sg_dvdT {t b : Int} : sg t b ∣ t := by
  rw [← Int.natAbs_dvd_natAbs, sg_abs]
  exact Nat.gcd_dvd_left _ _
theorem sg_dvdB {t b : Int} : sg t b ∣ b := by
  rw [← Int.natAbs_dvd_natAbs, sg_abs]
  exact Nat.gcd_dvd_right _ _
theorem cT_mul {t b : Int} : sg t b * cT t b = t := Int.mul_fdiv_cancel' sg_dvdT
theorem cB_mul {t b : Int} : sg t b * cB t b = b := Int.mul_fdiv_cancel' sg_dvdB
theorem sg_le {t b : Int} (h : b ≠ 0) : (sg t b).natAbs ≤ b.natAbs := by
  rw [sg_abs]
  exact Nat.gcd_le_right _ (by omega)
theorem cB_pos {t b : Int} (h : b ≠ 0) : 0 < cB t b := by
  have e := cB_mul (t := t) (b := b)
  have g := g_pos (t := t) h
  rcases Int.lt_trichotomy (cB t b) 0 with z | z | z
  · exfalso
    unfold sg at e
    split at e
    · have : 0 < (-(Nat.gcd t.natAbs b.natAbs : Int)) * cB t b := Int.mul_pos_of_neg_of_neg (by omega) z
      omega
    · have : (Nat.gcd t.natAbs b.natAbs : Int) * cB t b < 0 := Int.mul_neg_of_pos_of_neg (by omega) z
      omega
  · rw [z, Int.mul_zero] at e
    omega
  · exact z
theorem cT_le {t b : Int} (h : b ≠ 0) : (cT t b).natAbs ≤ t.natAbs := by
  have e := congrArg Int.natAbs (cT_mul (t := t) (b := b))
  rw [Int.natAbs_mul, sg_abs] at e
  rw [← e]
  exact Nat.le_mul_of_pos_left _ (g_pos h)
theorem cB_le {t b : Int} (h : b ≠ 0) : (cB t b).natAbs ≤ b.natAbs := by
  have e := congrArg Int.natAbs (cB_mul (t := t) (b := b))
  rw [Int.natAbs_mul, sg_abs] at e
  rw [← e]
  exact Nat.le_mul_of_pos_left _ (g_pos h)
theorem c_cross {t b : Int} : cT t b * b = cB t b * t := by
  have e1 := cT_mul (t := t) (b := b)
  have e2 := cB_mul (t := t) (b := b)
  calc cT t b * b = cT t b * (sg t b * cB t b) := by rw [e2]
    _ = cB t b * (sg t b * cT t b) := by rw [Int.mul_left_comm, Int.mul_comm (cT t b), Int.mul_left_comm]
    _ = cB t b * t := by rw [e1]
theorem c_gcd {t b : Int} (h : b ≠ 0) : Nat.gcd (cT t b).natAbs (cB t b).natAbs = 1 := by
  have e1 := congrArg Int.natAbs (cT_mul (t := t) (b := b))
  have e2 := congrArg Int.natAbs (cB_mul (t := t) (b := b))
  rw [Int.natAbs_mul, sg_abs] at e1 e2
  have g := g_pos (t := t) h
  have k : Nat.gcd (Nat.gcd t.natAbs b.natAbs * (cT t b).natAbs) (Nat.gcd t.natAbs b.natAbs * (cB t b).natAbs) = Nat.gcd t.natAbs b.natAbs := by rw [e1, e2]
  rw [Nat.gcd_mul_left] at k
  exact Nat.eq_of_mul_eq_mul_left g (by omega)
theorem gcd_step {x y : Int} (hx : 0 ≤ x) (hy : 0 < y) : 0 ≤ x.fmod y ∧ x.fmod y < y ∧ Nat.gcd y.natAbs (x.fmod y).natAbs = Nat.gcd x.natAbs y.natAbs := by
  rw [Int.fmod_eq_emod_of_nonneg x (by omega)]
  refine ⟨Int.emod_nonneg _ (by omega), Int.emod_lt_of_pos _ hy, ?_⟩
  have e : (x % y).natAbs = x.natAbs % y.natAbs := by
    obtain ⟨n, rfl⟩ := Int.eq_ofNat_of_zero_le hx
    obtain ⟨k, rfl⟩ := Int.eq_ofNat_of_zero_le (Int.le_of_lt hy)
    rfl
  rw [e, Nat.gcd_comm x.natAbs, Nat.gcd_rec y.natAbs x.natAbs, Nat.gcd_comm]
end Mth

/-! the prices of a short shelf: plain Lean -/
namespace Prc
/-- the best of the first places 1 .. k + 1 to keep a state, as cheapest goes through them -/
def bst (f r : Nat → Int) (m : Nat) : Nat → Int × Int
  | 0 => (1 + f (m - 1), 1)
  | k + 1 => if (k : Int) + 2 + f (m - (k + 2)) + r (k + 2) < (bst f r m k).1 then ((k : Int) + 2 + f (m - (k + 2)) + r (k + 2), (k : Int) + 2) else bst f r m k
/-- (price, where the first state is kept) of m steps with p places -/
def E : Nat → Nat → Int × Int
  | 0, m => (((m : Int) * ((m : Int) - 1)).fdiv 2, 0)
  | p + 1, m => if m < 2 then (0, 0) else bst (fun j => (E p j).1) (fun k => if h : k < m then (E (p + 1) k).1 else 0) m (m - 2)
termination_by p m => (p, m)
def V (p m : Nat) : Int := (E p m).1
theorem bst_congr {f r r' : Nat → Int} {m : Nat} : ∀ K, (∀ k, k ≤ K + 1 → r k = r' k) → bst f r m K = bst f r' m K
  | 0, _ => rfl
  | K + 1, h => by
    have ih := bst_congr (f := f) (m := m) K fun k hk => h k (by omega)
    unfold bst
    rw [ih, h (K + 2) (by omega)]
theorem E_zero (m : Nat) : E 0 m = (((m : Int) * ((m : Int) - 1)).fdiv 2, 0) := by rw [E]
theorem E_small {p m : Nat} (h : m < 2) : E (p + 1) m = (0, 0) := by rw [E, if_pos h]
theorem E_succ {p m : Nat} (h : 2 ≤ m) : E (p + 1) m = bst (V p) (V (p + 1)) m (m - 2) := by
  rw [E, if_neg (by omega)]
  exact bst_congr (m - 2) fun k hk => dif_pos (by omega)
theorem V_lt2 {p m : Nat} (h : m < 2) : V p m = 0 := by
  unfold V
  cases p with
  | zero =>
    rw [E_zero]
    have : m = 0 ∨ m = 1 := by omega
    rcases this with rfl | rfl <;> rfl
  | succ p => rw [E_small h]
theorem bst_le {f r : Nat → Int} {m : Nat} (h1 : r 1 = 0) : ∀ (K a : Nat), 1 ≤ a → a ≤ K + 1 → (bst f r m K).1 ≤ (a : Int) + f (m - a) + r a
  | 0, a, h, h' => by
    have : a = 1 := by omega
    subst this
    show 1 + f (m - 1) ≤ ((1 : Nat) : Int) + f (m - 1) + r 1
    rw [h1]
    omega
  | K + 1, a, h, h' => by
    unfold bst
    by_cases e : a = K + 2
    · subst e
      split
      · show (K : Int) + 2 + f (m - (K + 2)) + r (K + 2) ≤ _
        omega
      · rename_i z
        omega
    · have ih := bst_le (f := f) (r := r) (m := m) h1 K a h (by omega)
      split
      · rename_i z
        show (K : Int) + 2 + f (m - (K + 2)) + r (K + 2) ≤ _
        omega
      · exact ih
theorem bst_mem {f r : Nat → Int} {m : Nat} (h1 : r 1 = 0) : ∀ K, ∃ a : Nat, 1 ≤ a ∧ a ≤ K + 1 ∧ (bst f r m K).1 = (a : Int) + f (m - a) + r a ∧ (bst f r m K).2 = (a : Int)
  | 0 => ⟨1, by omega, by omega, by
      show 1 + f (m - 1) = ((1 : Nat) : Int) + f (m - 1) + r 1
      rw [h1]
      omega, rfl⟩
  | K + 1 => by
    unfold bst
    split
    · exact ⟨K + 2, by omega, by omega, by show (K : Int) + 2 + f (m - (K + 2)) + r (K + 2) = _; omega, by show (K : Int) + 2 = _; omega⟩
    · obtain ⟨a, x, y, z⟩ := bst_mem (f := f) (r := r) (m := m) h1 K
      exact ⟨a, x, by omega, z⟩
theorem V_le {p m a : Nat} (h : 1 ≤ a) (h' : a < m) : V (p + 1) m ≤ (a : Int) + V p (m - a) + V (p + 1) a := by
  have e : V (p + 1) m = (bst (V p) (V (p + 1)) m (m - 2)).1 := by
    show (E (p + 1) m).1 = _
    rw [E_succ (by omega)]
  rw [e]
  exact bst_le (V_lt2 (by omega)) (m - 2) a h (by omega)
theorem V_mem {p m : Nat} (h : 2 ≤ m) : ∃ a : Nat, 1 ≤ a ∧ a < m ∧ V (p + 1) m = (a : Int) + V p (m - a) + V (p + 1) a ∧ (E (p + 1) m).2 = (a : Int) := by
  obtain ⟨a, x, y, z, z'⟩ := bst_mem (f := V p) (r := V (p + 1)) (m := m) (V_lt2 (by omega)) (m - 2)
  refine ⟨a, x, by omega, ?_, ?_⟩
  · show (E (p + 1) m).1 = _
    rw [E_succ h]
    exact z
  · rw [E_succ h]
    exact z'
theorem V_zero (m : Nat) : 2 * V 0 m = (m : Int) * ((m : Int) - 1) := by
  unfold V
  rw [E_zero]
  show 2 * ((m : Int) * ((m : Int) - 1)).fdiv 2 = _
  have h : (m : Int) * ((m : Int) - 1) % 2 = 0 := by
    have hm : (m : Int) % 2 = 0 ∨ (m : Int) % 2 = 1 := by omega
    rcases hm with hm | hm
    · rw [Int.mul_emod, hm]
      simp
    · have : ((m : Int) - 1) % 2 = 0 := by omega
      rw [Int.mul_emod, this]
      simp
  rw [Int.fdiv_eq_ediv_of_nonneg _ (by omega)]
  omega
theorem V_nonneg : ∀ p m, 0 ≤ V p m := by
  intro p
  induction p with
  | zero =>
    intro m
    have h := V_zero m
    cases m with
    | zero => have : V 0 0 = 0 := V_lt2 (by omega); omega
    | succ m =>
      have : 0 ≤ ((m + 1 : Nat) : Int) * (((m + 1 : Nat) : Int) - 1) := Int.mul_nonneg (by omega) (by omega)
      omega
  | succ p ih =>
    intro m
    induction m using Nat.strongRecOn with
    | ind m ihm =>
      by_cases h : m < 2
      · rw [V_lt2 h]; omega
      · obtain ⟨a, h1, h2, e, _⟩ := V_mem (p := p) (m := m) (by omega)
        have x := ih (m - a)
        have y := ihm a h2
        omega
theorem sq_step (m : Nat) : ((m + 1 : Nat) : Int) * (((m + 1 : Nat) : Int) - 1) = (m : Int) * ((m : Int) - 1) + 2 * m := by
  have e : ((m + 1 : Nat) : Int) = (m : Int) + 1 := by omega
  rw [e, Int.add_sub_cancel, Int.add_mul, Int.mul_sub, Int.mul_one, Int.one_mul]
  omega
/-- it grows with the steps -/
theorem V_step : ∀ p m, V p m ≤ V p (m + 1) := by
  intro p
  induction p with
  | zero =>
    intro m
    have h1 := V_zero m
    have h2 := V_zero (m + 1)
    have h3 := sq_step m
    omega
  | succ p ih =>
    intro m
    by_cases h : m < 2
    · rw [V_lt2 h]
      exact V_nonneg _ _
    · obtain ⟨a, h1, h2, e, _⟩ := V_mem (p := p) (m := m + 1) (by omega)
      by_cases ha : a = m
      · subst ha
        have x : V p (a + 1 - a) = 0 := V_lt2 (by omega)
        rw [x] at e
        omega
      · have y := V_le (p := p) (m := m) (a := a) h1 (by omega)
        have z := ih (m - a)
        have q : m + 1 - a = m - a + 1 := by omega
        rw [q] at e
        omega
/-- and falls with the places -/
theorem V_place : ∀ p m, V (p + 1) m ≤ V p m := by
  intro p
  induction p with
  | zero =>
    intro m
    by_cases h : m < 2
    · rw [V_lt2 h, V_lt2 h]
      omega
    · obtain ⟨k, rfl⟩ : ∃ k, m = k + 1 := ⟨m - 1, by omega⟩
      have y := V_le (p := 0) (m := k + 1) (a := 1) (by omega) (by omega)
      have x : V (0 + 1) 1 = 0 := V_lt2 (by omega)
      have q : k + 1 - 1 = k := by omega
      rw [x, q] at y
      have h1 := V_zero k
      have h2 := V_zero (k + 1)
      have h3 := sq_step k
      omega
  | succ p ih =>
    intro m
    induction m using Nat.strongRecOn with
    | ind m ihm =>
      by_cases h : m < 2
      · rw [V_lt2 h, V_lt2 h]
        omega
      · obtain ⟨a, h1, h2, e, _⟩ := V_mem (p := p) (m := m) (by omega)
        have y := V_le (p := p + 1) (m := m) (a := a) h1 h2
        have z := ih (m - a)
        have q := ihm a h2
        omega
/-- the least of a list is the price -/
theorem V_min {p m : Nat} (h : 2 ≤ m) {z : Int} (h1 : z ∈ (List.range (m - 1)).map fun i : Nat => (1 + (i : Int)) + V p (m - (1 + i)) + V (p + 1) (1 + i))
    (h2 : ∀ y ∈ (List.range (m - 1)).map fun i : Nat => (1 + (i : Int)) + V p (m - (1 + i)) + V (p + 1) (1 + i), z ≤ y) : z = V (p + 1) m := by
  obtain ⟨i, hi, rfl⟩ := List.mem_map.mp h1
  rw [List.mem_range] at hi
  obtain ⟨a, a1, a2, e, _⟩ := V_mem (p := p) (m := m) h
  have x := V_le (p := p) (m := m) (a := 1 + i) (by omega) (by omega)
  have y := h2 _ (List.mem_map.mpr ⟨a - 1, List.mem_range.mpr (by omega), rfl⟩)
  have q : 1 + (a - 1) = a := by omega
  rw [q] at y
  omega
end Prc

/-! the price in one row: plain Lean -/
namespace Prc
def tb : List (List Int) := [[0, 0, 1, 3, 6, 10, 15, 21, 28, 36, 45, 55, 66, 78, 91, 105, 120, 136, 153, 171, 190, 210, 231, 253, 276, 300, 325, 351, 378, 406, 435],
  [0, 0, 1, 2, 4, 6, 8, 11, 14, 17, 20, 24, 28, 32, 36, 40, 45, 50, 55, 60, 65, 70, 76, 82, 88, 94, 100, 106, 112, 119, 126],
  [0, 0, 1, 2, 3, 5, 7, 9, 11, 13, 15, 18, 21, 24, 27, 30, 33, 36, 39, 42, 45, 49, 53, 57, 61, 65, 69, 73, 77, 81, 85],
  [0, 0, 1, 2, 3, 4, 6, 8, 10, 12, 14, 16, 18, 20, 22, 24, 27, 30, 33, 36, 39, 42, 45, 48, 51, 54, 57, 60, 63, 66, 69],
  [0, 0, 1, 2, 3, 4, 5, 7, 9, 11, 13, 15, 17, 19, 21, 23, 25, 27, 29, 31, 33, 35, 38, 41, 44, 47, 50, 53, 56, 59, 62],
  [0, 0, 1, 2, 3, 4, 5, 6, 8, 10, 12, 14, 16, 18, 20, 22, 24, 26, 28, 30, 32, 34, 36, 38, 40, 42, 44, 46, 48, 51, 54],
  [0, 0, 1, 2, 3, 4, 5, 6, 7, 9, 11, 13, 15, 17, 19, 21, 23, 25, 27, 29, 31, 33, 35, 37, 39, 41, 43, 45, 47, 49, 51],
  [0, 0, 1, 2, 3, 4, 5, 6, 7, 8, 10, 12, 14, 16, 18, 20, 22, 24, 26, 28, 30, 32, 34, 36, 38, 40, 42, 44, 46, 48, 50],
  [0, 0, 1, 2, 3, 4, 5, 6, 7, 8, 9, 11, 13, 15, 17, 19, 21, 23, 25, 27, 29, 31, 33, 35, 37, 39, 41, 43, 45, 47, 49]]
def gt (p n : Nat) : Int := (tb.getD p []).getD n 0
theorem bst_congr2 {f f' r r' : Nat → Int} {m : Nat} : ∀ K, K + 2 ≤ m → (∀ k, k < m → f k = f' k) → (∀ k, k < m → r k = r' k) → bst f r m K = bst f' r' m K
  | 0, h, hf, hr => by
    unfold bst
    rw [hf (m - 1) (by omega)]
  | K + 1, h, hf, hr => by
    have ih := bst_congr2 (m := m) K (by omega) hf hr
    unfold bst
    rw [ih, hf (m - (K + 2)) (by omega), hr (K + 2) (by omega)]
theorem chk0 : ∀ n : Nat, n < 31 → gt 0 n = ((n : Int) * ((n : Int) - 1)).fdiv 2 := by decide +kernel
theorem chkS : ∀ p : Nat, p < 8 → gt (p + 1) 0 = 0 ∧ gt (p + 1) 1 = 0 := by decide +kernel
theorem chk1 : ∀ p : Nat, p < 8 → ∀ k : Nat, k < 29 → (bst (gt p) (gt (p + 1)) (k + 2) k).1 = gt (p + 1) (k + 2) := by decide +kernel
theorem V_gt : ∀ p, p < 9 → ∀ n, n < 31 → V p n = gt p n := by
  intro p
  induction p with
  | zero =>
    intro _ n hn
    rw [chk0 n hn]
    show (E 0 n).1 = _
    rw [E_zero]
  | succ p ih =>
    intro hp n
    induction n using Nat.strongRecOn with
    | ind n ihn =>
      intro hn
      by_cases h : n < 2
      · rw [V_lt2 h]
        have h2 : n = 0 ∨ n = 1 := by omega
        rcases h2 with rfl | rfl
        · exact (chkS p (by omega)).1.symm
        · exact (chkS p (by omega)).2.symm
      · obtain ⟨k, rfl⟩ : ∃ k, n = k + 2 := ⟨n - 2, by omega⟩
        rw [← chk1 p (by omega) k (by omega)]
        show (E (p + 1) (k + 2)).1 = _
        rw [E_succ (by omega), show k + 2 - 2 = k by omega]
        rw [bst_congr2 k (by omega) (fun j hj => ih (by omega) j (by omega)) (fun j hj => ihn j hj (by omega))]
/-- the ways to choose, as _law_ways goes -/
def wy (m : Nat) : Nat → Int
  | 0 => 1
  | k + 1 => (wy m k * ((m : Int) - (k : Int))).fdiv ((k : Int) + 1)
theorem wy_big : ∀ p : Nat, p < 9 → ∀ r : Nat, r < 31 → ∀ k : Nat, k < 11 → (wy (p + 1 + r) k).natAbs < 2 ^ 60 := by decide +kernel
theorem wy_grow : ∀ p : Nat, p < 9 → ∀ r : Nat, r < 31 → (r : Int) + 1 ≤ wy (p + 1 + r) (p + 1) := by decide +kernel
def cR (p n r : Nat) : Bool := !(decide (1 ≤ n) && ((decide (r = 0) || decide (wy (p + r) (p + 1) < (n : Int))) && decide ((n : Int) ≤ wy (p + 1 + r) (p + 1)))) || decide (gt p n = (r : Int) * (n : Int) - (if p + 1 + r < p + 2 then 0 else wy (p + 1 + r) (p + 2)))
theorem chkR : ((List.range 9).all fun p => (List.range 31).all fun n => (List.range 31).all fun r => cR p n r) = true := by decide +kernel
theorem wy_row {p n r : Nat} (hp : p < 9) (hn : n < 31) (hr : r < 31) (h1 : 1 ≤ n) (h2 : r = 0 ∨ wy (p + r) (p + 1) < (n : Int)) (h3 : (n : Int) ≤ wy (p + 1 + r) (p + 1)) :
    gt p n = (r : Int) * (n : Int) - (if p + 1 + r < p + 2 then 0 else wy (p + 1 + r) (p + 2)) := by
  have h := List.all_eq_true.mp (List.all_eq_true.mp (List.all_eq_true.mp chkR p (List.mem_range.mpr hp)) n (List.mem_range.mpr hn)) r (List.mem_range.mpr hr)
  unfold cR at h
  have e2 : (decide (r = 0) || decide (wy (p + r) (p + 1) < (n : Int))) = true := by
    rcases h2 with h2 | h2
    · rw [decide_eq_true h2]; rfl
    · rw [decide_eq_true h2, Bool.or_true]
  rw [decide_eq_true h1, e2, decide_eq_true h3] at h
  exact of_decide_eq_true h
end Prc

namespace Lw
open PySem PySem.Spec PyProof.Rows L2 Fw
def topS (i : Nat) : Stmt := PySem.Challenge.pw_slopesback_k21_price_in_one_row.main.body.getD i (.Pass ⟨0, 0, 0, 0⟩)
abbrev s_prices : Stmt := topS 1
theorem sc_prices : FnScope ["steps", "places", "table", "place", "row", "many"] ["steps", "places"] (defScope s_prices) := ⟨rfl, rfl, rfl, by decide +kernel, rfl, by decide +kernel, by decide +kernel⟩
theorem b_prices : Fw.BindsOk "prices" "prices" ["steps", "places"] s_prices := fun _ _ _ _ _ _ us hl => match us, hl with | [_, _], _ => rfl
abbrev s_cheapest : Stmt := topS 2
theorem sc_cheapest : FnScope ["fewer", "row", "many", "best", "at", "price"] ["fewer", "row", "many"] (defScope s_cheapest) := ⟨rfl, rfl, rfl, by decide +kernel, rfl, by decide +kernel, by decide +kernel⟩
theorem b_cheapest : Fw.BindsOk "cheapest" "cheapest" ["fewer", "row", "many"] s_cheapest := fun _ _ _ _ _ _ us hl => match us, hl with | [_, _, _], _ => rfl
abbrev s_price : Stmt := topS 3
theorem sc_price : FnScope ["steps", "places"] ["steps", "places"] (defScope s_price) := ⟨rfl, rfl, rfl, by decide +kernel, rfl, by decide +kernel, by decide +kernel⟩
theorem b_price : Fw.BindsOk "price" "price" ["steps", "places"] s_price := fun _ _ _ _ _ _ us hl => match us, hl with | [_, _], _ => rfl
abbrev s_l_dice : Stmt := topS 5
theorem sc_l_dice : FnScope ["_law_script", "_law_mixed", "_law_cell"] ["_law_script"] (defScope s_l_dice) := ⟨rfl, rfl, rfl, by decide +kernel, rfl, by decide +kernel, by decide +kernel⟩
theorem b_l_dice : Fw.BindsOk "_law_dice" "_law_dice" ["_law_script"] s_l_dice := fun _ _ _ _ _ _ us hl => match us, hl with | [_], _ => rfl
abbrev s_l_next : Stmt := topS 6
theorem sc_l_next : FnScope ["_law_dice_here", "_law_many", "_law_cell"] ["_law_dice_here", "_law_many"] (defScope s_l_next) := ⟨rfl, rfl, rfl, by decide +kernel, rfl, by decide +kernel, by decide +kernel⟩
theorem b_l_next : Fw.BindsOk "_law_next" "_law_next" ["_law_dice_here", "_law_many"] s_l_next := fun _ _ _ _ _ _ us hl => match us, hl with | [_, _], _ => rfl
abbrev s_l_whole : Stmt := topS 7
theorem sc_l_whole : FnScope ["_law_found"] ["_law_found"] (defScope s_l_whole) := ⟨rfl, rfl, rfl, by decide +kernel, rfl, by decide +kernel, by decide +kernel⟩
theorem b_l_whole : Fw.BindsOk "_law_whole" "_law_whole" ["_law_found"] s_l_whole := fun _ _ _ _ _ _ us hl => match us, hl with | [_], _ => rfl
abbrev s_l_ways : Stmt := topS 8
theorem sc_l_ways : FnScope ["_law_many", "_law_some", "_law_found", "_law_k"] ["_law_many", "_law_some"] (defScope s_l_ways) := ⟨rfl, rfl, rfl, by decide +kernel, rfl, by decide +kernel, by decide +kernel⟩
theorem b_l_ways : Fw.BindsOk "_law_ways" "_law_ways" ["_law_many", "_law_some"] s_l_ways := fun _ _ _ _ _ _ us hl => match us, hl with | [_, _], _ => rfl
abbrev s_law : Stmt := topS 9
theorem sc_law : FnScope ["_law_script", "_law_dice_here", "_law_steps", "_law_places", "_law_r", "_law_due", "_law_found"] ["_law_script"] (defScope s_law) := ⟨rfl, rfl, rfl, by decide +kernel, rfl, by decide +kernel, by decide +kernel⟩
theorem b_law : Fw.BindsOk "law" "law" ["_law_script"] s_law := fun _ _ _ _ _ _ us hl => match us, hl with | [_], _ => rfl

/-- the built-ins' names are free -/
structure Fre (mg : Str → Option Value) : Prop where
  f_len : mg "len" = none
  f_int : mg "int" = none
  f_bool : mg "bool" = none
  f_isinstance : mg "isinstance" = none
  f_range : mg "range" = none
local macro_rules | `(tactic| walk_at "cond") => `(tactic| first | assumption | (with_reducible exact cdiv_small (by omega) (by omega)) | (with_reducible exact cmul_small (by omega) (by omega)) | (with_reducible exact cpow_mk (by omega) (by omega) (by omega)) | omega)
local macro_rules | `(tactic| walk_at "ne") => `(tactic| first | assumption | exact Ne.symm (by assumption) | exact ne_of_none (by assumption) (by assumption) | exact Ne.symm (ne_of_none (by assumption) (by assumption)))
local macro_rules | `(tactic| walk_at "at") => `(tactic| first
  | assumption
  | (with_reducible exact upd_same)
  | ((with_reducible refine' at_same ?hk ?hh); (case hk => assumption); (case hh => walk_at "at"))
  | ((with_reducible refine' at_keepT ?hk ?hh ?hd); (case hk => assumption); (case hh => walk_at "at"); (case hd => walk_at "at"))
  | ((with_reducible refine' at_keep ?hk ?hh ?hn); (case hk => assumption); (case hh => walk_at "at"); (case hn => walk_at "ne")))
local macro_rules | `(tactic| walk_at "hp") => `(tactic| first
  | assumption
  | ((with_reducible refine' SqT.of ?hq); (case hq => walk_at "at")) | ((with_reducible refine' SqL.of ?hq); (case hq => walk_at "at"))
  | ((with_reducible refine' sql_same ?hk ?hh); (case hk => assumption); (case hh => walk_at "hp"))
  | ((with_reducible refine' sql_keep ?hk ?hh ?hn); (case hk => assumption); (case hh => walk_at "hp"); (case hn => walk_at "ne"))
  | ((with_reducible refine' sqt_same ?hk ?hh); (case hk => assumption); (case hh => walk_at "hp")))
local macro_rules | `(tactic| walk_at "wp1") => `(tactic| first
  | with_reducible refine w_seq ?_ | with_reducible refine w_set ?_ | with_reducible refine w_drop ?_ | with_reducible refine w_ret ?_ | with_reducible refine w_ifS ?_ | with_reducible refine w_next ?_
  | ((with_reducible refine' w_var ?hv ?_); (case hv => rfl)) | with_reducible refine w_c ?_
  | with_reducible refine w_op ?_ | with_reducible refine w_un ?_ | with_reducible refine w_cb ?_ | with_reducible refine w_cal ?_ | with_reducible refine w_cons ?_ | with_reducible refine w_nil ?_
  | with_reducible refine w_plus ?_ | with_reducible refine w_minus ?_ | with_reducible refine w_lt ?_ | with_reducible refine w_le ?_ | with_reducible refine w_gt ?_ | with_reducible refine w_ge ?_
  | with_reducible refine w_eqI ?_ | with_reducible refine w_neI ?_ | with_reducible refine w_eqB ?_ | with_reducible refine w_neB ?_ | with_reducible refine w_eqS ?_ | with_reducible refine w_neS ?_
  | with_reducible refine w_neg ?_ | with_reducible refine w_abs ?_ | with_reducible refine w_intB ?_ | with_reducible refine w_test ?_ | with_reducible refine w_tB ?_ | with_reducible refine w_bl ?_
  | with_reducible refine w_and ?_ | with_reducible refine w_or ?_ | with_reducible refine w_not ?_ | with_reducible refine w_andV ?_ | with_reducible refine w_orV ?_ | with_reducible refine w_notV ?_ | with_reducible refine w_ifE ?_
  | with_reducible refine w_nyes ?_ | with_reducible refine w_nno ?_ | with_reducible refine w_yes ?_ | with_reducible refine w_no ?_
  | ((with_reducible refine' w_ixL ?ha ?hb ?_); (case ha => walk_at "hp"); (case hb => rfl)) | ((with_reducible refine' w_ixT ?ha ?hb ?_); (case ha => walk_at "hp"); (case hb => rfl))
  | ((with_reducible refine' w_lenL ?ha ?_); (case ha => walk_at "hp")) | ((with_reducible refine' w_lenT ?ha ?_); (case ha => walk_at "hp"))
  | with_reducible refine w_min2 ?_ | with_reducible refine w_max2 ?_ | with_reducible refine w_bm ?_ | with_reducible refine w_lc ?_ | ((with_reducible refine' w_tyL ?ha ?_); (case ha => walk_at "at"))
  | with_reducible refine isi_ii ?_ | with_reducible refine isi_ib ?_ | with_reducible refine isi_bb ?_ | with_reducible refine isi_ss ?_
  | ((with_reducible refine' isi_tt ?ha ?_); (case ha => walk_at "at")) | ((with_reducible refine' isi_ll ?ha ?_); (case ha => walk_at "at"))
  | with_reducible refine w_par ?_ | with_reducible refine w_par2 ?_ | with_reducible refine w_for ?_ | with_reducible refine w_iL ?_ | with_reducible refine w_iT ?_ | with_reducible refine w_iR1 ?_ | with_reducible refine w_iR2 ?_
  | with_reducible refine w_tup ?_ | with_reducible refine w_lst ?_
  | with_reducible refine w_asg ?_ | with_reducible refine w_gname ?_ | with_reducible refine w_gcons ?_ | with_reducible refine w_gnil ?_ | with_reducible refine w_gsub ?_
  | ((with_reducible refine' w_gtup ?ha ?hb ?_); (case ha => walk_at "hp"); (case hb => rfl))
  | ((with_reducible refine' w_fdiv ?hc ?_); (case hc => walk_at "cond")) | ((with_reducible refine' w_mul ?hc ?_); (case hc => walk_at "cond"))
  | ((with_reducible refine' w_mod ?hc ?_); (case hc => walk_at "cond")) | ((with_reducible refine' w_pow ?hc ?_); (case hc => walk_at "cond")))
local macro_rules | `(tactic| walk_at "wp") => `(tactic| repeat walk_at "wp1")


/-! ### the dice -/
/-- the script: locked, or of the written part -/
def SqS (K : PySem.W.Frag) (H : Hp) (a : Addr) (xs : List V) : Prop := (∃ o, H a = some (.frz o (.lst xs))) ∨ ∀ H', SqL K H' a xs
theorem SqS.of {K : PySem.W.Frag} {H : Hp} {a : Addr} {xs : List V} (hO : Only H) (h : SqL K H a xs) : SqS K H a xs := by
  rcases h with (h | ⟨o, h⟩) | h
  · rcases hO a with z | ⟨o, ys, z⟩ <;> (rw [h] at z; cases z)
  · exact .inl ⟨o, h⟩
  · exact .inr fun H' => .inr h
theorem SqS.sql {K : PySem.W.Frag} {H : Hp} {a : Addr} {xs : List V} (h : SqS K H a xs) : SqL K H a xs := by
  rcases h with ⟨o, h⟩ | h
  · exact .inl (.inr ⟨o, h⟩)
  · exact h H
theorem SqS.same {K : PySem.W.Frag} {H H' : Hp} {a : Addr} {xs : List V} (k : Same H H') (h : SqS K H a xs) : SqS K H' a xs := by
  rcases h with ⟨o, h⟩ | h
  · exact .inl ⟨o, k _ _ h⟩
  · exact .inr h
theorem SqS.keep {K : PySem.W.Frag} {H H' : Hp} {a d : Addr} {xs ys : List V} (k : Keep d H H') (hd : H d = some (.lst ys)) (h : SqS K H a xs) : SqS K H' a xs := by
  rcases h with ⟨o, h⟩ | h
  · exact .inl ⟨o, k _ _ (ne_of h hd (by intro z; cases z)) h⟩
  · exact .inr h
structure DiceAt (K : PySem.W.Frag) (H : Hp) (d : Addr) : Prop where
  ex : ∃ (a : Addr) (ns : List Int) (i x c : Int), H d = some (.lst [.ref a, .int i, .int x, .int c]) ∧ SqS K H a (ns.map V.int) ∧ 0 ≤ i ∧ 0 ≤ x ∧ x < 2147483647
theorem DiceAt.same {K : PySem.W.Frag} {H H' : Hp} {d : Addr} (k : Same H H') (h : DiceAt K H d) : DiceAt K H' d := by
  obtain ⟨a, ns, i, x, c, h1, h2, h3, h4, h5⟩ := h.ex
  exact ⟨a, ns, i, x, c, k _ _ h1, h2.same k, h3, h4, h5⟩
section
variable {P : Program} {w : World} {K : PySem.W.Frag} {mg : Str → Option Value} {base : Heap}
def spDice (K : PySem.W.Frag) : Sp := fun vs H Q _ => ∃ (a : Addr) (ns : List Int), vs = [.ref a] ∧ SqS K H a (ns.map V.int) ∧ ∀ d H', H d = none → DiceAt K H' d → Same H H' → Q (.ref d) H'
def spNext (K : PySem.W.Frag) : Sp := fun vs H Q _ => ∃ (d : Addr) (m : Int), vs = [.ref d, .int m] ∧ DiceAt K H d ∧ 0 < m ∧ m.natAbs.log2 < 9000 ∧ ∀ r H', 0 ≤ r → r < m → DiceAt K H' d → Keep d H H' → Q (.int r) H'
theorem c_l_next (F : Def K mg "_law_next" s_l_next) (T : Fre mg) : Cal P w K mg base 1 "_law_next" ["_law_dice_here", "_law_many"] (spNext K) := by
  refine cal_of F sc_l_next b_l_next (fun vs H Q E h => ?_) (fun cdv A outer s H vs Q E hr h => ?_)
  · obtain ⟨d, m, rfl, _⟩ := h
    rfl
  · obtain ⟨d, m, rfl, D, hm, hl, q⟩ := h
    refine ⟨_, (pss_cons (ps_asg (pe_tup (pa_cons (pe_ix (ixL (K := K) rfl) (pv 0) pe_int (fun _ _ => rfl)) (pa_cons (pe_op o_fdiv (pe_ix (ixL (K := K) rfl) (pv 0) pe_int (fun _ _ => rfl)) (pv 1)) pa_nil))) (pg_tup (n := 2) rfl (pgs_cons (pg_name (i := 2) sc_l_next.nd rfl (loc_of rfl)) (pgs_cons (pg_sub (pv 0) pe_int set_list) pgs_nil))))
      (pss_cons (ps_if (pt_cmpR op_eq (pv 2) pe_int (nomark _)) (pss_cons (ps_asg (pe_tup (pa_cons (pe_op o_add (pe_ix (ixL (K := K) rfl) (pv 0) pe_int (fun _ _ => rfl)) pe_int) (pa_cons (pe_op o_mod (pe_op o_mul (pe_ix (ixL (K := K) rfl) (pv 0) pe_int (fun _ _ => rfl)) pe_int) pe_int) pa_nil))) (pg_tup (n := 2) rfl (pgs_cons (pg_sub (pv 0) pe_int set_list) (pgs_cons (pg_sub (pv 0) pe_int set_list) pgs_nil))))
      (pss_cons (ps_set (i := 2) sc_l_next.nd rfl (loc_of rfl) (pe_ifExp (pt_cmpR o_le (pe_ix (ixL (K := K) rfl) (pv 0) pe_int (fun _ _ => rfl)) (pe_callB (c_lenK (K := K) rfl) (by rfl) T.f_len (by decide +kernel) (pa_cons (pe_ix (ixL (K := K) rfl) (pv 0) pe_int (fun _ _ => rfl)) pa_nil)) (nomark _)) (pe_ix (ixL (K := K) rfl) (pe_ix (ixL (K := K) rfl) (pv 0) pe_int (fun _ _ => rfl)) (pe_op o_sub (pe_ix (ixL (K := K) rfl) (pv 0) pe_int (fun _ _ => rfl)) pe_int) (fun _ _ => rfl)) (pe_op o_fdiv (pe_op o_pow (pe_ix (ixL (K := K) rfl) (pv 0) pe_int (fun _ _ => rfl)) pe_int) pe_int)))
      (pss_one (ps_asg (pe_ifExp (pt_cmpR o_ge (pv 2) (pe_op o_pow pe_int pe_int) (nomark _)) (pe_op o_fdiv (pv 2) (pv 1)) pe_int) (pg_sub (pv 0) pe_int set_list))))) pss_nil)
      (pss_one (ps_ret (pe_op o_mod (pv 2) (pv 1)))))), ?_⟩
    refine w_start [some (.ref d), some (.int m), none] rfl ?_
    try dsimp only [cxOf]
    obtain ⟨a, ns, i, x, c, h1, h2, h3, h4, h5⟩ := D.ex
    walk_at "wp"
    refine w_fdiv ⟨by omega, hl⟩ ?_
    walk_at "wp"
    refine newT fun p H1 np e1 s1 => ?_
    walk_at "wp"
    refine w_setL (at_same s1 h1) rfl fun H2 e2 k2 => ?_
    walk_at "wp"
    have d1 : SqS K H1 a (ns.map V.int) := h2.same s1
    have d2 : SqS K H2 a (ns.map V.int) := d1.keep k2 (at_same s1 h1)
    refine w_dec (fun hc => ?_) (fun hc => ?_)
    · walk_at "wp"
      refine newT fun p3 H3 np3 e3 s3 => ?_
      walk_at "wp"
      refine w_setL (at_same s3 e2) rfl fun H4 e4 k4 => ?_
      walk_at "wp"
      refine w_setL e4 rfl fun H5 e5 k5 => ?_
      have d3 : SqS K H3 a (ns.map V.int) := d2.same s3
      have d4 : SqS K H4 a (ns.map V.int) := d3.keep k4 (at_same s3 e2)
      have d5 : SqS K H5 a (ns.map V.int) := d4.keep k5 e4
      have d5' := d5.sql
      have hx0 : 0 ≤ (x * 48271).fmod 2147483647 := by rw [Int.fmod_eq_emod_of_nonneg _ (by omega)]; exact Int.emod_nonneg _ (by omega)
      have hx1 : (x * 48271).fmod 2147483647 < 2147483647 := by rw [Int.fmod_eq_emod_of_nonneg _ (by omega)]; exact Int.emod_lt_of_pos _ (by omega)
      generalize (x * 48271).fmod 2147483647 = y at *
      walk_at "wp"
      have fin : ∀ (z : Int) (σ : L2.St), σ = [some (.ref d), some (.int m), some (.int z)] → tSeq (tAsg (tIf (tTest (tOp rGe (tVar 2) (tOp rPow (tC (V.int 10)) (tC (V.int 18))))) (tOp rFdiv (tVar 2) (tVar 1)) (tC (V.int 0))) (gSub (tVar 0) (tC (V.int 3)) rSetL)) (tRet (tOp rMod (tVar 2) (tVar 1))) { nx := fun _ H' => Q V.non H', rt := Q } σ H5 := by
        intro z σ es
        subst es
        have go : ∀ H6 c6, H6 d = some (.lst [.ref a, .int (i + 1), .int y, .int c6]) → Keep d H5 H6 → tRet (tOp rMod (tVar 2) (tVar 1)) { nx := fun _ H' => Q V.non H', rt := Q } [some (.ref d), some (.int m), some (.int z)] H6 := by
          intro H6 c6 e6 k6
          walk_at "wp"
          rw [Int.fmod_eq_emod_of_nonneg z (by omega)]
          exact q _ H6 (Int.emod_nonneg _ (by omega)) (Int.emod_lt_of_pos _ hm) ⟨a, ns, i + 1, y, _, e6, d5.keep k6 e5, by omega, hx0, hx1⟩ ((((s1.keep k2).same s3).trans k4).trans (k5.trans k6))
        walk_at "wp"
        refine w_dec (fun _ => ?_) (fun _ => ?_)
        · walk_at "wp"
          refine w_fdiv ⟨by omega, hl⟩ ?_
          walk_at "wp"
          exact w_setL e5 rfl fun H6 e6 k6 => go H6 _ e6 k6
        · walk_at "wp"
          exact w_setL e5 rfl fun H6 e6 k6 => go H6 _ e6 k6
      refine w_dec (fun hi => ?_) (fun hi => ?_)
      · rw [List.length_map] at hi
        walk_at "wp"
        obtain ⟨z, _, ez⟩ := atI_ints (ns := ns) (z := i + 1 - 1) (by omega) (by omega)
        exact w_ixL d5' ez (fin z _ rfl)
      · repeat (first | exact fin _ _ rfl | walk_at "wp1")
    · walk_at "wp"
      rw [Int.fmod_eq_emod_of_nonneg c (by omega)]
      exact q _ H2 (Int.emod_nonneg _ (by omega)) (Int.emod_lt_of_pos _ hm) ⟨a, ns, i, x, _, e2, d2, h3, h4, h5⟩ (s1.keep k2)
theorem c_l_dice (F : Def K mg "_law_dice" s_l_dice) (T : Fre mg) : Cal P w K mg base 1 "_law_dice" ["_law_script"] (spDice K) := by
  refine cal_of F sc_l_dice b_l_dice (fun vs H Q E h => ?_) (fun cdv A outer s H vs Q E hr h => ?_)
  · obtain ⟨a, ns, rfl, _⟩ := h
    rfl
  · obtain ⟨a, ns, rfl, hS', q⟩ := h
    have hS := hS'.sql
    have po := passes_of (X := cxOf (L2.CX P w) P w K mg base ["_law_script", "_law_mixed", "_law_cell"] "_law_dice" (defScope s_l_dice) (He.ga K "_law_dice") cdv A outer s H E) rfl
    refine ⟨_, (pss_cons (ps_set (i := 1) sc_l_dice.nd rfl (loc_of rfl) pe_int)
      (pss_cons (ps_for po rfl (pi_list (pv 0)) (pg_name (i := 2) sc_l_dice.nd rfl (loc_of rfl)) (pss_one (ps_set (i := 1) sc_l_dice.nd rfl (loc_of rfl) (pe_op o_mod (pe_op o_add (pe_op o_add (pe_op o_mul (pv 1) pe_int) (pe_op o_mul (pe_op o_mod (pv 2) pe_int) pe_int)) pe_int) pe_int))))
      (pss_one (ps_ret (pe_lst (pa_cons (pv 0) (pa_cons pe_int (pa_cons (pe_op o_mul (pv 1) (pe_callTy c_intB (by rfl) T.f_int (by decide +kernel) (pa_cons (pe_cmpR o_gt (pe_callB (c_lenK (K := K) rfl) (by rfl) T.f_len (by decide +kernel) (pa_cons (pv 0) pa_nil)) pe_int (nomark _)) pa_nil))) (pa_cons pe_int pa_nil))))))))), ?_⟩
    refine w_start [some (.ref a), none, none] rfl ?_
    try dsimp only [cxOf]
    walk_at "wp"
    refine forL hS (fun i σ H' => ∃ x y, σ = [some (.ref a), some (.int x), y] ∧ 0 ≤ x ∧ x < 2147483647 ∧ H' = H) ⟨0, none, rfl, by omega, by omega, rfl⟩ (fun i σ H' _ h => ?_) (fun i v σ H' hv h => ?_) (fun σ H' h => ?_)
    · obtain ⟨x, y, rfl, _, _, rfl⟩ := h
      exact hS
    · obtain ⟨x, y, rfl, h0, h1, rfl⟩ := h
      obtain ⟨z, rfl⟩ : ∃ z, v = V.int z := by
        rw [List.getElem?_map] at hv
        cases e : ns[i]? with
        | none => rw [e] at hv; cases hv
        | some z => rw [e] at hv; exact ⟨z, (Option.some.inj hv).symm⟩
      have hz0 : 0 ≤ z.fmod 2147483647 := by rw [Int.fmod_eq_emod_of_nonneg _ (by omega)]; exact Int.emod_nonneg _ (by omega)
      have hz1 : z.fmod 2147483647 < 2147483647 := by rw [Int.fmod_eq_emod_of_nonneg _ (by omega)]; exact Int.emod_lt_of_pos _ (by omega)
      walk_at "wp"
      refine ⟨_, _, rfl, ?_, ?_, rfl⟩
      · rw [Int.fmod_eq_emod_of_nonneg _ (by omega)]; exact Int.emod_nonneg _ (by omega)
      · rw [Int.fmod_eq_emod_of_nonneg _ (by omega)]; exact Int.emod_lt_of_pos _ (by omega)
    · obtain ⟨x, y, rfl, h0, h1, rfl⟩ := h
      walk_at "wp"
      have hb : (if decide (2 < ((ns.map V.int).length : Int)) = true then (1 : Int) else 0) = 0 ∨ (if decide (2 < ((ns.map V.int).length : Int)) = true then (1 : Int) else 0) = 1 := by
        split
        · exact .inr rfl
        · exact .inl rfl
      generalize (if decide (2 < ((ns.map V.int).length : Int)) = true then (1 : Int) else 0) = k at *
      have hk : 0 ≤ x * k ∧ x * k < 2147483647 := by
        rcases hb with rfl | rfl
        · rw [Int.mul_zero]; omega
        · rw [Int.mul_one]; omega
      refine newL fun d H1 nd e1 s1 => ?_
      exact q d H1 nd ⟨a, ns, 0, x * k, 0, e1, hS'.same s1, by omega, hk.1, hk.2⟩ s1
end
end Lw

namespace Lw
open PySem PySem.Spec PyProof.Rows L2 Fw
local macro_rules | `(tactic| walk_at "cond") => `(tactic| first | assumption | (with_reducible exact cdiv_small (by omega) (by omega)) | (with_reducible exact cmul_small (by omega) (by omega)) | (with_reducible exact cpow_mk (by omega) (by omega) (by omega)) | omega)
local macro_rules | `(tactic| walk_at "ne") => `(tactic| first | assumption | exact Ne.symm (by assumption) | exact ne_of_none (by assumption) (by assumption) | exact Ne.symm (ne_of_none (by assumption) (by assumption)))
local macro_rules | `(tactic| walk_at "at") => `(tactic| first
  | assumption
  | (with_reducible exact upd_same)
  | ((with_reducible refine' at_same ?hk ?hh); (case hk => assumption); (case hh => walk_at "at"))
  | ((with_reducible refine' at_keepT ?hk ?hh ?hd); (case hk => assumption); (case hh => walk_at "at"); (case hd => walk_at "at"))
  | ((with_reducible refine' at_keep ?hk ?hh ?hn); (case hk => assumption); (case hh => walk_at "at"); (case hn => walk_at "ne")))
local macro_rules | `(tactic| walk_at "hp") => `(tactic| first
  | assumption
  | ((with_reducible refine' SqT.of ?hq); (case hq => walk_at "at")) | ((with_reducible refine' SqL.of ?hq); (case hq => walk_at "at"))
  | ((with_reducible refine' sql_same ?hk ?hh); (case hk => assumption); (case hh => walk_at "hp"))
  | ((with_reducible refine' sql_keep ?hk ?hh ?hn); (case hk => assumption); (case hh => walk_at "hp"); (case hn => walk_at "ne"))
  | ((with_reducible refine' sqt_same ?hk ?hh); (case hk => assumption); (case hh => walk_at "hp")))
local macro_rules | `(tactic| walk_at "wp1") => `(tactic| first
  | with_reducible refine w_seq ?_ | with_reducible refine w_set ?_ | with_reducible refine w_drop ?_ | with_reducible refine w_ret ?_ | with_reducible refine w_ifS ?_ | with_reducible refine w_next ?_
  | ((with_reducible refine' w_var ?hv ?_); (case hv => rfl)) | with_reducible refine w_c ?_
  | with_reducible refine w_op ?_ | with_reducible refine w_un ?_ | with_reducible refine w_cb ?_ | with_reducible refine w_cal ?_ | with_reducible refine w_cons ?_ | with_reducible refine w_nil ?_
  | with_reducible refine w_plus ?_ | with_reducible refine w_minus ?_ | with_reducible refine w_lt ?_ | with_reducible refine w_le ?_ | with_reducible refine w_gt ?_ | with_reducible refine w_ge ?_
  | with_reducible refine w_eqI ?_ | with_reducible refine w_neI ?_ | with_reducible refine w_eqB ?_ | with_reducible refine w_neB ?_ | with_reducible refine w_eqS ?_ | with_reducible refine w_neS ?_
  | with_reducible refine w_neg ?_ | with_reducible refine w_abs ?_ | with_reducible refine w_intB ?_ | with_reducible refine w_test ?_ | with_reducible refine w_tB ?_ | with_reducible refine w_bl ?_
  | with_reducible refine w_and ?_ | with_reducible refine w_or ?_ | with_reducible refine w_not ?_ | with_reducible refine w_andV ?_ | with_reducible refine w_orV ?_ | with_reducible refine w_notV ?_ | with_reducible refine w_ifE ?_
  | with_reducible refine w_nyes ?_ | with_reducible refine w_nno ?_ | with_reducible refine w_yes ?_ | with_reducible refine w_no ?_
  | ((with_reducible refine' w_ixL ?ha ?hb ?_); (case ha => walk_at "hp"); (case hb => rfl)) | ((with_reducible refine' w_ixT ?ha ?hb ?_); (case ha => walk_at "hp"); (case hb => rfl))
  | ((with_reducible refine' w_lenL ?ha ?_); (case ha => walk_at "hp")) | ((with_reducible refine' w_lenT ?ha ?_); (case ha => walk_at "hp"))
  | with_reducible refine w_min2 ?_ | with_reducible refine w_max2 ?_ | with_reducible refine w_bm ?_ | with_reducible refine w_lc ?_ | ((with_reducible refine' w_tyL ?ha ?_); (case ha => walk_at "at"))
  | with_reducible refine isi_ii ?_ | with_reducible refine isi_ib ?_ | with_reducible refine isi_bb ?_ | with_reducible refine isi_ss ?_
  | ((with_reducible refine' isi_tt ?ha ?_); (case ha => walk_at "at")) | ((with_reducible refine' isi_ll ?ha ?_); (case ha => walk_at "at"))
  | with_reducible refine w_par ?_ | with_reducible refine w_par2 ?_ | with_reducible refine w_for ?_ | with_reducible refine w_iL ?_ | with_reducible refine w_iT ?_ | with_reducible refine w_iR1 ?_ | with_reducible refine w_iR2 ?_
  | with_reducible refine w_tup ?_ | with_reducible refine w_lst ?_
  | with_reducible refine w_asg ?_ | with_reducible refine w_gname ?_ | with_reducible refine w_gcons ?_ | with_reducible refine w_gnil ?_ | with_reducible refine w_gsub ?_
  | ((with_reducible refine' w_gtup ?ha ?hb ?_); (case ha => walk_at "hp"); (case hb => rfl))
  | ((with_reducible refine' w_fdiv ?hc ?_); (case hc => walk_at "cond")) | ((with_reducible refine' w_mul ?hc ?_); (case hc => walk_at "cond"))
  | ((with_reducible refine' w_mod ?hc ?_); (case hc => walk_at "cond")) | ((with_reducible refine' w_pow ?hc ?_); (case hc => walk_at "cond")))
local macro_rules | `(tactic| walk_at "wp") => `(tactic| repeat walk_at "wp1")

section
variable {P : Program} {w : World} {K : PySem.W.Frag} {mg : Str → Option Value} {base : Heap}
/-! ### rows and tables of prices -/
def RowAt (H : Hp) (r : Addr) (e : Nat → Int × Int) (n : Nat) : Prop := ∃ ps : List Addr, H r = some (.lst (ps.map V.ref)) ∧ ps.length = n ∧ ∀ i p, ps[i]? = some p → H p = some (.tup [.int (e i).1, .int (e i).2])
theorem RowAt.same {H H' : Hp} {r : Addr} {e : Nat → Int × Int} {n : Nat} (k : Same H H') (h : RowAt H r e n) : RowAt H' r e n := by
  obtain ⟨ps, h1, h2, h3⟩ := h
  exact ⟨ps, k _ _ h1, h2, fun i p hp => k _ _ (h3 i p hp)⟩
theorem RowAt.keep {H H' : Hp} {r d : Addr} {e : Nat → Int × Int} {n : Nat} {ys : List V} (k : Keep d H H') (hd : H d = some (.lst ys)) (ne : r ≠ d) (h : RowAt H r e n) : RowAt H' r e n := by
  obtain ⟨ps, h1, h2, h3⟩ := h
  exact ⟨ps, k _ _ ne h1, h2, fun i p hp => at_keepT k (h3 i p hp) hd⟩
theorem RowAt.push {H H' : Hp} {r p : Addr} {e : Nat → Int × Int} {n : Nat} {xs : List V} (h : RowAt H r e n) (hx : H r = some (.lst xs)) (h1 : H' r = some (.lst (xs ++ [.ref p]))) (k : Keep r H H') (hp : H p = some (.tup [.int (e n).1, .int (e n).2])) : RowAt H' r e (n + 1) := by
  obtain ⟨ps, g1, g2, g3⟩ := h
  have ex : xs = ps.map V.ref := by
    rw [hx] at g1
    injection g1 with g1
    injection g1
  subst ex
  refine ⟨ps ++ [p], ?_, by rw [List.length_append, g2]; rfl, fun i q hq => ?_⟩
  · rw [h1, List.map_append]
    rfl
  · by_cases hi : i < ps.length
    · rw [List.getElem?_append_left hi] at hq
      exact at_keepT k (g3 i q hq) hx
    · rw [List.getElem?_append_right (by omega)] at hq
      have hi2 : i - ps.length < 1 := by
        have := (List.getElem?_eq_some_iff.mp hq).1
        simpa using this
      have ei : i = n := by omega
      have e0 : i - ps.length = 0 := by omega
      rw [e0] at hq
      have eq : p = q := by simpa using hq
      subst eq
      rw [ei]
      exact at_keepT k hp hx
theorem RowAt.at {H : Hp} {r : Addr} {e : Nat → Int × Int} {n : Nat} (h : RowAt H r e n) {z : Int} {i : Nat} (hz : z = (i : Int)) (hi : i < n) : ∃ p xs, H r = some (.lst xs) ∧ atI xs z = some (.ref p) ∧ H p = some (.tup [.int (e i).1, .int (e i).2]) := by
  obtain ⟨ps, h1, h2, h3⟩ := h
  have hp : i < ps.length := by omega
  refine ⟨ps[i], _, h1, at_of hz ?_, h3 i _ (List.getElem?_eq_getElem hp)⟩
  rw [List.getElem?_map, List.getElem?_eq_getElem hp]
  rfl
theorem RowAt.lst {H : Hp} {r : Addr} {e : Nat → Int × Int} {n : Nat} (h : RowAt H r e n) : ∃ xs : List V, H r = some (.lst xs) ∧ xs.length = n := by
  obtain ⟨ps, h1, h2, h3⟩ := h
  exact ⟨_, h1, by rw [List.length_map, h2]⟩
def TabAt (H : Hp) (t : Addr) (np n : Nat) : Prop := ∃ rs : List Addr, H t = some (.lst (rs.map V.ref)) ∧ rs.length = np ∧ ∀ i r, rs[i]? = some r → r ≠ t ∧ RowAt H r (Prc.E i) n
theorem TabAt.same {H H' : Hp} {t : Addr} {np n : Nat} (k : Same H H') (h : TabAt H t np n) : TabAt H' t np n := by
  obtain ⟨rs, h1, h2, h3⟩ := h
  exact ⟨rs, k _ _ h1, h2, fun i p hp => ⟨(h3 i p hp).1, (h3 i p hp).2.same k⟩⟩
theorem TabAt.lst {H : Hp} {t : Addr} {np n : Nat} (h : TabAt H t np n) : ∃ xs : List V, H t = some (.lst xs) ∧ xs.length = np := by
  obtain ⟨rs, h1, h2, h3⟩ := h
  exact ⟨_, h1, by rw [List.length_map, h2]⟩
theorem TabAt.push {H H' : Hp} {t r : Addr} {np n : Nat} {xs : List V} (h : TabAt H t np n) (hx : H t = some (.lst xs)) (h1 : H' t = some (.lst (xs ++ [.ref r]))) (k : Keep t H H') (hr : RowAt H r (Prc.E np) n) (ne : r ≠ t) : TabAt H' t (np + 1) n := by
  obtain ⟨rs, g1, g2, g3⟩ := h
  have ex : xs = rs.map V.ref := by
    rw [hx] at g1
    injection g1 with g1
    injection g1
  subst ex
  refine ⟨rs ++ [r], ?_, by rw [List.length_append, g2]; rfl, fun i q hq => ?_⟩
  · rw [h1, List.map_append]
    rfl
  · by_cases hi : i < rs.length
    · rw [List.getElem?_append_left hi] at hq
      obtain ⟨a, b⟩ := g3 i q hq
      exact ⟨a, b.keep k hx a⟩
    · rw [List.getElem?_append_right (by omega)] at hq
      have hi2 : i - rs.length < 1 := by
        have := (List.getElem?_eq_some_iff.mp hq).1
        simpa using this
      have ei : i = np := by omega
      have e0 : i - rs.length = 0 := by omega
      rw [e0] at hq
      have eq : r = q := by simpa using hq
      subst eq
      rw [ei]
      exact ⟨ne, hr.keep k hx ne⟩
theorem TabAt.at {H : Hp} {t : Addr} {np n : Nat} (h : TabAt H t np n) {z : Int} {i : Nat} (hz : z = (i : Int)) (hi : i < np) : ∃ r xs, H t = some (.lst xs) ∧ atI xs z = some (.ref r) ∧ RowAt H r (Prc.E i) n := by
  obtain ⟨ps, h1, h2, h3⟩ := h
  have hp : i < ps.length := by omega
  refine ⟨ps[i], _, h1, at_of hz ?_, (h3 i _ (List.getElem?_eq_getElem hp)).2⟩
  rw [List.getElem?_map, List.getElem?_eq_getElem hp]
  rfl
/-! ### cheapest, prices, price -/
def spCheap : Sp := fun vs H Q _ => ∃ (fw rw : Addr) (m p nf : Nat), vs = [.ref fw, .ref rw, .int (m : Int)] ∧ 2 ≤ m ∧ m ≤ 1000 ∧ RowAt H fw (Prc.E p) nf ∧ m ≤ nf ∧ RowAt H rw (Prc.E (p + 1)) m ∧
  ∀ t H', H t = none → H' t = some (.tup [.int (Prc.E (p + 1) m).1, .int (Prc.E (p + 1) m).2]) → Same H H' → Q (.ref t) H'
theorem c_cheapest (F : Def K mg "cheapest" s_cheapest) (T : Fre mg) : Cal P w K mg base 1 "cheapest" ["fewer", "row", "many"] spCheap := by
  refine cal_of F sc_cheapest b_cheapest (fun vs H Q E h => ?_) (fun cdv A outer s H vs Q E hr h => ?_)
  · obtain ⟨_, _, _, _, _, rfl, _⟩ := h
    rfl
  · obtain ⟨fw, rw', m, p, nf, rfl, hm, hm2, hf, hnf, hw, q⟩ := h
    have po := passes_of (X := cxOf (L2.CX P w) P w K mg base ["fewer", "row", "many", "best", "at", "price"] "cheapest" (defScope s_cheapest) (He.ga K "cheapest") cdv A outer s H E) rfl
    refine ⟨_, (pss_cons (ps_set (i := 3) sc_cheapest.nd rfl (loc_of rfl) (pe_tup (pa_cons (pe_op o_add pe_int (pe_ix (ixT (K := K) rfl) (pe_ix (ixL (K := K) rfl) (pv 0) (pe_op o_sub (pv 2) pe_int) (fun _ _ => rfl)) pe_int (fun _ _ => rfl))) (pa_cons pe_int pa_nil))))
      (pss_cons (ps_for po rfl (pi_range2 (by rfl) T.f_range (pa_cons pe_int (pa_cons (pv 2) pa_nil))) (pg_name (i := 4) sc_cheapest.nd rfl (loc_of rfl)) (pss_cons (ps_set (i := 5) sc_cheapest.nd rfl (loc_of rfl) (pe_op o_add (pe_op o_add (pv 4) (pe_ix (ixT (K := K) rfl) (pe_ix (ixL (K := K) rfl) (pv 0) (pe_op o_sub (pv 2) (pv 4)) (fun _ _ => rfl)) pe_int (fun _ _ => rfl))) (pe_ix (ixT (K := K) rfl) (pe_ix (ixL (K := K) rfl) (pv 1) (pv 4) (fun _ _ => rfl)) pe_int (fun _ _ => rfl))))
      (pss_one (ps_if (pt_cmpR o_lt (pv 5) (pe_ix (ixT (K := K) rfl) (pv 3) pe_int (fun _ _ => rfl)) (nomark _)) (pss_one (ps_set (i := 3) sc_cheapest.nd rfl (loc_of rfl) (pe_tup (pa_cons (pv 5) (pa_cons (pv 4) pa_nil))))) pss_nil))))
      (pss_one (ps_ret (pv 3))))), ?_⟩
    refine w_start [some (.ref fw), some (.ref rw'), some (.int m), none, none, none] rfl ?_
    try dsimp only [cxOf]
    walk_at "wp"
    obtain ⟨a1, xs1, x1, x2, x3⟩ := hf.at (z := (m : Int) - 1) (i := m - 1) (by omega) (by omega)
    refine w_ixL (SqL.of x1) x2 ?_
    walk_at "wp"
    refine newT fun t H1 nt e1 s1 => ?_
    walk_at "wp"
    refine forR2 (by omega) (by omega) (fun i σ H' => ∃ t y4 y5, σ = [some (.ref fw), some (.ref rw'), some (.int m), some (.ref t), y4, y5] ∧ H t = none ∧ H' t = some (.tup [.int (Prc.bst (Prc.V p) (Prc.V (p + 1)) m i).1, .int (Prc.bst (Prc.V p) (Prc.V (p + 1)) m i).2]) ∧ Same H H')
      ⟨t, none, none, rfl, nt, e1, s1⟩ (fun i σ H' hi h => ?_) (fun σ H' h => ?_)
    · obtain ⟨t, y4, y5, rfl, nt, et, st⟩ := h
      walk_at "wp"
      obtain ⟨a2, xs2, z1, z2, z3⟩ := (hf.same st).at (z := (m : Int) - (2 + (i : Int))) (i := m - (i + 2)) (by omega) (by omega)
      refine w_ixL (SqL.of z1) z2 ?_
      walk_at "wp"
      obtain ⟨a3, xs3, v1, v2, v3⟩ := (hw.same st).at (z := 2 + (i : Int)) (i := i + 2) (by omega) (by omega)
      refine w_ixL (SqL.of v1) v2 ?_
      walk_at "wp"
      have ec : 2 + (i : Int) + (Prc.E p (m - (i + 2))).1 + (Prc.E (p + 1) (i + 2)).1 = (i : Int) + 2 + Prc.V p (m - (i + 2)) + Prc.V (p + 1) (i + 2) := by
        show 2 + (i : Int) + Prc.V p (m - (i + 2)) + Prc.V (p + 1) (i + 2) = _
        omega
      refine w_dec (fun hc => ?_) (fun hc => ?_)
      · walk_at "wp"
        refine newT fun t2 H2 nt2 e2 s2 => ?_
        walk_at "wp"
        rw [ec] at hc e2
        refine ⟨t2, _, _, rfl, st.free nt2, ?_, st.trans s2⟩
        rw [e2, Prc.bst, if_pos hc]
        have : 2 + (i : Int) = (i : Int) + 2 := Int.add_comm _ _
        rw [this]
      · walk_at "wp"
        rw [ec] at hc
        refine ⟨t, _, _, rfl, nt, ?_, st⟩
        rw [et, Prc.bst, if_neg hc]
    · obtain ⟨t, y4, y5, rfl, nt, et, st⟩ := h
      walk_at "wp"
      refine q t H' nt ?_ st
      have : ((m : Int) - 2).toNat = m - 2 := by omega
      rw [this] at et
      rw [et, Prc.E_succ hm]
def spPrices : Sp := fun vs H Q _ => ∃ (n p : Nat), vs = [.int (n : Int), .int (p : Int)] ∧ n ≤ 900 ∧ p ≤ 900 ∧ ∀ t H', H t = none → TabAt H' t (p + 1) (max (n + 1) 2) → Same H H' → Q (.ref t) H'
theorem c_prices (F : Def K mg "prices" s_prices) (T : Fre mg) (c_cheapest : Cal P w K mg base 1 "cheapest" ["fewer", "row", "many"] spCheap) : Cal P w K mg base 2 "prices" ["steps", "places"] spPrices := by
  refine cal_of F sc_prices b_prices (fun vs H Q E h => ?_) (fun cdv A outer s H vs Q E hr h => ?_)
  · obtain ⟨_, _, rfl, _⟩ := h
    rfl
  · obtain ⟨n, p, rfl, hn, hp, q⟩ := h
    have po := passes_of (X := cxOf (L2.CX P w) P w K mg base ["steps", "places", "table", "place", "row", "many"] "prices" (defScope s_prices) (He.ga K "prices") cdv A outer s H E) rfl
    have pc := passes_call (X := cxOf (L2.CX P w) P w K mg base ["steps", "places", "table", "place", "row", "many"] "prices" (defScope s_prices) (He.ga K "prices") cdv A outer s H E) (E := E) (takes_of rfl rfl rfl rfl) (fun _ _ _ _ h => h)
    refine ⟨_, (pss_cons (ps_set (i := 2) sc_prices.nd rfl (loc_of rfl) (pe_lst pa_nil))
      (pss_cons (ps_for po rfl (pi_range1 (by rfl) T.f_range (pa_cons (pe_op o_add (pv 1) pe_int) pa_nil)) (pg_name (i := 3) sc_prices.nd rfl (loc_of rfl)) (pss_cons (ps_set (i := 4) sc_prices.nd rfl (loc_of rfl) (pe_lst (pa_cons (pe_tup (pa_cons pe_int (pa_cons pe_int pa_nil))) (pa_cons (pe_tup (pa_cons pe_int (pa_cons pe_int pa_nil))) pa_nil))))
      (pss_cons (ps_for po rfl (pi_range2 (by rfl) T.f_range (pa_cons pe_int (pa_cons (pe_op o_add (pv 0) pe_int) pa_nil))) (pg_name (i := 5) sc_prices.nd rfl (loc_of rfl)) (pss_one (ps_if (pt_cmpR op_eq (pv 3) pe_int (nomark _)) (pss_one (ps_expr (pe_bm PySem.F.plainAttrs_list PySem.F.slot_list_append PySem.F.type_list_append mt_append (pv 4) (pa_cons (pe_tup (pa_cons (pe_op o_fdiv (pe_op o_mul (pv 5) (pe_op o_sub (pv 5) pe_int)) pe_int) (pa_cons pe_int pa_nil))) pa_nil)))) (pss_one (ps_expr (pe_bm PySem.F.plainAttrs_list PySem.F.slot_list_append PySem.F.type_list_append mt_append (pv 4) (pa_cons (pe_cal c_cheapest hr (by omega) pc (pa_cons (pe_ix (ixL (K := K) rfl) (pv 2) (pe_op o_sub (pv 3) pe_int) (fun _ _ => rfl)) (pa_cons (pv 4) (pa_cons (pv 5) pa_nil)))) pa_nil)))))))
      (pss_one (ps_expr (pe_bm PySem.F.plainAttrs_list PySem.F.slot_list_append PySem.F.type_list_append mt_append (pv 2) (pa_cons (pv 4) pa_nil)))))))
      (pss_one (ps_ret (pv 2))))), ?_⟩
    refine w_start [some (.int n), some (.int p), none, none, none, none] rfl ?_
    try dsimp only [cxOf]
    walk_at "wp"
    refine newL fun t H1 nt e1 s1 => ?_
    walk_at "wp"
    refine forR1 (by omega) (by omega) (fun i σ H' => ∃ y3 y4 y5, σ = [some (.int n), some (.int p), some (.ref t), y3, y4, y5] ∧ TabAt H' t i (max (n + 1) 2) ∧ Same H H')
      ⟨none, none, none, rfl, ⟨[], e1, rfl, fun i r h => by simp at h⟩, s1⟩ (fun i σ H0 hi h => ?_) (fun σ H' h => ?_)
    · obtain ⟨y3, y4, y5, rfl, ht, st⟩ := h
      walk_at "wp"
      refine newT fun p1 G1 np1 f1 u1 => ?_
      walk_at "wp"
      refine newT fun p2 G2 np2 f2 u2 => ?_
      walk_at "wp"
      refine newL fun r G3 nr f3 u3 => ?_
      have s3 : Same H0 G3 := (u1.trans u2).trans u3
      have nr0 : H0 r = none := (u1.trans u2).free nr
      have hE : ∀ k, k < 2 → Prc.E i k = (0, 0) := fun k hk => by
        cases i with
        | zero =>
          have : k = 0 ∨ k = 1 := by omega
          rcases this with rfl | rfl
          · rw [Prc.E_zero]; rfl
          · rw [Prc.E_zero]; rfl
        | succ i => exact Prc.E_small hk
      have hR : RowAt G3 r (Prc.E i) 2 := ⟨[p1, p2], f3, rfl, fun k a ha => by
        have hk : k < 2 := (List.getElem?_eq_some_iff.mp ha).1
        rw [hE k hk]
        have hk2 : k = 0 ∨ k = 1 := by omega
        rcases hk2 with rfl | rfl
        · have e : p1 = a := by simpa using ha
          subst e
          exact u3 _ _ (u2 _ _ f1)
        · have e : p2 = a := by simpa using ha
          subst e
          exact u3 _ _ f2⟩
      walk_at "wp"
      refine forR2 (by omega) (by omega) (fun j σ H' => ∃ y5, σ = [some (.int n), some (.int p), some (.ref t), some (.int i), some (.ref r), y5] ∧ RowAt H' r (Prc.E i) (2 + j) ∧ Same H0 H')
        ⟨y5, rfl, hR, s3⟩ (fun j σ H' hj h => ?_) (fun σ H' h => ?_)
      · obtain ⟨y5, rfl, hR', s'⟩ := h
        obtain ⟨xs, hx, hxl⟩ := hR'.lst
        walk_at "wp"
        refine w_dec (fun hi0 => ?_) (fun hi0 => ?_)
        · have hi0' : i = 0 := by omega
          subst hi0'
          walk_at "wp"
          refine newT fun c C1 nc ec sc => ?_
          walk_at "wp"
          refine w_app (at_same sc hx) (by omega) fun C2 eC kC => ?_
          refine ⟨_, rfl, (hR'.same sc).push (at_same sc hx) eC kC ?_, Keep.toSame (s'.trans sc) kC nr0⟩
          rw [ec, Prc.E_zero]
          have e2 : ((2 + j : Nat) : Int) = 2 + (j : Int) := by omega
          rw [e2]
        · walk_at "wp"
          obtain ⟨rf, xf, w1, w2, w3⟩ := (ht.same s').at (z := (i : Int) - 1) (i := i - 1) (by omega) (by omega)
          refine w_ixL (SqL.of w1) w2 ?_
          walk_at "wp"
          obtain ⟨i', rfl⟩ : ∃ i', i = i' + 1 := ⟨i - 1, by omega⟩
          refine ⟨rf, r, 2 + j, i', max (n + 1) 2, by congr 3, by omega, by omega, w3, by omega, hR', fun c C1 nc ec sc => ?_⟩
          walk_at "wp"
          refine w_app (at_same sc hx) (by omega) fun C2 eC kC => ?_
          exact ⟨_, rfl, (hR'.same sc).push (at_same sc hx) eC kC ec, Keep.toSame (s'.trans sc) kC nr0⟩
      · obtain ⟨y5, rfl, hR', s'⟩ := h
        have e2 : 2 + ((n : Int) + 1 - 2).toNat = max (n + 1) 2 := by omega
        rw [e2] at hR'
        obtain ⟨xs, hx, hxl⟩ := (ht.same s').lst
        walk_at "wp"
        refine w_app hx (by omega) fun C2 eC kC => ?_
        have net : r ≠ t := by
          obtain ⟨ys, hy, _⟩ := ht.lst
          exact (ne_of_none hy nr0).symm
        exact ⟨_, _, _, rfl, (ht.same s').push hx eC kC hR' net, Keep.toSame (st.trans s') kC nt⟩
    · obtain ⟨y3, y4, y5, rfl, ht, st⟩ := h
      walk_at "wp"
      have e2 : ((p : Int) + 1).toNat = p + 1 := by omega
      rw [e2] at ht
      exact q t H' nt ht st
def spPrice : Sp := fun vs H Q _ => ∃ (n p : Nat), vs = [.int (n : Int), .int (p : Int)] ∧ n ≤ 900 ∧ p ≤ 900 ∧ ∀ H', Same H H' → Q (.int (Prc.V p n)) H'
theorem c_price (F : Def K mg "price" s_price) (T : Fre mg) (c_prices : Cal P w K mg base 2 "prices" ["steps", "places"] spPrices) : Cal P w K mg base 3 "price" ["steps", "places"] spPrice := by
  refine cal_of F sc_price b_price (fun vs H Q E h => ?_) (fun cdv A outer s H vs Q E hr h => ?_)
  · obtain ⟨_, _, rfl, _⟩ := h
    rfl
  · obtain ⟨n, p, rfl, hn, hp, q⟩ := h
    have pc := passes_call (X := cxOf (L2.CX P w) P w K mg base ["steps", "places"] "price" (defScope s_price) (He.ga K "price") cdv A outer s H E) (E := E) (takes_of rfl rfl rfl rfl) (fun _ _ _ _ h => h)
    refine ⟨_, (pss_one (ps_ret (pe_ix (ixT (K := K) rfl) (pe_ix (ixL (K := K) rfl) (pe_ix (ixL (K := K) rfl) (pe_cal c_prices hr (by omega) pc (pa_cons (pv 0) (pa_cons (pv 1) pa_nil))) (pv 1) (fun _ _ => rfl)) (pv 0) (fun _ _ => rfl)) pe_int (fun _ _ => rfl)))), ?_⟩
    refine w_start [some (.int n), some (.int p)] rfl ?_
    try dsimp only [cxOf]
    walk_at "wp"
    refine ⟨n, p, rfl, hn, hp, fun t H1 nt ht s1 => ?_⟩
    walk_at "wp"
    obtain ⟨r, xs, h1, h2, h3⟩ := ht.at (z := (p : Int)) (i := p) rfl (by omega)
    refine w_ixL (SqL.of h1) h2 ?_
    walk_at "wp"
    obtain ⟨a, ys, g1, g2, g3⟩ := h3.at (z := (n : Int)) (i := n) rfl (by omega)
    refine w_ixL (SqL.of g1) g2 ?_
    walk_at "wp"
    exact q H1 s1
end
end Lw

namespace Lw
open PySem PySem.Spec PyProof.Rows L2 Fw
local macro_rules | `(tactic| walk_at "cond") => `(tactic| first | assumption | (with_reducible exact cdiv_small (by omega) (by omega)) | (with_reducible exact cmul_small (by omega) (by omega)) | (with_reducible exact cpow_mk (by omega) (by omega) (by omega)) | omega)
local macro_rules | `(tactic| walk_at "ne") => `(tactic| first | assumption | exact Ne.symm (by assumption) | exact ne_of_none (by assumption) (by assumption) | exact Ne.symm (ne_of_none (by assumption) (by assumption)))
local macro_rules | `(tactic| walk_at "at") => `(tactic| first
  | assumption
  | (with_reducible exact upd_same)
  | ((with_reducible refine' at_same ?hk ?hh); (case hk => assumption); (case hh => walk_at "at"))
  | ((with_reducible refine' at_keepT ?hk ?hh ?hd); (case hk => assumption); (case hh => walk_at "at"); (case hd => walk_at "at"))
  | ((with_reducible refine' at_keep ?hk ?hh ?hn); (case hk => assumption); (case hh => walk_at "at"); (case hn => walk_at "ne")))
local macro_rules | `(tactic| walk_at "hp") => `(tactic| first
  | assumption
  | ((with_reducible refine' SqT.of ?hq); (case hq => walk_at "at")) | ((with_reducible refine' SqL.of ?hq); (case hq => walk_at "at"))
  | ((with_reducible refine' sql_same ?hk ?hh); (case hk => assumption); (case hh => walk_at "hp"))
  | ((with_reducible refine' sql_keep ?hk ?hh ?hn); (case hk => assumption); (case hh => walk_at "hp"); (case hn => walk_at "ne"))
  | ((with_reducible refine' sqt_same ?hk ?hh); (case hk => assumption); (case hh => walk_at "hp")))
local macro_rules | `(tactic| walk_at "wp1") => `(tactic| first
  | with_reducible refine w_seq ?_ | with_reducible refine w_set ?_ | with_reducible refine w_drop ?_ | with_reducible refine w_ret ?_ | with_reducible refine w_ifS ?_ | with_reducible refine w_next ?_
  | ((with_reducible refine' w_var ?hv ?_); (case hv => rfl)) | with_reducible refine w_c ?_
  | with_reducible refine w_op ?_ | with_reducible refine w_un ?_ | with_reducible refine w_cb ?_ | with_reducible refine w_cal ?_ | with_reducible refine w_cons ?_ | with_reducible refine w_nil ?_
  | with_reducible refine w_plus ?_ | with_reducible refine w_minus ?_ | with_reducible refine w_lt ?_ | with_reducible refine w_le ?_ | with_reducible refine w_gt ?_ | with_reducible refine w_ge ?_
  | with_reducible refine w_eqI ?_ | with_reducible refine w_neI ?_ | with_reducible refine w_eqB ?_ | with_reducible refine w_neB ?_ | with_reducible refine w_eqS ?_ | with_reducible refine w_neS ?_
  | with_reducible refine w_neg ?_ | with_reducible refine w_abs ?_ | with_reducible refine w_intB ?_ | with_reducible refine w_test ?_ | with_reducible refine w_tB ?_ | with_reducible refine w_bl ?_
  | with_reducible refine w_and ?_ | with_reducible refine w_or ?_ | with_reducible refine w_not ?_ | with_reducible refine w_andV ?_ | with_reducible refine w_orV ?_ | with_reducible refine w_notV ?_ | with_reducible refine w_ifE ?_
  | with_reducible refine w_nyes ?_ | with_reducible refine w_nno ?_ | with_reducible refine w_yes ?_ | with_reducible refine w_no ?_
  | ((with_reducible refine' w_ixL ?ha ?hb ?_); (case ha => walk_at "hp"); (case hb => rfl)) | ((with_reducible refine' w_ixT ?ha ?hb ?_); (case ha => walk_at "hp"); (case hb => rfl))
  | ((with_reducible refine' w_lenL ?ha ?_); (case ha => walk_at "hp")) | ((with_reducible refine' w_lenT ?ha ?_); (case ha => walk_at "hp"))
  | with_reducible refine w_min2 ?_ | with_reducible refine w_max2 ?_ | with_reducible refine w_bm ?_ | with_reducible refine w_lc ?_ | ((with_reducible refine' w_tyL ?ha ?_); (case ha => walk_at "at"))
  | with_reducible refine isi_ii ?_ | with_reducible refine isi_ib ?_ | with_reducible refine isi_bb ?_ | with_reducible refine isi_ss ?_
  | ((with_reducible refine' isi_tt ?ha ?_); (case ha => walk_at "at")) | ((with_reducible refine' isi_ll ?ha ?_); (case ha => walk_at "at"))
  | with_reducible refine w_par ?_ | with_reducible refine w_par2 ?_ | with_reducible refine w_for ?_ | with_reducible refine w_iL ?_ | with_reducible refine w_iT ?_ | with_reducible refine w_iR1 ?_ | with_reducible refine w_iR2 ?_
  | with_reducible refine w_tup ?_ | with_reducible refine w_lst ?_
  | with_reducible refine w_asg ?_ | with_reducible refine w_gname ?_ | with_reducible refine w_gcons ?_ | with_reducible refine w_gnil ?_ | with_reducible refine w_gsub ?_
  | ((with_reducible refine' w_gtup ?ha ?hb ?_); (case ha => walk_at "hp"); (case hb => rfl))
  | ((with_reducible refine' w_fdiv ?hc ?_); (case hc => walk_at "cond")) | ((with_reducible refine' w_mul ?hc ?_); (case hc => walk_at "cond"))
  | ((with_reducible refine' w_mod ?hc ?_); (case hc => walk_at "cond")) | ((with_reducible refine' w_pow ?hc ?_); (case hc => walk_at "cond")))
local macro_rules | `(tactic| walk_at "wp") => `(tactic| repeat walk_at "wp1")

section
variable {P : Program} {w : World} {K : PySem.W.Frag} {mg : Str → Option Value} {base : Heap}
def spWhole : Sp := fun vs H Q _ => ∃ i : Int, vs = [.int i] ∧ Q (.bl true) H
theorem c_l_whole (F : Def K mg "_law_whole" s_l_whole) (T : Fre mg) : Cal P w K mg base 1 "_law_whole" ["_law_found"] spWhole := by
  refine cal_of F sc_l_whole b_l_whole (fun vs H Q E h => ?_) (fun cdv A outer s H vs Q E hr h => ?_)
  · obtain ⟨_, rfl, _⟩ := h
    rfl
  · obtain ⟨i, rfl, q⟩ := h
    refine ⟨_, (pss_one (ps_ret (pe_and (pe_callB (c_isiK (K := K) rfl) (by rfl) T.f_isinstance (by decide +kernel) (pa_cons (pv 0) (pa_cons (pe_bltn (v := .ty "int") (by rfl) T.f_int (by decide +kernel) rfl) pa_nil))) (pe_one (pe_not (pe_callB (c_isiK (K := K) rfl) (by rfl) T.f_isinstance (by decide +kernel) (pa_cons (pv 0) (pa_cons (pe_bltn (v := .ty "bool") (by rfl) T.f_bool (by decide +kernel) rfl) pa_nil)))))))), ?_⟩
    refine w_start [some (.int i)] rfl ?_
    try dsimp only [cxOf]
    walk_at "wp"
    exact q
def spWays : Sp := fun vs H Q _ => ∃ m k : Nat, vs = [.int (m : Int), .int (k : Int)] ∧ m ≤ 900 ∧ (∀ j, j ≤ k → (Prc.wy m j).natAbs < 2 ^ 60) ∧ Q (.int (if m < k then 0 else Prc.wy m k)) H
theorem c_l_ways (F : Def K mg "_law_ways" s_l_ways) (T : Fre mg) : Cal P w K mg base 1 "_law_ways" ["_law_many", "_law_some"] spWays := by
  refine cal_of F sc_l_ways b_l_ways (fun vs H Q E h => ?_) (fun cdv A outer s H vs Q E hr h => ?_)
  · obtain ⟨_, _, rfl, _⟩ := h
    rfl
  · obtain ⟨m, k, rfl, hm, hb, q⟩ := h
    have po := passes_of (X := cxOf (L2.CX P w) P w K mg base ["_law_many", "_law_some", "_law_found", "_law_k"] "_law_ways" (defScope s_l_ways) (He.ga K "_law_ways") cdv A outer s H E) rfl
    refine ⟨_, (pss_cons (ps_set (i := 2) sc_l_ways.nd rfl (loc_of rfl) pe_int)
      (pss_cons (ps_if (PW.pt (pw_or (pt_cmpR o_lt (pv 1) pe_int (nomark _)) (pw_or1 (pt_cmpR o_gt (pv 1) (pv 0) (nomark _))))) (pss_one (ps_ret pe_int)) pss_nil)
      (pss_cons (ps_for po rfl (pi_range1 (by rfl) T.f_range (pa_cons (pv 1) pa_nil)) (pg_name (i := 3) sc_l_ways.nd rfl (loc_of rfl)) (pss_one (ps_set (i := 2) sc_l_ways.nd rfl (loc_of rfl) (pe_op o_fdiv (pe_op o_mul (pv 2) (pe_op o_sub (pv 0) (pv 3))) (pe_op o_add (pv 3) pe_int)))))
      (pss_one (ps_ret (pv 2)))))), ?_⟩
    refine w_start [some (.int m), some (.int k), none, none] rfl ?_
    try dsimp only [cxOf]
    walk_at "wp"
    refine w_decO (by omega) ?_
    walk_at "wp"
    refine w_dec (fun h => ?_) (fun h => ?_)
    · walk_at "wp"
      rw [if_pos (by omega)] at q
      exact q
    · rw [if_neg (by omega)] at q
      walk_at "wp"
      refine forR1 (by omega) (by omega) (fun i σ H' => ∃ y, σ = [some (.int m), some (.int k), some (.int (Prc.wy m i)), y] ∧ H' = H) ⟨none, rfl, rfl⟩ (fun i σ H' hi h => ?_) (fun σ H' h => ?_)
      · obtain ⟨y, rfl, rfl⟩ := h
        have hbi := hb i (by omega)
        walk_at "wp"
        exact ⟨_, rfl, rfl⟩
      · obtain ⟨y, rfl, rfl⟩ := h
        walk_at "wp"
        rw [Int.toNat_natCast]
        exact q
/-! ### the law -/
def spLaw (K : PySem.W.Frag) : Sp := fun vs H Q _ => ∃ (a : Addr) (ns : List Int), vs = [.ref a] ∧ SqS K H a (ns.map V.int) ∧ ∀ H', Q (.bl true) H'
theorem c_law {fd : FuncData} (F : FunD K "law" "law" (defArgs s_law) (defBody s_law) (defScope s_law) [] [] (He.ga K "law") fd) (T : Fre mg) (c_l_dice : Cal P w K mg base 1 "_law_dice" ["_law_script"] (spDice K)) (c_l_next : Cal P w K mg base 1 "_law_next" ["_law_dice_here", "_law_many"] (spNext K))
    (c_l_whole : Cal P w K mg base 1 "_law_whole" ["_law_found"] spWhole) (c_l_ways : Cal P w K mg base 1 "_law_ways" ["_law_many", "_law_some"] spWays) (c_price : Cal P w K mg base 3 "price" ["steps", "places"] spPrice) : FnOk P w K mg base (L2.CX P w) 4 (He.ga K "law") fd ["_law_script"] (spLaw K) := by
  refine F.ok sc_law (fun vs H Q E h => ?_) (fun cdv A outer s H vs Q E hr h => ?_)
  · obtain ⟨a, ns, rfl, _⟩ := h
    rfl
  · obtain ⟨a, ns, rfl, hS, q⟩ := h
    have pc := passes_call (X := cxOf (L2.CX P w) P w K mg base ["_law_script", "_law_dice_here", "_law_steps", "_law_places", "_law_r", "_law_due", "_law_found"] "law" (defScope s_law) (He.ga K "law") cdv A outer s H E) (E := E) (takes_of rfl rfl rfl rfl) (fun _ _ _ _ h => h)
    have po := passes_of (X := cxOf (L2.CX P w) P w K mg base ["_law_script", "_law_dice_here", "_law_steps", "_law_places", "_law_r", "_law_due", "_law_found"] "law" (defScope s_law) (He.ga K "law") cdv A outer s H E) rfl
    refine ⟨_, (pss_cons (ps_set (i := 1) sc_law.nd rfl (loc_of rfl) (pe_cal c_l_dice hr (by omega) pc (pa_cons (pv 0) pa_nil)))
      (pss_cons (ps_set (i := 2) sc_law.nd rfl (loc_of rfl) (pe_op o_add pe_int (pe_cal c_l_next hr (by omega) pc (pa_cons (pv 1) (pa_cons pe_int pa_nil)))))
      (pss_cons (ps_set (i := 3) sc_law.nd rfl (loc_of rfl) (pe_cal c_l_next hr (by omega) pc (pa_cons (pv 1) (pa_cons pe_int pa_nil))))
      (pss_cons (ps_set (i := 4) sc_law.nd rfl (loc_of rfl) pe_int)
      (pss_cons (ps_while po (pt_cmpR o_lt (pe_cal c_l_ways hr (by omega) pc (pa_cons (pe_op o_add (pe_op o_add (pv 3) pe_int) (pv 4)) (pa_cons (pe_op o_add (pv 3) pe_int) pa_nil))) (pv 2) (nomark _)) (pss_one (ps_set (i := 4) sc_law.nd rfl (loc_of rfl) (pe_op o_add (pv 4) pe_int))))
      (pss_cons (ps_set (i := 5) sc_law.nd rfl (loc_of rfl) (pe_op o_sub (pe_op o_mul (pv 4) (pv 2)) (pe_cal c_l_ways hr (by omega) pc (pa_cons (pe_op o_add (pe_op o_add (pv 3) pe_int) (pv 4)) (pa_cons (pe_op o_add (pv 3) pe_int) pa_nil)))))
      (pss_cons (ps_set (i := 6) sc_law.nd rfl (loc_of rfl) (pe_cal c_price hr (by omega) pc (pa_cons (pv 2) (pa_cons (pv 3) pa_nil))))
      (pss_one (ps_ret (pe_and (pe_cal c_l_whole hr (by omega) pc (pa_cons (pv 6) pa_nil)) (pe_one (pe_cmpR op_eq (pv 6) (pv 5) (nomark _))))))))))))), ?_⟩
    refine w_start [some (.ref a), none, none, none, none, none, none] rfl ?_
    try dsimp only [cxOf]
    walk_at "wp"
    refine ⟨a, ns, rfl, hS, fun d H1 nd D1 s1 => ?_⟩
    walk_at "wp"
    refine ⟨d, 30, rfl, D1, by omega, by decide, fun st H2 st0 st1 D2 k2 => ?_⟩
    walk_at "wp"
    refine ⟨d, 9, rfl, D2, by omega, by decide, fun pl H3 pl0 pl1 D3 k3 => ?_⟩
    obtain ⟨n, en⟩ : ∃ n : Nat, 1 + st = (n : Int) := ⟨(1 + st).toNat, by omega⟩
    obtain ⟨p, rfl⟩ : ∃ p : Nat, pl = (p : Int) := ⟨pl.toNat, by omega⟩
    rw [en]
    have hn1 : 1 ≤ n := by omega
    have hn2 : n < 31 := by omega
    have hp : p < 9 := by omega
    walk_at "wp"
    refine w_while (fun m σ H' => ∃ r : Nat, σ = [some (.ref a), some (.ref d), some (.int (n : Int)), some (.int (p : Int)), some (.int (r : Int)), none, none] ∧ r < 31 ∧ m = 31 - r ∧ (r = 0 ∨ Prc.wy (p + r) (p + 1) < (n : Int)) ∧ H' = H3) 31 ⟨0, rfl, by omega, by omega, .inl rfl, rfl⟩ fun m σ H' h => ?_
    obtain ⟨r, rfl, hr31, rfl, hlast, rfl⟩ := h
    walk_at "wp"
    have ec : (p : Int) + 1 + (r : Int) = ((p + 1 + r : Nat) : Int) := by omega
    have ec2 : (p : Int) + 1 = ((p + 1 : Nat) : Int) := by omega
    refine ⟨p + 1 + r, p + 1, by rw [ec, ec2], by omega, fun j hj => Prc.wy_big p hp r hr31 j (by omega), ?_⟩
    rw [if_neg (by omega)]
    walk_at "wp"
    refine w_dec (fun hc => w_turn ?_) (fun hc => ?_)
    · walk_at "wp"
      have hg := Prc.wy_grow p hp r hr31
      refine ⟨31 - (r + 1), by omega, r + 1, rfl, by omega, rfl, .inr ?_, rfl⟩
      have e : p + (r + 1) = p + 1 + r := by omega
      rw [e]
      exact hc
    · have e3 := Prc.wy_row hp hn2 hr31 hn1 hlast (by omega)
      walk_at "wp"
      have ec3 : (p : Int) + 2 = ((p + 2 : Nat) : Int) := by omega
      refine ⟨p + 1 + r, p + 2, by rw [ec, ec3], by omega, fun j hj => Prc.wy_big p hp r hr31 j (by omega), ?_⟩
      walk_at "wp"
      refine ⟨n, p, rfl, by omega, by omega, fun H5 s5 => ?_⟩
      walk_at "wp"
      refine ⟨_, rfl, ?_⟩
      walk_at "wp"
      rw [Prc.V_gt p hp n hn2, e3, decide_eq_true rfl]
      exact q _
end
end Lw

set_option maxHeartbeats 0
namespace Lw
open PySem PySem.Spec PyProof.Rows L2 Fw
/-! ### the head -/
abbrev R : PySem.W.OpenRow := PySem.W.OpenLaw.row PySem.Challenge.rw_slopesback_k21_price_in_one_row
def dd (x : Str) (st : Stmt) : He.DefD := ⟨(x, none), x, x, defArgs st, defBody st, defScope st, [], []⟩
def fn : List He.DefD := [dd "prices" s_prices, dd "cheapest" s_cheapest, dd "price" s_price, dd "_law_dice" s_l_dice, dd "_law_next" s_l_next, dd "_law_whole" s_l_whole, dd "_law_ways" s_l_ways, dd "law" s_law]
def fa : List He.Fa := [.glo "prices", .glo "cheapest", .glo "price", .glo "_law_dice", .glo "_law_next", .glo "_law_whole", .glo "_law_ways", .glo "law", .free "len", .free "int", .free "bool", .free "isinstance", .free "range"]
abbrev hk : PySem.W.Hook := He.hookD 4 fa fn
def ob (s : PySem.W.SharedT) : He.AlD := He.obsDG 4 fa fn (HandSHeadRun.getT s)
theorem ob_eq (s : PySem.W.SharedT) : ob s = hk.obs s.abs := He.obsDG_eq (HandSHeadRun.getT_eq s)
theorem run (w : World) : HandSHeadRun.RunEq R (PySem.W.view R.prog [9]) hk ob 2000 ["prices", "cheapest", "price", "_law_dice", "_law_next", "_law_whole", "_law_ways"] w := by
  intro os
  kernel_rfl
theorem facts {P : Program} {w : World} {K : PySem.W.Frag} {h : Heap} {mg : Str → Option Value} {f : Addr} (X : K.In h) (G : h.Ns mainGlobals mg) (hfa : mg ("law" : Str) = some (.ref f)) (c : He.SaysD fa fn K) :
    ∃ fd : FuncData, (∀ (s : Shared) (v : Value), BindsTo s fd ⟨[v], []⟩ [("_law_script", v)]) ∧ ∀ base : Heap, K.In base → base.Ns mainGlobals mg → FnOk P w K mg base (L2.CX P w) 4 f fd ["_law_script"] (spLaw K) := by
  have df : ∀ (i : Nat) (x : Str) (st : Stmt), fn[i]? = some (dd x st) → fa[i]? = some (.glo x) → Def K mg x st := fun i x st h1 h2 => ⟨c.def_ i h1, He.glo_ok X G (c.fact i h2)⟩
  have T : Fre mg := ⟨He.free_ok X G (c.fact 8), He.free_ok X G (c.fact 9), He.free_ok X G (c.fact 10), He.free_ok X G (c.fact 11), He.free_ok X G (c.fact 12)⟩
  have F_prices : Def K mg "prices" s_prices := df 0 _ _ rfl rfl
  have F_cheapest : Def K mg "cheapest" s_cheapest := df 1 _ _ rfl rfl
  have F_price : Def K mg "price" s_price := df 2 _ _ rfl rfl
  have F_l_dice : Def K mg "_law_dice" s_l_dice := df 3 _ _ rfl rfl
  have F_l_next : Def K mg "_law_next" s_l_next := df 4 _ _ rfl rfl
  have F_l_whole : Def K mg "_law_whole" s_l_whole := df 5 _ _ rfl rfl
  have F_l_ways : Def K mg "_law_ways" s_l_ways := df 6 _ _ rfl rfl
  have F_law : Def K mg "law" s_law := df 7 _ _ rfl rfl
  obtain ⟨⟨fd, F⟩, g⟩ := id F_law
  have e := hfa.symm.trans g
  cases e
  have b := FunD.bindsA (ps := ["_law_script"]) F b_law
  refine ⟨fd, fun s v => b s [v] rfl, fun base _ _ => ?_⟩
  exact c_law F T (c_l_dice F_l_dice T) (c_l_next F_l_next T) (c_l_whole F_l_whole T) (c_l_ways F_l_ways T) (c_price F_price T (c_prices F_prices T (c_cheapest F_cheapest T)))
end Lw
open PySem PySem.W PySem.Calls PyProof.Rows
theorem PySem.Challenge.cw_slopesback_k21_price_in_one_row_holds : PySem.Challenge.rw_slopesback_k21_price_in_one_row.Holds := by
  w_on; o_law
  refine HandSHeadRun.head_any (r := OpenLaw.row PySem.Challenge.rw_slopesback_k21_price_in_one_row) (q := view (OpenLaw.row PySem.Challenge.rw_slopesback_k21_price_in_one_row).prog [9]) (H := Lw.hk) (ob := Lw.ob) (M := 2000) (loose := ["prices", "cheapest", "price", "_law_dice", "_law_next", "_law_whole", "_law_ways"]) (d := HandSHeadRun.topDef (OpenLaw.row PySem.Challenge.rw_slopesback_k21_price_in_one_row).prog 9) (kwd := []) Lw.ob_eq
    (by kernel_rfl) (fun s => by kernel_rfl) Lw.run (by kernel_rfl) (by kernel_rfl) (by kernel_rfl) (by rfl) (by first | assumption | decide +kernel) (by decide +kernel) ⟨rfl, rfl, rfl, rfl, rfl, by decide +kernel⟩ ?hw ?hc
  case hw => w_witness2
  case hc =>
    refine Fw.walk_ofEB (l := PySem.Challenge.rw_slopesback_k21_price_in_one_row) (n := 63) (k := 4) (x := "_law_script") (CX := fun w => L2.CX (PySem.Challenge.rw_slopesback_k21_price_in_one_row).prog w) rfl (by decide) (by kernel_rfl) ⟨rfl, by decide, by decide⟩ ?F (fun w H s e s' z => ?X)
    case X =>
      obtain ⟨_, _, _, _, _, _, _, _, _, _, _, _, z⟩ := z
      exact z
    intro w mg fa h Y G hmg0
    obtain ⟨K, KX, c⟩ := Y
    have hmg : mg ("law" : PySem.Str) = some (.ref fa) := by
      have e : (HandSHeadRun.topDef (OpenLaw.row PySem.Challenge.rw_slopesback_k21_price_in_one_row).prog 9).name = ("law" : PySem.Str) := by kernel_rfl
      rw [← e]
      exact hmg0
    obtain ⟨fd, hb, hF⟩ := Lw.facts (P := (PySem.Challenge.rw_slopesback_k21_price_in_one_row).prog) (w := w) KX G hmg c
    exact ⟨K, fd, Lw.spLaw K, KX, hb, fun H a ns hl _ hO hS => ⟨a, ns, rfl, Lw.SqS.of hO hS, fun _ => rfl⟩, hF⟩
#print axioms PySem.Challenge.cw_slopesback_k21_price_in_one_row_holds
