import PyProof.Rows.All
import Wide.All
import OpenK.AllK
import Wide.FinOn
import HandS.ForMost
import HandS.ForExc
import HandS.ExcInit
import HandS.ExcField
import HandS.IsInst
import HandS.Wide
import HandS.EndBits
import HandS.Defaults
import HandS.Flow
import HandS.Head2
import HandS.HeadHook4
import HandS.HotCalls
import HandS.Evl
import PySem.Challenge.RW_slopesback_k03_below_and_written
set_option Elab.async false
set_option linter.all false
set_option maxRecDepth 100000
set_option maxHeartbeats 4000000
/-! words of our own over the hand layer: a callee by its name, readings in steps -/
namespace Fw
open PySem PySem.Spec PyProof.Rows L2

/-! ### the end of a law: K from the head, the script's bits -/
theorem walk_ofEB {l : PySem.W.OpenLaw} {n k : Nat} {q : Program} {loose : List Str} {XP : (Str → Option Value) → Heap → Prop} {YP : World → Heap → Prop} {d : DefRec} {CX : World → CXT} {x : Str}
    (hn : l.most = some n) (hn2 : n ≤ sizeLine) (hdf : d.params.defaults = []) (hr : Room k callerA)
    (F : ∀ (w : World) (mg : Str → Option Value) (fa : Addr) (h : Heap), YP w h → h.Ns mainGlobals mg → mg d.name = some (.ref fa) →
      ∃ (K : PySem.W.Frag) (fd : FuncData) (sp : Sp), K.In h ∧ (∀ (s : Shared) (u : Value), BindsTo s fd ⟨[u], []⟩ [(x, u)]) ∧
        (∀ (H : Hp) (a : Addr) (ns : List Int), ns.length ≤ n → (∀ z ∈ ns, Builtin.Int.intBits z ≤ 1048576) → Only H → SqL K H a (ns.map V.int) → sp [.ref a] H (fun v _ => v = .bl true) fun _ _ _ => False) ∧
        ∀ base : Heap, K.In base → base.Ns mainGlobals mg → FnOk l.prog w K mg base (CX w) k fa fd [x] sp)
    (hCX : ∀ (w : World) (H : Hp) (s : Shared) (e : Value) (s' : Shared), CX w [] H s (fun _ _ _ => False) e s' → False) :
    PySem.W.WalkO q loose XP YP l.row.toRowW d [] (fun f vs => PySem.call f vs) := by
  refine Att.attach_callB hn hdf fun w s₀ s₁ mg mb fa o pm cd doc a vs ns G Y ho hd hcd hmg hobj hints hlen hbits hg => ?_
  obtain ⟨K, fd, sp, KX, hb, hsp, hF⟩ := F w mg fa _ Y G.T.g hmg
  exact law_call KX G.T.g G.T.b G.T.builtins G.T.nolimit hg hobj hints (Nat.le_trans hlen hn2) hr hF hb (fun H hO hS => hsp H a ns hlen hbits hO hS) fun H e s' => hCX w H s₁ e s'

/-! ### a def of the top, by its name -/
structure Cal (P : Program) (w : World) (K : PySem.W.Frag) (mg : Str → Option Value) (base : Heap) (k : Nat) (x : Str) (ps : List Str) (sp : Sp) : Prop where
  ex : ∃ f fd, FnOk P w K mg base (L2.CX P w) k f fd ps sp ∧ Binds K fd ps [] ∧ mg x = some (.ref f) ∧ PySem.W.keepIn K (.ref f) = true
/-- what stands of a def behind the top -/
def Def (K : PySem.W.Frag) (mg : Str → Option Value) (x : Str) (st : Stmt) : Prop :=
  (∃ fd, FunD K x x (defArgs st) (defBody st) (defScope st) [] [] (He.ga K x) fd) ∧ mg x = some (.ref (He.ga K x))
def BindsOk (x q : Str) (ps : List Str) (st : Stmt) : Prop := ∀ (kV doc pm : Value) (an : Option Addr) (cdv ct : Value) (us : List Value), us.length = ps.length → bindArgs (PySem.W.fnOf x q (defArgs st) (defBody st) (defScope st) .none kV doc pm an cdv ct) ⟨us, []⟩ = pure (ps.zip us)
section
variable {P : Program} {w : World} {K : PySem.W.Frag} {mg : Str → Option Value} {base : Heap}
theorem cal_of {x : Str} {st : Stmt} {N ps : List Str} {k : Nat} {sp : Sp} (F : Def K mg x st) (S : FnScope N ps (defScope st)) (b : BindsOk x x ps st) (len : ∀ vs H Q E, sp vs H Q E → vs.length = ps.length)
    (hbody : ∀ (cdv : Value) (A : Around) (outer : List Env) (s : Shared) (H : Hp) (vs : List V) (Q : VK) (E : XK), Room k (A.deeper (envOfC x (defScope st) s.heap.objs.size (He.ga K x) cdv)) → sp vs H Q E →
      ∃ t, PSs (cxOf (L2.CX P w) P w K mg base N x (defScope st) (He.ga K x) cdv A outer s H E) (defBody st) t ∧ t { nx := fun _ H' => Q .non H', rt := Q } (start N vs) H) : Cal P w K mg base (k + 1) x ps sp := by
  obtain ⟨⟨fd, F⟩, g⟩ := F
  exact ⟨_, fd, F.ok S len hbody, F.bindsN b, g, F.kp⟩
theorem Cal.mono {x : Str} {ps : List Str} {j k : Nat} {sp : Sp} (c : Cal P w K mg base j x ps sp) (h : j ≤ k) : Cal P w K mg base k x ps sp := by
  obtain ⟨f, fd, F, r⟩ := c.ex
  exact ⟨f, fd, F.mono h, r⟩
theorem Cal.imp {x : Str} {ps : List Str} {k : Nat} {sp sp' : Sp} (c : Cal P w K mg base k x ps sp) (h : ∀ vs H Q E, sp' vs H Q E → sp vs H Q E) : Cal P w K mg base k x ps sp' := by
  obtain ⟨f, fd, F, r⟩ := c.ex
  exact ⟨f, fd, F.imp h, r⟩
end
def tCal (sp : Sp) (E : XK) (t : TA) : TE := fun σ H Q => t σ H fun vs H1 => sp vs H1 Q E
section
variable {X : Cx} {k j : Nat} {x : Str} {ps : List Str} {sp : Sp} {E : XK} {p pos : Pos} {e : Expr} {es : List Expr} {t : TA}
theorem pe_cal (c : Cal X.prog X.w X.K X.mg X.base j x ps sp) (hr : Room k X.A) (hj : j ≤ k) (hx : Passes (L2.CX X.prog X.w) X E) (ha : PA X (e :: es) t) (hg : Gl X x := by rfl)
    (hdb : (x == ("__debug__" : Str)) = false := by decide) (he : starEach (e :: es) X.env = (false, eval e X.env) :: starEach es X.env := by rfl) (hpl : (backTo pos (starEach es X.env)).any (·.1) = false := by rfl) :
    PE X (.Call (.Name x p) (e :: es) [] pos) (tCal sp E t) := by
  obtain ⟨f, fd, F, b, g, kp⟩ := c.ex
  have h := pe_call (p := p) (pos := pos) (F.mono hj) hr hg g kp b .nil hx ha hdb he hpl
  have e1 : tCall sp [] E t = tCal sp E t := by
    funext σ H Q
    show t σ H (fun vs H1 => sp (vs ++ []) H1 Q E) = t σ H fun vs H1 => sp vs H1 Q E
    congr 1
    funext vs H1
    rw [List.append_nil]
  rw [← e1]
  exact h
end

/-! ### operators -/
section
variable {X : Cx}
def rMul : R2 := rI CMulW fun i j => .int (i * j)
/-- // by a divisor that is not nought -/
def CFdiv (_ j : Int) : Prop := j ≠ 0 ∧ j.natAbs.log2 < 9000
def rFdiv : R2 := rI CFdiv fun i j => .int (i.fdiv j)
def rMod : R2 := rI (fun _ j => j ≠ 0) fun i j => .int (i.fmod j)
def rPow : R2 := rI CPow fun i j => .int (i ^ j.toNat)
def rPlus : R2 := rI0 fun i j => .int (i + j)
def rMinus : R2 := rI0 fun i j => .int (i - j)
def rLt : R2 := rI0 fun i j => .bl (decide (i < j))
def rLe : R2 := rI0 fun i j => .bl (decide (i ≤ j))
def rGt : R2 := rI0 fun i j => .bl (decide (j < i))
def rGe : R2 := rI0 fun i j => .bl (decide (j ≤ i))
theorem o_mul : OpR X (binaryOp .Mult) rMul := op_mulW
theorem o_fdiv : OpR X (binaryOp .FloorDiv) rFdiv := opI fun i j _ _ _ _ _ hc q => floordiv_int hc.1 q (.inl (PyProof.noPylong_of_log2 hc.2))
theorem o_mod : OpR X (binaryOp .Mod) rMod := op_modN
theorem o_pow : OpR X (binaryOp .Pow) rPow := op_pow
theorem o_add : OpR X (binaryOp .Add) rPlus := op_add
theorem o_sub : OpR X (binaryOp .Sub) rMinus := op_sub
theorem o_lt : OpR X (compareOp .Lt) rLt := op_lt
theorem o_le : OpR X (compareOp .LtE) rLe := op_le
theorem o_gt : OpR X (compareOp .Gt) rGt := op_gt
theorem o_ge : OpR X (compareOp .GtE) rGe := op_ge
def rAbs : List V → Hp → VK → Prop := fun xs H Q => ∃ i, xs = [.int i] ∧ Q (.int (if i < 0 then -i else i)) H
theorem c_abs : CallR X (.builtin "abs") rAbs := call_abs
def rStrI : List V → Hp → VK → Prop := fun xs H Q => ∃ i, xs = [.int i] ∧ i.natAbs.log2 < 1920 ∧ Q (.str (toString i)) H
theorem c_strI : CallR X (.type "str") rStrI := call_str_int
def rIntB : List V → Hp → VK → Prop := fun xs H Q => (∃ i, xs = [.int i] ∧ Q (.int i) H) ∨ ∃ k, xs = [.bl k] ∧ Q (.int (if k then 1 else 0)) H
theorem c_intB : CallR X (.type "int") rIntB := call_int1
def rLenS (K : PySem.W.Frag) : List V → Hp → VK → Prop := fun xs H Q => ∃ p ys, xs = [.ref p] ∧ (SqL K H p ys ∨ SqT K H p ys) ∧ Q (.int ys.length) H
theorem c_len : CallR X (.builtin "len") (rLenS X.K) := call_len_seq
def rNeg : V → Hp → VK → Prop := rU fun i => .int (-i)
theorem u_neg : UnR X (unaryOp .USub) rNeg := un_neg
def rCatS : R2 := fun x y H Q => ∃ i j, x = .str i ∧ y = .str j ∧ i.length + j.length ≤ sizeLine ∧ Q (.str (i ++ j)) H
theorem o_catS : OpR X (binaryOp .Add) rCatS := op_add_str
end

/-! ### heaps -/
/-- all but what stands at d is as it was -/
def Keep (d : Addr) (H H' : Hp) : Prop := ∀ b o, b ≠ d → H b = some o → H' b = some o
theorem Keep.refl {d : Addr} {H : Hp} : Keep d H H := fun _ _ _ h => h
theorem Keep.trans {d : Addr} {H H1 H2 : Hp} (a : Keep d H H1) (b : Keep d H1 H2) : Keep d H H2 := fun c o hc h => b c o hc (a c o hc h)
theorem Keep.same {d : Addr} {H H1 H2 : Hp} (a : Keep d H H1) (b : Same H1 H2) : Keep d H H2 := fun c o hc h => b c o (a c o hc h)
theorem _root_.L2.Same.keep {d : Addr} {H H1 H2 : Hp} (a : Same H H1) (b : Keep d H1 H2) : Keep d H H2 := fun c o hc h => b c o hc (a c o h)
theorem _root_.L2.Same.toKeep {d : Addr} {H H1 : Hp} (a : Same H H1) : Keep d H H1 := fun c o _ h => a c o h
/-- what was not there at H may change -/
theorem Keep.toSame {d : Addr} {H H1 H2 : Hp} (a : Same H H1) (b : Keep d H1 H2) (h : H d = none) : Same H H2 := fun c o hc => b c o (ne_of_none hc h) (a c o hc)
theorem at_same {H H' : Hp} {b : Addr} {o : HO} (k : Same H H') (h : H b = some o) : H' b = some o := k _ _ h
theorem at_keep {d : Addr} {H H' : Hp} {b : Addr} {o : HO} (k : Keep d H H') (h : H b = some o) (n : b ≠ d) : H' b = some o := k _ _ n h
theorem at_keepT {d : Addr} {H H' : Hp} {b : Addr} {xs ys : List V} (k : Keep d H H') (h : H b = some (.tup xs)) (hd : H d = some (.lst ys)) : H' b = some (.tup xs) := k _ _ (ne_of h hd (by intro z; cases z)) h
theorem sql_same {K : PySem.W.Frag} {a : Addr} {H H' : Hp} {xs : List V} (k : Same H H') (h : SqL K H a xs) : SqL K H' a xs := k.seq h
theorem sqt_same {K : PySem.W.Frag} {a : Addr} {H H' : Hp} {xs : List V} (k : Same H H') (h : SqT K H a xs) : SqT K H' a xs := by
  rcases h with (h | ⟨o, h⟩) | h
  · exact .inl (.inl (k _ _ h))
  · exact .inl (.inr ⟨o, k _ _ h⟩)
  · exact .inr h
theorem sql_keep {K : PySem.W.Frag} {d a : Addr} {H H' : Hp} {xs : List V} (k : Keep d H H') (h : SqL K H a xs) (ne : a ≠ d) : SqL K H' a xs := by
  rcases h with (h | ⟨o, h⟩) | h
  · exact .inl (.inl (k _ _ ne h))
  · exact .inl (.inr ⟨o, k _ _ ne h⟩)
  · exact .inr h
theorem atI_ints {ns : List Int} {z : Int} (h0 : 0 ≤ z) (h1 : z < (ns.length : Int)) : ∃ y ∈ ns, atI (ns.map V.int) z = some (.int y) := by
  have hj : z.toNat < ns.length := by omega
  refine ⟨ns[z.toNat], List.getElem_mem hj, ?_⟩
  refine at_of (j := z.toNat) (by omega) ?_
  rw [List.getElem?_map, List.getElem?_eq_getElem hj]
  rfl
theorem same_upd {H : Hp} {p : Addr} {o : HO} (h : H p = none) : Same H (upd H p o) := fun b x e => by
  rw [upd_ne (ne_of_none e h)]
  exact e
theorem keep_upd {H : Hp} {p : Addr} {o : HO} : Keep p H (upd H p o) := fun b x n e => by
  rw [upd_ne n]
  exact e

/-! ### readings in steps -/
/-- a for over what J yields -/
def ForR (J : It) (g : TG) (tb : TS) (D : Ends) (σ : L2.St) (H : Hp) : Prop := ∃ W : Nat → Nat → L2.St → Hp → Prop, (∃ m, W 0 m σ H) ∧ ∀ i m σ H, W i m σ H →
  (J.stop i H ∧ D.nx σ H) ∨ (J.go i H ∧ ∃ N : L2.St → Hp → Prop, (∀ σ' H', N σ' H' → ∃ m', m' < m ∧ W (i + 1) m' σ' H') ∧ ∀ x H', J.yld i H x H' → g x σ H' fun σ2 H2 => tb { D with nx := N, ct := N, bk := D.nx } σ2 H2)
def ItL (K : PySem.W.Frag) (R : It → Hp → Prop) (x : V) (H : Hp) : Prop := ∃ a, x = .ref a ∧ (∃ xs, SqL K H a xs) ∧ R (Itl K a) H
def ItT (K : PySem.W.Frag) (R : It → Hp → Prop) (x : V) (H : Hp) : Prop := ∃ a, x = .ref a ∧ (∃ xs, SqT K H a xs) ∧ R (Itt K a) H
def ItR1 (R : It → Hp → Prop) (vs : List V) (H : Hp) : Prop := ∃ j : Int, vs = [.int j] ∧ -(2 ^ 62) ≤ j ∧ j < 2 ^ 62 ∧ R (Itr 0 j.toNat) H
def ItR2 (R : It → Hp → Prop) (vs : List V) (H : Hp) : Prop := ∃ i j : Int, vs = [.int i, .int j] ∧ (-(2 ^ 62) ≤ i ∧ i < 2 ^ 62 ∧ -(2 ^ 62) ≤ j ∧ j < 2 ^ 62) ∧ R (Itr i (j - i).toNat) H
def NewT (Q : VK) (xs : List V) (H : Hp) : Prop := xs.length ≤ sizeLine ∧ ∀ p, H p = none → Q (.ref p) (upd H p (.tup xs))
def NewL (Q : VK) (xs : List V) (H : Hp) : Prop := xs.length ≤ sizeLine ∧ ∀ p, H p = none → Q (.ref p) (upd H p (.lst xs))
section
variable {K : PySem.W.Frag} {σ : L2.St} {H H' : Hp} {ta tb tc te : TE} {tt tu : TT} {tas : TA} {D : Ends} {t u : TS} {x y v : V} {Q : VK} {R : Bool → Hp → Prop} {S : List V → Hp → Prop} {Z : L2.St → Hp → Prop} {i j : Int} {g : TG} {gs : TGs}
theorem w_start {N : List Str} {vs : List V} (σ : L2.St) (e : start N vs = σ) (h : t D σ H) : t D (start N vs) H := e ▸ h
theorem w_seq (h : t { nx := u D, rt := D.rt, bk := D.bk, ct := D.ct } σ H) : tSeq t u D σ H := h
theorem w_next (h : D.nx σ H) : tNext D σ H := h
theorem w_set {n : Nat} (h : te σ H fun v H1 => D.nx (σ.set n (some v)) H1) : tAsg te (gName n) D σ H := h
theorem w_asg (h : te σ H fun v H1 => g v σ H1 D.nx) : tAsg te g D σ H := h
theorem w_gname {n : Nat} (h : Z (σ.set n (some v)) H) : gName n v σ H Z := h
theorem w_gtup {a : Addr} {xs : List V} {n : Nat} (h : SqT K H a xs) (hn : xs.length = n) (q : gs xs σ H Z) : gTup K n gs (.ref a) σ H Z := ⟨a, xs, rfl, h, hn, q⟩
theorem w_gcons {r : List V} (h : g v σ H fun σ' H' => gs r σ' H' Z) : gCons g gs (v :: r) σ H Z := ⟨v, r, rfl, h⟩
theorem w_gnil (h : Z σ H) : gNil [] σ H Z := ⟨rfl, h⟩
theorem w_gsub {st : TSet} (h : ta σ H fun o H1 => tb σ H1 fun i H2 => st o i v H2 fun H3 => Z σ H3) : gSub ta tb st v σ H Z := h
theorem w_setL0 {p : Addr} {xs : List V} {n : Nat} {F : Hp → Prop} (h : H p = some (.lst xs)) (hn : ixN xs.length i = some n) (q : F (upd H p (.lst (xs.set n v)))) : rSetL (.ref p) (.int i) v H F := ⟨p, xs, i, n, rfl, rfl, h, hn, q⟩
theorem w_setL {p : Addr} {xs : List V} {n : Nat} {F : Hp → Prop} (h : H p = some (.lst xs)) (hn : ixN xs.length i = some n) (q : ∀ H1, H1 p = some (.lst (xs.set n v)) → Keep p H H1 → F H1) : rSetL (.ref p) (.int i) v H F := ⟨p, xs, i, n, rfl, rfl, h, hn, q _ upd_same keep_upd⟩
theorem w_drop (h : te σ H fun _ H1 => D.nx σ H1) : tDrop te D σ H := h
theorem w_ret (h : te σ H D.rt) : tRet te D σ H := h
theorem w_var {n : Nat} (h : σ[n]? = some (some v)) (q : Q v H) : tVar n σ H Q := ⟨v, h, q⟩
theorem w_c (q : Q v H) : tC v σ H Q := q
theorem w_op {r : R2} (h : ta σ H fun x H1 => tb σ H1 fun y H2 => r x y H2 Q) : tOp r ta tb σ H Q := h
theorem w_un {r : V → Hp → VK → Prop} (h : ta σ H fun x H1 => r x H1 Q) : tUn r ta σ H Q := h
theorem w_cb {r : List V → Hp → VK → Prop} (h : tas σ H fun vs H1 => r vs H1 Q) : tCB r tas σ H Q := h
theorem w_cal {sp : Sp} {E : XK} (h : tas σ H fun vs H1 => sp vs H1 Q E) : tCal sp E tas σ H Q := h
theorem w_nil (q : S [] H) : tNil σ H S := q
theorem w_cons (h : ta σ H fun x H1 => tas σ H1 fun xs H2 => S (x :: xs) H2) : tCons ta tas σ H S := h
theorem w_plus (q : Q (.int (i + j)) H) : rPlus (.int i) (.int j) H Q := ⟨i, j, rfl, rfl, q⟩
theorem w_minus (q : Q (.int (i - j)) H) : rMinus (.int i) (.int j) H Q := ⟨i, j, rfl, rfl, q⟩
theorem w_mul (c : CMulW i j) (q : Q (.int (i * j)) H) : rMul (.int i) (.int j) H Q := ⟨i, j, rfl, rfl, c, q⟩
theorem w_fdiv (c : CFdiv i j) (q : Q (.int (i.fdiv j)) H) : rFdiv (.int i) (.int j) H Q := ⟨i, j, rfl, rfl, c, q⟩
theorem w_mod (c : j ≠ 0) (q : Q (.int (i.fmod j)) H) : rMod (.int i) (.int j) H Q := ⟨i, j, rfl, rfl, c, q⟩
theorem w_pow (c : CPow i j) (q : Q (.int (i ^ j.toNat)) H) : rPow (.int i) (.int j) H Q := ⟨i, j, rfl, rfl, c, q⟩
theorem w_lt (q : Q (.bl (decide (i < j))) H) : rLt (.int i) (.int j) H Q := ⟨i, j, rfl, rfl, q⟩
theorem w_le (q : Q (.bl (decide (i ≤ j))) H) : rLe (.int i) (.int j) H Q := ⟨i, j, rfl, rfl, q⟩
theorem w_gt (q : Q (.bl (decide (j < i))) H) : rGt (.int i) (.int j) H Q := ⟨i, j, rfl, rfl, q⟩
theorem w_ge (q : Q (.bl (decide (j ≤ i))) H) : rGe (.int i) (.int j) H Q := ⟨i, j, rfl, rfl, q⟩
theorem w_eqI (q : Q (.bl (decide (i = j))) H) : rEq (.int i) (.int j) H Q := ⟨rfl, by
  have e : decide (V.int i = V.int j) = decide (i = j) := by simp
  rw [e]; exact q⟩
theorem w_neI (q : Q (.bl (!decide (i = j))) H) : rNe (.int i) (.int j) H Q := ⟨rfl, by
  have e : decide (V.int i = V.int j) = decide (i = j) := by simp
  rw [e]; exact q⟩
theorem w_eqB {b c : Bool} (q : Q (.bl (decide (b = c))) H) : rEq (.bl b) (.bl c) H Q := ⟨rfl, by
  have e : decide (V.bl b = V.bl c) = decide (b = c) := by simp
  rw [e]; exact q⟩
theorem w_neB {b c : Bool} (q : Q (.bl (!decide (b = c))) H) : rNe (.bl b) (.bl c) H Q := ⟨rfl, by
  have e : decide (V.bl b = V.bl c) = decide (b = c) := by simp
  rw [e]; exact q⟩
theorem w_eqS {b c : Str} (q : Q (.bl (decide (b = c))) H) : rEq (.str b) (.str c) H Q := ⟨rfl, by
  have e : decide (V.str b = V.str c) = decide (b = c) := by simp
  rw [e]; exact q⟩
theorem w_neS {b c : Str} (q : Q (.bl (!decide (b = c))) H) : rNe (.str b) (.str c) H Q := ⟨rfl, by
  have e : decide (V.str b = V.str c) = decide (b = c) := by simp
  rw [e]; exact q⟩
theorem w_neg (q : Q (.int (-i)) H) : rNeg (.int i) H Q := ⟨i, rfl, q⟩
theorem w_abs (q : Q (.int (if i < 0 then -i else i)) H) : rAbs [.int i] H Q := ⟨i, rfl, q⟩
theorem w_strI (c : i.natAbs.log2 < 1920) (q : Q (.str (toString i)) H) : rStrI [.int i] H Q := ⟨i, rfl, c, q⟩
theorem w_intB {b : Bool} (q : Q (.int (if b then 1 else 0)) H) : rIntB [.bl b] H Q := .inr ⟨b, rfl, q⟩
theorem w_intI (q : Q (.int i) H) : rIntB [.int i] H Q := .inl ⟨i, rfl, q⟩
theorem w_catS {a b : Str} (c : a.length + b.length ≤ sizeLine) (q : Q (.str (a ++ b)) H) : rCatS (.str a) (.str b) H Q := ⟨a, b, rfl, rfl, c, q⟩
theorem cdiv_small {i j : Int} (h0 : j ≠ 0) (h : j.natAbs < 2 ^ 64) : CFdiv i j := ⟨h0, Nat.lt_trans (PySem.Flt.log2_lt_of (by decide) h) (by decide)⟩
theorem cpow_mk {i j : Int} (h0 : 0 ≤ j) (h1 : j ≤ 1000000) (h2 : i.natAbs < 2 ^ 64) : CPow i j := ⟨h0, h1, h2⟩
theorem cmul_small {i j : Int} (h : i.natAbs < 2 ^ 64) (h2 : j.natAbs < 2 ^ 64) : CMulW i j := wide_mul h h2 (by decide) (by decide) (by decide)
theorem w_lenL {p : Addr} {xs : List V} (h : SqL K H p xs) (q : Q (.int xs.length) H) : rLenS K [.ref p] H Q := ⟨p, xs, rfl, .inl h, q⟩
theorem w_lenT {p : Addr} {xs : List V} (h : SqT K H p xs) (q : Q (.int xs.length) H) : rLenS K [.ref p] H Q := ⟨p, xs, rfl, .inr h, q⟩
theorem w_ixL {p : Addr} {xs : List V} (h : SqL K H p xs) (e : atI xs i = some v) (q : Q v H) : rIxL K (.ref p) (.int i) H Q := ⟨p, xs, i, v, rfl, rfl, h, e, q⟩
theorem w_ixT {p : Addr} {xs : List V} (h : SqT K H p xs) (e : atI xs i = some v) (q : Q v H) : rIxT K (.ref p) (.int i) H Q := ⟨p, xs, i, v, rfl, rfl, h, e, q⟩
theorem w_tup0 (h : tas σ H fun xs H1 => xs.length ≤ sizeLine ∧ ∀ p, H1 p = none → Q (.ref p) (upd H1 p (.tup xs))) : tTup tas σ H Q := h
theorem w_lst0 (h : tas σ H fun xs H1 => xs.length ≤ sizeLine ∧ ∀ p, H1 p = none → Q (.ref p) (upd H1 p (.lst xs))) : tLst tas σ H Q := h
theorem w_tup (h : tas σ H fun xs H1 => NewT Q xs H1) : tTup tas σ H Q := h
theorem w_lst (h : tas σ H fun xs H1 => NewL Q xs H1) : tLst tas σ H Q := h
theorem newT {xs : List V} (q : ∀ p H2, H p = none → H2 p = some (.tup xs) → Same H H2 → Q (.ref p) H2) (hn : Nat.ble xs.length 1000 = true := by rfl) : NewT Q xs H := ⟨Nat.le_of_lt (small1000 (Nat.le_of_ble_eq_true hn)), fun p np => q p _ np upd_same (same_upd np)⟩
theorem newL {xs : List V} (q : ∀ p H2, H p = none → H2 p = some (.lst xs) → Same H H2 → Q (.ref p) H2) (hn : Nat.ble xs.length 1000 = true := by rfl) : NewL Q xs H := ⟨Nat.le_of_lt (small1000 (Nat.le_of_ble_eq_true hn)), fun p np => q p _ np upd_same (same_upd np)⟩
theorem w_for {wi : TI} (h : wi σ H fun J H1 => ForR J g t D σ H1) : tFor wi g t D σ H := h
theorem w_iL {R : It → Hp → Prop} (h : te σ H fun x H1 => ItL K R x H1) : iList K te σ H R := h
theorem w_iT {R : It → Hp → Prop} (h : te σ H fun x H1 => ItT K R x H1) : iTup K te σ H R := h
theorem w_iR1 {R : It → Hp → Prop} (h : tas σ H fun x H1 => ItR1 R x H1) : iRng1 tas σ H R := h
theorem w_iR2 {R : It → Hp → Prop} (h : tas σ H fun x H1 => ItR2 R x H1) : iRng2 tas σ H R := h
theorem forL {a : Addr} {xs : List V} (hx : SqL K H a xs) (Pv : Nat → L2.St → Hp → Prop) (h0 : Pv 0 σ H) (hl : ∀ i σ H, i ≤ xs.length → Pv i σ H → SqL K H a xs)
    (hs : ∀ i x σ H, xs[i]? = some x → Pv i σ H → g x σ H fun σ2 H2 => t { nx := Pv (i + 1), rt := D.rt, ct := Pv (i + 1), bk := D.nx } σ2 H2) (hd : ∀ σ H, Pv xs.length σ H → D.nx σ H) :
    ItL K (fun J H1 => ForR J g t D σ H1) (.ref a) H := ⟨a, rfl, ⟨xs, hx⟩, for_list (xs := xs) Pv h0 hl hs hd⟩
theorem forR1 {n : Int} (hn : n < 2 ^ 62) (h0' : 0 ≤ n) (Pv : Nat → L2.St → Hp → Prop) (h0 : Pv 0 σ H)
    (hs : ∀ (i : Nat) σ H, (i : Int) < n → Pv i σ H → g (.int (i : Int)) σ H fun σ2 H2 => t { nx := Pv (i + 1), rt := D.rt, ct := Pv (i + 1), bk := D.nx } σ2 H2) (hd : ∀ σ H, Pv n.toNat σ H → D.nx σ H) :
    ItR1 (fun J H1 => ForR J g t D σ H1) [.int n] H := ⟨n, rfl, by omega, hn, for_range (lo := 0) (n := n.toNat) Pv h0 (fun i σ H hi p => by
      have e : (0 : Int) + (i : Int) = (i : Int) := Int.zero_add _
      rw [e]
      exact hs i σ H (by omega) p) hd⟩
theorem forR2 {lo n : Int} (hn : n < 2 ^ 62) (hl : -(2 ^ 62) ≤ lo ∧ lo < 2 ^ 62 ∧ -(2 ^ 62) ≤ n) (Pv : Nat → L2.St → Hp → Prop) (h0 : Pv 0 σ H)
    (hs : ∀ (i : Nat) σ H, lo + (i : Int) < n → Pv i σ H → g (.int (lo + (i : Int))) σ H fun σ2 H2 => t { nx := Pv (i + 1), rt := D.rt, ct := Pv (i + 1), bk := D.nx } σ2 H2) (hd : ∀ σ H, Pv (n - lo).toNat σ H → D.nx σ H) :
    ItR2 (fun J H1 => ForR J g t D σ H1) [.int lo, .int n] H := ⟨lo, n, rfl, ⟨hl.1, hl.2.1, hl.2.2, hn⟩, for_range (lo := lo) (n := (n - lo).toNat) Pv h0 (fun i σ H hi p => hs i σ H (by omega) p) hd⟩
theorem w_while (W : Nat → L2.St → Hp → Prop) (m0 : Nat) (h0 : W m0 σ H) (h : ∀ m σ H, W m σ H → tt σ H fun b H1 => if b = true then ∃ N : L2.St → Hp → Prop, (∀ σ' H', N σ' H' → ∃ m', m' < m ∧ W m' σ' H') ∧ t { D with nx := N, ct := N, bk := D.nx } σ H1 else D.nx σ H1) : tWhile tt t D σ H := ⟨W, ⟨m0, h0⟩, h⟩
theorem w_turn {W : Nat → L2.St → Hp → Prop} {m : Nat} {C : (L2.St → Hp → Prop) → Prop} (h : C fun σ' H' => ∃ m', m' < m ∧ W m' σ' H') : ∃ N : L2.St → Hp → Prop, (∀ σ' H', N σ' H' → ∃ m', m' < m ∧ W m' σ' H') ∧ C N := ⟨_, fun _ _ x => x, h⟩
theorem w_par {a b : Nat} (h : tas σ H fun vs H1 => ∃ v w, vs = [v, w] ∧ D.nx ((σ.set a (some v)).set b (some w)) H1) : tPar a b tas D σ H := h
theorem w_par2 {C : V → V → Prop} (h : C x y) : ∃ v w, [x, y] = [v, w] ∧ C v w := ⟨x, y, rfl, h⟩
theorem isi_ii (q : Q (.bl true) H) : rIsi K [.int i, .ty "int"] H Q := ⟨_, _, _, _, true, rfl, .ty _, .base (.int _), kit_ty (by decide +kernel), q⟩
theorem isi_ib (q : Q (.bl false) H) : rIsi K [.int i, .ty "bool"] H Q := ⟨_, _, _, _, false, rfl, .ty _, .base (.int _), kit_ty (by decide +kernel), q⟩
theorem isi_bb {b : Bool} (q : Q (.bl true) H) : rIsi K [.bl b, .ty "bool"] H Q := ⟨_, _, _, _, true, rfl, .ty _, .base (.bl _), kit_ty (by decide +kernel), q⟩
theorem isi_ss {b : Str} (q : Q (.bl true) H) : rIsi K [.str b, .ty "str"] H Q := ⟨_, _, _, _, true, rfl, .ty _, .base (.str _), kit_ty (by decide +kernel), q⟩
theorem isi_tt {p : Addr} {xs : List V} (h : H p = some (.tup xs)) (q : Q (.bl true) H) : rIsi K [.ref p, .ty "tuple"] H Q := ⟨_, _, _, _, true, rfl, .ty _, .base (.tup h), kit_ty (by decide +kernel), q⟩
theorem isi_ll {p : Addr} {xs : List V} (h : H p = some (.lst xs)) (q : Q (.bl true) H) : rIsi K [.ref p, .ty "list"] H Q := ⟨_, _, _, _, true, rfl, .ty _, .base (.lst h), kit_ty (by decide +kernel), q⟩
theorem w_cut (M : L2.St → Hp → Prop) (h : t { D with nx := M } σ H) (k : ∀ σ' H', M σ' H' → u D σ' H') : Evl.tCut t u D σ H := ⟨M, h, k⟩
theorem w_test (h : te σ H fun x H' => ∃ k, x = .bl k ∧ R k H') : tTest te σ H R := h
theorem w_tB (h : te σ H fun x H' => ∃ k, x = .bl k ∧ R k H') : tB te σ H R := h
theorem w_bl {b : Bool} {C : Bool → Prop} (h : C b) : ∃ k, V.bl b = .bl k ∧ C k := ⟨b, rfl, h⟩
theorem w_and (h : tt σ H fun c H1 => if c = true then tu σ H1 R else R false H1) : tAnd tt tu σ H R := h
theorem w_or (h : tt σ H fun c H1 => if c = true then R true H1 else tu σ H1 R) : tOr tt tu σ H R := h
theorem w_not (h : tt σ H fun c H1 => R (!c) H1) : tNot tt σ H R := h
theorem w_andV (h : ta σ H fun x H1 => ∃ c, x = .bl c ∧ if c = true then tb σ H1 Q else Q (.bl false) H1) : tAndV ta tb σ H Q := h
theorem w_orV (h : ta σ H fun x H1 => ∃ c, x = .bl c ∧ if c = true then Q (.bl true) H1 else tb σ H1 Q) : tOrV ta tb σ H Q := h
theorem w_notV (h : ta σ H fun x H1 => ∃ c, x = .bl c ∧ Q (.bl (!c)) H1) : tNotV ta σ H Q := h
theorem w_ifE (h : tt σ H fun c H1 => if c = true then ta σ H1 Q else tb σ H1 Q) : tIf tt ta tb σ H Q := h
theorem w_ifS (h : tt σ H fun b H1 => if b = true then t D σ H1 else u D σ H1) : tIfS tt t u D σ H := h
theorem w_dec {c : Prop} [Decidable c] {A B : Prop} (h1 : c → A) (h2 : ¬ c → B) : if decide c = true then A else B := by
  by_cases h : c
  · rw [if_pos (decide_eq_true h)]; exact h1 h
  · rw [if_neg (by simpa using h)]; exact h2 h
theorem w_decN {c : Prop} [Decidable c] {A B : Prop} (h1 : ¬ c → A) (h2 : c → B) : if (!decide c) = true then A else B := by
  by_cases h : c
  · rw [if_neg (by simpa using h)]; exact h2 h
  · rw [if_pos (by simpa using h)]; exact h1 h
theorem w_decY {c : Prop} [Decidable c] {A B : Prop} (hc : c) (h : A) : if decide c = true then A else B := by rw [if_pos (decide_eq_true hc)]; exact h
theorem w_decO {c : Prop} [Decidable c] {A B : Prop} (hc : ¬ c) (h : B) : if decide c = true then A else B := by rw [if_neg (by simpa using hc)]; exact h
theorem w_decNY {c : Prop} [Decidable c] {A B : Prop} (hc : ¬ c) (h : A) : if (!decide c) = true then A else B := by rw [if_pos (by simpa using hc)]; exact h
theorem w_decNO {c : Prop} [Decidable c] {A B : Prop} (hc : c) (h : B) : if (!decide c) = true then A else B := by rw [if_neg (by simpa using hc)]; exact h
theorem w_new {xs : List V} {C : Prop} (q : C) (hn : Nat.ble xs.length 1000 = true := by rfl) : xs.length ≤ sizeLine ∧ C := ⟨Nat.le_of_lt (small1000 (Nat.le_of_ble_eq_true hn)), q⟩
theorem w_nyes {A B : Prop} (h : B) : if (!true) = true then A else B := by rw [if_neg (by decide)]; exact h
theorem w_nno {A B : Prop} (h : A) : if (!false) = true then A else B := by rw [if_pos (by decide)]; exact h
theorem w_yes {A B : Prop} (h : A) : if true = true then A else B := by rw [if_pos rfl]; exact h
theorem w_no {A B : Prop} (h : B) : if false = true then A else B := by rw [if_neg Bool.false_ne_true]; exact h
end
end Fw

/-! fractions in lowest terms, as made and _law_cut reckon them: plain Lean -/
namespace Mth
/-- the greatest common divisor, with the bottom's sign -/
def sg (t b : Int) : Int := if b < 0 then -(Nat.gcd t.natAbs b.natAbs : Int) else (Nat.gcd t.natAbs b.natAbs : Int)
def cT (t b : Int) : Int := t.fdiv (sg t b)
def cB (t b : Int) : Int := b.fdiv (sg t b)
theorem g_pos {t b : Int} (h : b ≠ 0) : 0 < Nat.gcd t.natAbs b.natAbs := Nat.gcd_pos_of_pos_right _ (by omega)
theorem sg_ne {t b : Int} (h : b ≠ 0) : sg t b ≠ 0 := by
  have := g_pos (t := t) h
  unfold sg
  split <;> omega
theorem sg_abs {t b : Int} : (sg t b).natAbs = Nat.gcd t.natAbs b.natAbs := by
  unfold sg
  split <;> omega
theorem sg_dvdT {t b : Int} : sg t b ∣ t := by
  rw [← Int.natAbs_dvd_natAbs, sg_abs]
  exact Nat.gcd_dvd_left _ _
theorem sg_dvdB {t b : Int} : sg t b ∣ b := by
  rw [← Int.natAbs_dvd_natAbs, sg_abs]
  exact Nat.gcd_dvd_right _ _
theorem cT_mul {t b : Int} : sg t b * cT t b = t := Int.mul_fdiv_cancel' sg_dvdT
theorem cB_mul {t b : Int} : sg t b * cB t b = b := Int.mul_fdiv_cancel' sg_dvdB
theorem sg_le {t b : Int} (h : b ≠ 0) : (sg t b).natAbs ≤ b.natAbs := by
  rw [sg_abs]
  exact Nat.gcd_le_right _ (by omega)
theorem cB_pos {t b : Int} (h : b ≠ 0) : 0 < cB t b := by
  have e := cB_mul (t := t) (b := b)
  have g := g_pos (t := t) h
  rcases Int.lt_trichotomy (cB t b) 0 with z | z | z
  · exfalso
    unfold sg at e
    split at e
    · have : 0 < (-(Nat.gcd t.natAbs b.natAbs : Int)) * cB t b := Int.mul_pos_of_neg_of_neg (by omega) z
      omega
    · have : (Nat.gcd t.natAbs b.natAbs : Int) * cB t b < 0 := Int.mul_neg_of_pos_of_neg (by omega) z
      omega
  · rw [z, Int.mul_zero] at e
    omega
  · exact z
theorem cT_le {t b : Int} (h : b ≠ 0) : (cT t b).natAbs ≤ t.natAbs := by
  have e := congrArg Int.natAbs (cT_mul (t := t) (b := b))
  rw [Int.natAbs_mul, sg_abs] at e
  rw [← e]
  exact Nat.le_mul_of_pos_left _ (g_pos h)
theorem cB_le {t b : Int} (h : b ≠ 0) : (cB t b).natAbs ≤ b.natAbs := by
  have e := congrArg Int.natAbs (cB_mul (t := t) (b := b))
  rw [Int.natAbs_mul, sg_abs] at e
  rw [← e]
  exact Nat.le_mul_of_pos_left _ (g_pos h)
theorem c_cross {t b : Int} : cT t b * b = cB t b * t := by
  have e1 := cT_mul (t := t) (b := b)
  have e2 := cB_mul (t := t) (b := b)
  calc cT t b * b = cT t b * (sg t b * cB t b) := by rw [e2]
    _ = cB t b * (sg t b * cT t b) := by rw [Int.mul_left_comm, Int.mul_comm (cT t b), Int.mul_left_comm]
    _ = cB t b * t := by rw [e1]
theorem c_gcd {t b : Int} (h : b ≠ 0) : Nat.gcd (cT t b).natAbs (cB t b).natAbs = 1 := by
  have e1 := congrArg Int.natAbs (cT_mul (t := t) (b := b))
  have e2 := congrArg Int.natAbs (cB_mul (t := t) (b := b))
  rw [Int.natAbs_mul, sg_abs] at e1 e2
  have g := g_pos (t := t) h
  have k : Nat.gcd (Nat.gcd t.natAbs b.natAbs * (cT t b).natAbs) (Nat.gcd t.natAbs b.natAbs * (cB t b).natAbs) = Nat.gcd t.natAbs b.natAbs := by rw [e1, e2]
  rw [Nat.gcd_mul_left] at k
  exact Nat.eq_of_mul_eq_mul_left g (by omega)
theorem gcd_step {x y : Int} (hx : 0 ≤ x) (hy : 0 < y) : 0 ≤ x.fmod y ∧ x.fmod y < y ∧ Nat.gcd y.natAbs (x.fmod y).natAbs = Nat.gcd x.natAbs y.natAbs := by
  rw [Int.fmod_eq_emod_of_nonneg x (by omega)]
  refine ⟨Int.emod_nonneg _ (by omega), Int.emod_lt_of_pos _ hy, ?_⟩
  have e : (x % y).natAbs = x.natAbs % y.natAbs := by
    obtain ⟨n, rfl⟩ := Int.eq_ofNat_of_zero_le hx
    obtain ⟨k, rfl⟩ := Int.eq_ofNat_of_zero_le (Int.le_of_lt hy)
    rfl
  rw [e, Nat.gcd_comm x.natAbs, Nat.gcd_rec y.natAbs x.natAbs, Nat.gcd_comm]
end Mth

namespace Lw
open PySem PySem.Spec PyProof.Rows L2 Fw
def topS (i : Nat) : Stmt := PySem.Challenge.pw_slopesback_k03_below_and_written.main.body.getD i (.Pass ⟨0, 0, 0, 0⟩)
abbrev s_is_below : Stmt := topS 1
theorem sc_is_below : FnScope ["one", "two"] ["one", "two"] (defScope s_is_below) := ⟨rfl, rfl, rfl, by decide +kernel, rfl, by decide +kernel, by decide +kernel⟩
theorem b_is_below : Fw.BindsOk "is_below" "is_below" ["one", "two"] s_is_below := fun _ _ _ _ _ _ us hl => match us, hl with | [_, _], _ => rfl
abbrev s_written : Stmt := topS 2
theorem sc_written : FnScope ["one"] ["one"] (defScope s_written) := ⟨rfl, rfl, rfl, by decide +kernel, rfl, by decide +kernel, by decide +kernel⟩
theorem b_written : Fw.BindsOk "written" "written" ["one"] s_written := fun _ _ _ _ _ _ us hl => match us, hl with | [_], _ => rfl
abbrev s_l_dice : Stmt := topS 4
theorem sc_l_dice : FnScope ["_law_script", "_law_mixed", "_law_cell"] ["_law_script"] (defScope s_l_dice) := ⟨rfl, rfl, rfl, by decide +kernel, rfl, by decide +kernel, by decide +kernel⟩
theorem b_l_dice : Fw.BindsOk "_law_dice" "_law_dice" ["_law_script"] s_l_dice := fun _ _ _ _ _ _ us hl => match us, hl with | [_], _ => rfl
abbrev s_l_next : Stmt := topS 5
theorem sc_l_next : FnScope ["_law_dice_here", "_law_many", "_law_cell"] ["_law_dice_here", "_law_many"] (defScope s_l_next) := ⟨rfl, rfl, rfl, by decide +kernel, rfl, by decide +kernel, by decide +kernel⟩
theorem b_l_next : Fw.BindsOk "_law_next" "_law_next" ["_law_dice_here", "_law_many"] s_l_next := fun _ _ _ _ _ _ us hl => match us, hl with | [_, _], _ => rfl
abbrev s_l_cut : Stmt := topS 6
theorem sc_l_cut : FnScope ["_law_top", "_law_bottom", "_law_one", "_law_two", "_law_rest"] ["_law_top", "_law_bottom"] (defScope s_l_cut) := ⟨rfl, rfl, rfl, by decide +kernel, rfl, by decide +kernel, by decide +kernel⟩
theorem b_l_cut : Fw.BindsOk "_law_cut" "_law_cut" ["_law_top", "_law_bottom"] s_l_cut := fun _ _ _ _ _ _ us hl => match us, hl with | [_, _], _ => rfl
abbrev s_l_fraction : Stmt := topS 7
theorem sc_l_fraction : FnScope ["_law_dice_here", "_law_far", "_law_top", "_law_low"] ["_law_dice_here"] (defScope s_l_fraction) := ⟨rfl, rfl, rfl, by decide +kernel, rfl, by decide +kernel, by decide +kernel⟩
theorem b_l_fraction : Fw.BindsOk "_law_fraction" "_law_fraction" ["_law_dice_here"] s_l_fraction := fun _ _ _ _ _ _ us hl => match us, hl with | [_], _ => rfl
abbrev s_law : Stmt := topS 8
theorem sc_law : FnScope ["_law_script", "_law_dice_here", "_law_one", "_law_two", "_law_way", "_law_found", "_law_due", "_law_told"] ["_law_script"] (defScope s_law) := ⟨rfl, rfl, rfl, by decide +kernel, rfl, by decide +kernel, by decide +kernel⟩
theorem b_law : Fw.BindsOk "law" "law" ["_law_script"] s_law := fun _ _ _ _ _ _ us hl => match us, hl with | [_], _ => rfl

/-- the built-ins' names are free -/
structure Fre (mg : Str → Option Value) : Prop where
  f_len : mg "len" = none
  f_int : mg "int" = none
  f_str : mg "str" = none
  f_abs : mg "abs" = none
  f_bool : mg "bool" = none
  f_isinstance : mg "isinstance" = none
local macro_rules | `(tactic| walk_at "cond") => `(tactic| first | assumption | (with_reducible exact cdiv_small (by omega) (by omega)) | (with_reducible exact cmul_small (by omega) (by omega)) | (with_reducible exact cpow_mk (by omega) (by omega) (by omega)) | omega)
local macro_rules | `(tactic| walk_at "ne") => `(tactic| first | assumption | exact Ne.symm (by assumption) | exact ne_of_none (by assumption) (by assumption) | exact Ne.symm (ne_of_none (by assumption) (by assumption)))
local macro_rules | `(tactic| walk_at "at") => `(tactic| first
  | assumption
  | (with_reducible exact upd_same)
  | ((with_reducible refine' at_same ?hk ?hh); (case hk => assumption); (case hh => walk_at "at"))
  | ((with_reducible refine' at_keepT ?hk ?hh ?hd); (case hk => assumption); (case hh => walk_at "at"); (case hd => walk_at "at"))
  | ((with_reducible refine' at_keep ?hk ?hh ?hn); (case hk => assumption); (case hh => walk_at "at"); (case hn => walk_at "ne")))
local macro_rules | `(tactic| walk_at "hp") => `(tactic| first
  | assumption
  | ((with_reducible refine' SqT.of ?hq); (case hq => walk_at "at")) | ((with_reducible refine' SqL.of ?hq); (case hq => walk_at "at"))
  | ((with_reducible refine' sql_same ?hk ?hh); (case hk => assumption); (case hh => walk_at "hp"))
  | ((with_reducible refine' sql_keep ?hk ?hh ?hn); (case hk => assumption); (case hh => walk_at "hp"); (case hn => walk_at "ne"))
  | ((with_reducible refine' sqt_same ?hk ?hh); (case hk => assumption); (case hh => walk_at "hp")))
local macro_rules | `(tactic| walk_at "wp1") => `(tactic| first
  | with_reducible refine w_seq ?_ | with_reducible refine w_set ?_ | with_reducible refine w_drop ?_ | with_reducible refine w_ret ?_ | with_reducible refine w_ifS ?_ | with_reducible refine w_next ?_
  | ((with_reducible refine' w_var ?hv ?_); (case hv => rfl)) | with_reducible refine w_c ?_
  | with_reducible refine w_op ?_ | with_reducible refine w_un ?_ | with_reducible refine w_cb ?_ | with_reducible refine w_cal ?_ | with_reducible refine w_cons ?_ | with_reducible refine w_nil ?_
  | with_reducible refine w_plus ?_ | with_reducible refine w_minus ?_ | with_reducible refine w_lt ?_ | with_reducible refine w_le ?_ | with_reducible refine w_gt ?_ | with_reducible refine w_ge ?_
  | with_reducible refine w_eqI ?_ | with_reducible refine w_neI ?_ | with_reducible refine w_eqB ?_ | with_reducible refine w_neB ?_ | with_reducible refine w_eqS ?_ | with_reducible refine w_neS ?_
  | with_reducible refine w_neg ?_ | with_reducible refine w_abs ?_ | with_reducible refine w_intB ?_ | with_reducible refine w_test ?_ | with_reducible refine w_tB ?_ | with_reducible refine w_bl ?_
  | with_reducible refine w_and ?_ | with_reducible refine w_or ?_ | with_reducible refine w_not ?_ | with_reducible refine w_andV ?_ | with_reducible refine w_orV ?_ | with_reducible refine w_notV ?_ | with_reducible refine w_ifE ?_
  | with_reducible refine w_nyes ?_ | with_reducible refine w_nno ?_ | with_reducible refine w_yes ?_ | with_reducible refine w_no ?_
  | ((with_reducible refine' w_ixL ?ha ?hb ?_); (case ha => walk_at "hp"); (case hb => rfl)) | ((with_reducible refine' w_ixT ?ha ?hb ?_); (case ha => walk_at "hp"); (case hb => rfl))
  | ((with_reducible refine' w_lenL ?ha ?_); (case ha => walk_at "hp")) | ((with_reducible refine' w_lenT ?ha ?_); (case ha => walk_at "hp"))
  | with_reducible refine isi_ii ?_ | with_reducible refine isi_ib ?_ | with_reducible refine isi_bb ?_ | with_reducible refine isi_ss ?_
  | ((with_reducible refine' isi_tt ?ha ?_); (case ha => walk_at "at")) | ((with_reducible refine' isi_ll ?ha ?_); (case ha => walk_at "at"))
  | with_reducible refine w_par ?_ | with_reducible refine w_par2 ?_ | with_reducible refine w_for ?_ | with_reducible refine w_iL ?_ | with_reducible refine w_iT ?_ | with_reducible refine w_iR1 ?_ | with_reducible refine w_iR2 ?_
  | with_reducible refine w_tup ?_ | with_reducible refine w_lst ?_
  | with_reducible refine w_asg ?_ | with_reducible refine w_gname ?_ | with_reducible refine w_gcons ?_ | with_reducible refine w_gnil ?_ | with_reducible refine w_gsub ?_
  | ((with_reducible refine' w_gtup ?ha ?hb ?_); (case ha => walk_at "hp"); (case hb => rfl))
  | ((with_reducible refine' w_fdiv ?hc ?_); (case hc => walk_at "cond")) | ((with_reducible refine' w_mul ?hc ?_); (case hc => walk_at "cond"))
  | ((with_reducible refine' w_mod ?hc ?_); (case hc => walk_at "cond")) | ((with_reducible refine' w_pow ?hc ?_); (case hc => walk_at "cond")))
local macro_rules | `(tactic| walk_at "wp") => `(tactic| repeat walk_at "wp1")


/-! ### the dice -/
/-- the script: locked, or of the written part -/
def SqS (K : PySem.W.Frag) (H : Hp) (a : Addr) (xs : List V) : Prop := (∃ o, H a = some (.frz o (.lst xs))) ∨ ∀ H', SqL K H' a xs
theorem SqS.of {K : PySem.W.Frag} {H : Hp} {a : Addr} {xs : List V} (hO : Only H) (h : SqL K H a xs) : SqS K H a xs := by
  rcases h with (h | ⟨o, h⟩) | h
  · rcases hO a with z | ⟨o, ys, z⟩ <;> (rw [h] at z; cases z)
  · exact .inl ⟨o, h⟩
  · exact .inr fun H' => .inr h
theorem SqS.sql {K : PySem.W.Frag} {H : Hp} {a : Addr} {xs : List V} (h : SqS K H a xs) : SqL K H a xs := by
  rcases h with ⟨o, h⟩ | h
  · exact .inl (.inr ⟨o, h⟩)
  · exact h H
theorem SqS.same {K : PySem.W.Frag} {H H' : Hp} {a : Addr} {xs : List V} (k : Same H H') (h : SqS K H a xs) : SqS K H' a xs := by
  rcases h with ⟨o, h⟩ | h
  · exact .inl ⟨o, k _ _ h⟩
  · exact .inr h
theorem SqS.keep {K : PySem.W.Frag} {H H' : Hp} {a d : Addr} {xs ys : List V} (k : Keep d H H') (hd : H d = some (.lst ys)) (h : SqS K H a xs) : SqS K H' a xs := by
  rcases h with ⟨o, h⟩ | h
  · exact .inl ⟨o, k _ _ (ne_of h hd (by intro z; cases z)) h⟩
  · exact .inr h
structure DiceAt (K : PySem.W.Frag) (H : Hp) (d : Addr) : Prop where
  ex : ∃ (a : Addr) (ns : List Int) (i x c : Int), H d = some (.lst [.ref a, .int i, .int x, .int c]) ∧ SqS K H a (ns.map V.int) ∧ 0 ≤ i ∧ 0 ≤ x ∧ x < 2147483647
theorem DiceAt.same {K : PySem.W.Frag} {H H' : Hp} {d : Addr} (k : Same H H') (h : DiceAt K H d) : DiceAt K H' d := by
  obtain ⟨a, ns, i, x, c, h1, h2, h3, h4, h5⟩ := h.ex
  exact ⟨a, ns, i, x, c, k _ _ h1, h2.same k, h3, h4, h5⟩
section
variable {P : Program} {w : World} {K : PySem.W.Frag} {mg : Str → Option Value} {base : Heap}
def spDice (K : PySem.W.Frag) : Sp := fun vs H Q _ => ∃ (a : Addr) (ns : List Int), vs = [.ref a] ∧ SqS K H a (ns.map V.int) ∧ ∀ d H', H d = none → DiceAt K H' d → Same H H' → Q (.ref d) H'
def spNext (K : PySem.W.Frag) : Sp := fun vs H Q _ => ∃ (d : Addr) (m : Int), vs = [.ref d, .int m] ∧ DiceAt K H d ∧ 0 < m ∧ m.natAbs.log2 < 9000 ∧ ∀ r H', 0 ≤ r → r < m → DiceAt K H' d → Keep d H H' → Q (.int r) H'
theorem c_l_next (F : Def K mg "_law_next" s_l_next) (T : Fre mg) : Cal P w K mg base 1 "_law_next" ["_law_dice_here", "_law_many"] (spNext K) := by
  refine cal_of F sc_l_next b_l_next (fun vs H Q E h => ?_) (fun cdv A outer s H vs Q E hr h => ?_)
  · obtain ⟨d, m, rfl, _⟩ := h
    rfl
  · obtain ⟨d, m, rfl, D, hm, hl, q⟩ := h
    refine ⟨_, (pss_cons (ps_asg (pe_tup (pa_cons (pe_ix ix_list (pv 0) pe_int (fun _ _ => rfl)) (pa_cons (pe_op o_fdiv (pe_ix ix_list (pv 0) pe_int (fun _ _ => rfl)) (pv 1)) pa_nil))) (pg_tup (n := 2) rfl (pgs_cons (pg_name (i := 2) sc_l_next.nd rfl (.inl rfl)) (pgs_cons (pg_sub (pv 0) pe_int set_list) pgs_nil))))
      (pss_cons (ps_if (pt_cmpR op_eq (pv 2) pe_int (nomark _)) (pss_cons (ps_asg (pe_tup (pa_cons (pe_op o_add (pe_ix ix_list (pv 0) pe_int (fun _ _ => rfl)) pe_int) (pa_cons (pe_op o_mod (pe_op o_mul (pe_ix ix_list (pv 0) pe_int (fun _ _ => rfl)) pe_int) pe_int) pa_nil))) (pg_tup (n := 2) rfl (pgs_cons (pg_sub (pv 0) pe_int set_list) (pgs_cons (pg_sub (pv 0) pe_int set_list) pgs_nil))))
      (pss_cons (ps_set (i := 2) sc_l_next.nd rfl (.inl rfl) (pe_ifExp (pt_cmpR o_le (pe_ix ix_list (pv 0) pe_int (fun _ _ => rfl)) (pe_callB c_len (by rfl) T.f_len (by decide +kernel) (pa_cons (pe_ix ix_list (pv 0) pe_int (fun _ _ => rfl)) pa_nil)) (nomark _)) (pe_ix ix_list (pe_ix ix_list (pv 0) pe_int (fun _ _ => rfl)) (pe_op o_sub (pe_ix ix_list (pv 0) pe_int (fun _ _ => rfl)) pe_int) (fun _ _ => rfl)) (pe_op o_fdiv (pe_op o_pow (pe_ix ix_list (pv 0) pe_int (fun _ _ => rfl)) pe_int) pe_int)))
      (pss_one (ps_asg (pe_ifExp (pt_cmpR o_ge (pv 2) (pe_op o_pow pe_int pe_int) (nomark _)) (pe_op o_fdiv (pv 2) (pv 1)) pe_int) (pg_sub (pv 0) pe_int set_list))))) pss_nil)
      (pss_one (ps_ret (pe_op o_mod (pv 2) (pv 1)))))), ?_⟩
    refine w_start [some (.ref d), some (.int m), none] rfl ?_
    try dsimp only [cxOf]
    obtain ⟨a, ns, i, x, c, h1, h2, h3, h4, h5⟩ := D.ex
    walk_at "wp"
    refine w_fdiv ⟨by omega, hl⟩ ?_
    walk_at "wp"
    refine newT fun p H1 np e1 s1 => ?_
    walk_at "wp"
    refine w_setL (at_same s1 h1) rfl fun H2 e2 k2 => ?_
    walk_at "wp"
    have d1 : SqS K H1 a (ns.map V.int) := h2.same s1
    have d2 : SqS K H2 a (ns.map V.int) := d1.keep k2 (at_same s1 h1)
    refine w_dec (fun hc => ?_) (fun hc => ?_)
    · walk_at "wp"
      refine newT fun p3 H3 np3 e3 s3 => ?_
      walk_at "wp"
      refine w_setL (at_same s3 e2) rfl fun H4 e4 k4 => ?_
      walk_at "wp"
      refine w_setL e4 rfl fun H5 e5 k5 => ?_
      have d3 : SqS K H3 a (ns.map V.int) := d2.same s3
      have d4 : SqS K H4 a (ns.map V.int) := d3.keep k4 (at_same s3 e2)
      have d5 : SqS K H5 a (ns.map V.int) := d4.keep k5 e4
      have d5' := d5.sql
      have hx0 : 0 ≤ (x * 48271).fmod 2147483647 := by rw [Int.fmod_eq_emod_of_nonneg _ (by omega)]; exact Int.emod_nonneg _ (by omega)
      have hx1 : (x * 48271).fmod 2147483647 < 2147483647 := by rw [Int.fmod_eq_emod_of_nonneg _ (by omega)]; exact Int.emod_lt_of_pos _ (by omega)
      generalize (x * 48271).fmod 2147483647 = y at *
      walk_at "wp"
      have fin : ∀ (z : Int) (σ : L2.St), σ = [some (.ref d), some (.int m), some (.int z)] → tSeq (tAsg (tIf (tTest (tOp rGe (tVar 2) (tOp rPow (tC (V.int 10)) (tC (V.int 18))))) (tOp rFdiv (tVar 2) (tVar 1)) (tC (V.int 0))) (gSub (tVar 0) (tC (V.int 3)) rSetL)) (tRet (tOp rMod (tVar 2) (tVar 1))) { nx := fun _ H' => Q V.non H', rt := Q } σ H5 := by
        intro z σ es
        subst es
        have go : ∀ H6 c6, H6 d = some (.lst [.ref a, .int (i + 1), .int y, .int c6]) → Keep d H5 H6 → tRet (tOp rMod (tVar 2) (tVar 1)) { nx := fun _ H' => Q V.non H', rt := Q } [some (.ref d), some (.int m), some (.int z)] H6 := by
          intro H6 c6 e6 k6
          walk_at "wp"
          rw [Int.fmod_eq_emod_of_nonneg z (by omega)]
          exact q _ H6 (Int.emod_nonneg _ (by omega)) (Int.emod_lt_of_pos _ hm) ⟨a, ns, i + 1, y, _, e6, d5.keep k6 e5, by omega, hx0, hx1⟩ ((((s1.keep k2).same s3).trans k4).trans (k5.trans k6))
        walk_at "wp"
        refine w_dec (fun _ => ?_) (fun _ => ?_)
        · walk_at "wp"
          refine w_fdiv ⟨by omega, hl⟩ ?_
          walk_at "wp"
          exact w_setL e5 rfl fun H6 e6 k6 => go H6 _ e6 k6
        · walk_at "wp"
          exact w_setL e5 rfl fun H6 e6 k6 => go H6 _ e6 k6
      refine w_dec (fun hi => ?_) (fun hi => ?_)
      · rw [List.length_map] at hi
        walk_at "wp"
        obtain ⟨z, _, ez⟩ := atI_ints (ns := ns) (z := i + 1 - 1) (by omega) (by omega)
        exact w_ixL d5' ez (fin z _ rfl)
      · repeat (first | exact fin _ _ rfl | walk_at "wp1")
    · walk_at "wp"
      rw [Int.fmod_eq_emod_of_nonneg c (by omega)]
      exact q _ H2 (Int.emod_nonneg _ (by omega)) (Int.emod_lt_of_pos _ hm) ⟨a, ns, i, x, _, e2, d2, h3, h4, h5⟩ (s1.keep k2)
theorem c_l_dice (F : Def K mg "_law_dice" s_l_dice) (T : Fre mg) : Cal P w K mg base 1 "_law_dice" ["_law_script"] (spDice K) := by
  refine cal_of F sc_l_dice b_l_dice (fun vs H Q E h => ?_) (fun cdv A outer s H vs Q E hr h => ?_)
  · obtain ⟨a, ns, rfl, _⟩ := h
    rfl
  · obtain ⟨a, ns, rfl, hS', q⟩ := h
    have hS := hS'.sql
    have po := passes_of (X := cxOf (L2.CX P w) P w K mg base ["_law_script", "_law_mixed", "_law_cell"] "_law_dice" (defScope s_l_dice) (He.ga K "_law_dice") cdv A outer s H E) rfl
    refine ⟨_, (pss_cons (ps_set (i := 1) sc_l_dice.nd rfl (.inl rfl) pe_int)
      (pss_cons (ps_for po rfl (pi_list (pv 0)) (pg_name (i := 2) sc_l_dice.nd rfl (.inl rfl)) (pss_one (ps_set (i := 1) sc_l_dice.nd rfl (.inl rfl) (pe_op o_mod (pe_op o_add (pe_op o_add (pe_op o_mul (pv 1) pe_int) (pe_op o_mul (pe_op o_mod (pv 2) pe_int) pe_int)) pe_int) pe_int))))
      (pss_one (ps_ret (pe_lst (pa_cons (pv 0) (pa_cons pe_int (pa_cons (pe_op o_mul (pv 1) (pe_callTy c_intB (by rfl) T.f_int (by decide +kernel) (pa_cons (pe_cmpR o_gt (pe_callB c_len (by rfl) T.f_len (by decide +kernel) (pa_cons (pv 0) pa_nil)) pe_int (nomark _)) pa_nil))) (pa_cons pe_int pa_nil))))))))), ?_⟩
    refine w_start [some (.ref a), none, none] rfl ?_
    try dsimp only [cxOf]
    walk_at "wp"
    refine forL hS (fun i σ H' => ∃ x y, σ = [some (.ref a), some (.int x), y] ∧ 0 ≤ x ∧ x < 2147483647 ∧ H' = H) ⟨0, none, rfl, by omega, by omega, rfl⟩ (fun i σ H' _ h => ?_) (fun i v σ H' hv h => ?_) (fun σ H' h => ?_)
    · obtain ⟨x, y, rfl, _, _, rfl⟩ := h
      exact hS
    · obtain ⟨x, y, rfl, h0, h1, rfl⟩ := h
      obtain ⟨z, rfl⟩ : ∃ z, v = V.int z := by
        rw [List.getElem?_map] at hv
        cases e : ns[i]? with
        | none => rw [e] at hv; cases hv
        | some z => rw [e] at hv; exact ⟨z, (Option.some.inj hv).symm⟩
      have hz0 : 0 ≤ z.fmod 2147483647 := by rw [Int.fmod_eq_emod_of_nonneg _ (by omega)]; exact Int.emod_nonneg _ (by omega)
      have hz1 : z.fmod 2147483647 < 2147483647 := by rw [Int.fmod_eq_emod_of_nonneg _ (by omega)]; exact Int.emod_lt_of_pos _ (by omega)
      walk_at "wp"
      refine ⟨_, _, rfl, ?_, ?_, rfl⟩
      · rw [Int.fmod_eq_emod_of_nonneg _ (by omega)]; exact Int.emod_nonneg _ (by omega)
      · rw [Int.fmod_eq_emod_of_nonneg _ (by omega)]; exact Int.emod_lt_of_pos _ (by omega)
    · obtain ⟨x, y, rfl, h0, h1, rfl⟩ := h
      walk_at "wp"
      have hb : (if decide (2 < ((ns.map V.int).length : Int)) = true then (1 : Int) else 0) = 0 ∨ (if decide (2 < ((ns.map V.int).length : Int)) = true then (1 : Int) else 0) = 1 := by
        split
        · exact .inr rfl
        · exact .inl rfl
      generalize (if decide (2 < ((ns.map V.int).length : Int)) = true then (1 : Int) else 0) = k at *
      have hk : 0 ≤ x * k ∧ x * k < 2147483647 := by
        rcases hb with rfl | rfl
        · rw [Int.mul_zero]; omega
        · rw [Int.mul_one]; omega
      refine newL fun d H1 nd e1 s1 => ?_
      exact q d H1 nd ⟨a, ns, 0, x * k, 0, e1, hS'.same s1, by omega, hk.1, hk.2⟩ s1
/-! ### _law_cut -/
theorem absI (t : Int) : (if t < 0 then -t else t) = (t.natAbs : Int) := by split <;> omega
theorem log2_le {a b : Nat} (h : a ≤ b) {n : Nat} (hb : b.log2 < n) : a.log2 < n := by
  by_cases h0 : a = 0
  · subst h0
    exact Nat.lt_of_le_of_lt (Nat.zero_le _) hb
  · have h1 : a.log2 ≤ b.log2 := by
      rw [Nat.le_log2 (by omega)]
      exact Nat.le_trans (Nat.log2_self_le h0) h
    omega
def spCut : Sp := fun vs H Q _ => ∃ t b : Int, vs = [.int t, .int b] ∧ b ≠ 0 ∧ b.natAbs.log2 < 9000 ∧ ∀ p H', H p = none → H' p = some (.tup [.int (Mth.cT t b), .int (Mth.cB t b)]) → Same H H' → Q (.ref p) H'
theorem c_l_cut (F : Def K mg "_law_cut" s_l_cut) (T : Fre mg) : Cal P w K mg base 1 "_law_cut" ["_law_top", "_law_bottom"] spCut := by
  refine cal_of F sc_l_cut b_l_cut (fun vs H Q E h => ?_) (fun cdv A outer s H vs Q E hr h => ?_)
  · obtain ⟨t, b, rfl, _⟩ := h
    rfl
  · obtain ⟨t, b, rfl, hb, hl, q⟩ := h
    have po := passes_of (X := cxOf (L2.CX P w) P w K mg base ["_law_top", "_law_bottom", "_law_one", "_law_two", "_law_rest"] "_law_cut" (defScope s_l_cut) (He.ga K "_law_cut") cdv A outer s H E) rfl
    refine ⟨_, (pss_cons (ps_set (i := 2) sc_l_cut.nd rfl (.inl rfl) (pe_callB c_abs (by rfl) T.f_abs (by decide +kernel) (pa_cons (pv 0) pa_nil)))
      (pss_cons (ps_set (i := 3) sc_l_cut.nd rfl (.inl rfl) (pe_callB c_abs (by rfl) T.f_abs (by decide +kernel) (pa_cons (pv 1) pa_nil)))
      (pss_cons (ps_while po (pt_cmpR o_gt (pv 3) pe_int (nomark _)) (pss_cons (ps_set (i := 4) sc_l_cut.nd rfl (.inl rfl) (pe_op o_mod (pv 2) (pv 3)))
      (pss_cons (ps_set (i := 2) sc_l_cut.nd rfl (.inl rfl) (pv 3))
      (pss_one (ps_set (i := 3) sc_l_cut.nd rfl (.inl rfl) (pv 4))))))
      (pss_cons (ps_if (pt_cmpR o_lt (pv 1) pe_int (nomark _)) (pss_one (ps_set (i := 2) sc_l_cut.nd rfl (.inl rfl) (pe_op o_sub pe_int (pv 2)))) pss_nil)
      (pss_one (ps_ret (pe_tup (pa_cons (pe_op o_fdiv (pv 0) (pv 2)) (pa_cons (pe_op o_fdiv (pv 1) (pv 2)) pa_nil))))))))), ?_⟩
    refine w_start [some (.int t), some (.int b), none, none, none] rfl ?_
    try dsimp only [cxOf]
    walk_at "wp"
    rw [absI, absI]
    refine w_while (fun m σ H' => ∃ (x y : Int) (z : Option V), σ = [some (.int t), some (.int b), some (.int x), some (.int y), z] ∧ 0 ≤ x ∧ 0 ≤ y ∧ m = y.natAbs ∧ Nat.gcd x.natAbs y.natAbs = Nat.gcd t.natAbs b.natAbs ∧ H' = H) b.natAbs ⟨_, _, none, rfl, by omega, by omega, by omega, by simp, rfl⟩ fun m σ H' h => ?_
    obtain ⟨x, y, z, rfl, hx, hy, rfl, hg, rfl⟩ := h
    walk_at "wp"
    refine w_dec (fun h0 => w_turn ?_) (fun h0 => ?_)
    · walk_at "wp"
      obtain ⟨g1, g2, g3⟩ := Mth.gcd_step hx h0
      exact ⟨_, by omega, _, _, _, rfl, by omega, g1, rfl, g3.trans hg, rfl⟩
    · have hy0 : y = 0 := by omega
      subst hy0
      have ex : (x.natAbs : Nat) = Nat.gcd t.natAbs b.natAbs := by rw [← hg]; simp
      have hs : (if b < 0 then -x else x) = Mth.sg t b := by
        unfold Mth.sg
        split <;> omega
      have hne := Mth.sg_ne (t := t) hb
      have hlog : (Mth.sg t b).natAbs.log2 < 9000 := log2_le (Mth.sg_le hb) hl
      walk_at "wp"
      refine w_dec (fun hb0 => ?_) (fun hb0 => ?_)
      · rw [if_pos hb0] at hs
        walk_at "wp"
        rw [Int.zero_sub, hs]
        refine w_fdiv ⟨hne, hlog⟩ ?_
        walk_at "wp"
        refine w_fdiv ⟨hne, hlog⟩ ?_
        walk_at "wp"
        exact newT fun p H1 np e1 s1 => q p H1 np e1 s1
      · rw [if_neg hb0] at hs
        subst hs
        walk_at "wp"
        refine w_fdiv ⟨hne, hlog⟩ ?_
        walk_at "wp"
        refine w_fdiv ⟨hne, hlog⟩ ?_
        walk_at "wp"
        exact newT fun p H1 np e1 s1 => q p H1 np e1 s1
end
end Lw

namespace Lw
open PySem PySem.Spec PyProof.Rows L2 Fw
local macro_rules | `(tactic| walk_at "cond") => `(tactic| first | assumption | (with_reducible exact cdiv_small (by omega) (by omega)) | (with_reducible exact cmul_small (by omega) (by omega)) | (with_reducible exact cpow_mk (by omega) (by omega) (by omega)) | omega)
local macro_rules | `(tactic| walk_at "ne") => `(tactic| first | assumption | exact Ne.symm (by assumption) | exact ne_of_none (by assumption) (by assumption) | exact Ne.symm (ne_of_none (by assumption) (by assumption)))
local macro_rules | `(tactic| walk_at "at") => `(tactic| first
  | assumption
  | (with_reducible exact upd_same)
  | ((with_reducible refine' at_same ?hk ?hh); (case hk => assumption); (case hh => walk_at "at"))
  | ((with_reducible refine' at_keepT ?hk ?hh ?hd); (case hk => assumption); (case hh => walk_at "at"); (case hd => walk_at "at"))
  | ((with_reducible refine' at_keep ?hk ?hh ?hn); (case hk => assumption); (case hh => walk_at "at"); (case hn => walk_at "ne")))
local macro_rules | `(tactic| walk_at "hp") => `(tactic| first
  | assumption
  | ((with_reducible refine' SqT.of ?hq); (case hq => walk_at "at")) | ((with_reducible refine' SqL.of ?hq); (case hq => walk_at "at"))
  | ((with_reducible refine' sql_same ?hk ?hh); (case hk => assumption); (case hh => walk_at "hp"))
  | ((with_reducible refine' sql_keep ?hk ?hh ?hn); (case hk => assumption); (case hh => walk_at "hp"); (case hn => walk_at "ne"))
  | ((with_reducible refine' sqt_same ?hk ?hh); (case hk => assumption); (case hh => walk_at "hp")))
local macro_rules | `(tactic| walk_at "wp1") => `(tactic| first
  | with_reducible refine w_seq ?_ | with_reducible refine w_set ?_ | with_reducible refine w_drop ?_ | with_reducible refine w_ret ?_ | with_reducible refine w_ifS ?_ | with_reducible refine w_next ?_
  | ((with_reducible refine' w_var ?hv ?_); (case hv => rfl)) | with_reducible refine w_c ?_
  | with_reducible refine w_op ?_ | with_reducible refine w_un ?_ | with_reducible refine w_cb ?_ | with_reducible refine w_cal ?_ | with_reducible refine w_cons ?_ | with_reducible refine w_nil ?_
  | with_reducible refine w_plus ?_ | with_reducible refine w_minus ?_ | with_reducible refine w_lt ?_ | with_reducible refine w_le ?_ | with_reducible refine w_gt ?_ | with_reducible refine w_ge ?_
  | with_reducible refine w_eqI ?_ | with_reducible refine w_neI ?_ | with_reducible refine w_eqB ?_ | with_reducible refine w_neB ?_ | with_reducible refine w_eqS ?_ | with_reducible refine w_neS ?_
  | with_reducible refine w_neg ?_ | with_reducible refine w_abs ?_ | with_reducible refine w_intB ?_ | with_reducible refine w_test ?_ | with_reducible refine w_tB ?_ | with_reducible refine w_bl ?_
  | with_reducible refine w_and ?_ | with_reducible refine w_or ?_ | with_reducible refine w_not ?_ | with_reducible refine w_andV ?_ | with_reducible refine w_orV ?_ | with_reducible refine w_notV ?_ | with_reducible refine w_ifE ?_
  | with_reducible refine w_nyes ?_ | with_reducible refine w_nno ?_ | with_reducible refine w_yes ?_ | with_reducible refine w_no ?_
  | ((with_reducible refine' w_ixL ?ha ?hb ?_); (case ha => walk_at "hp"); (case hb => rfl)) | ((with_reducible refine' w_ixT ?ha ?hb ?_); (case ha => walk_at "hp"); (case hb => rfl))
  | ((with_reducible refine' w_lenL ?ha ?_); (case ha => walk_at "hp")) | ((with_reducible refine' w_lenT ?ha ?_); (case ha => walk_at "hp"))
  | with_reducible refine isi_ii ?_ | with_reducible refine isi_ib ?_ | with_reducible refine isi_bb ?_ | with_reducible refine isi_ss ?_
  | ((with_reducible refine' isi_tt ?ha ?_); (case ha => walk_at "at")) | ((with_reducible refine' isi_ll ?ha ?_); (case ha => walk_at "at"))
  | with_reducible refine w_par ?_ | with_reducible refine w_par2 ?_ | with_reducible refine w_for ?_ | with_reducible refine w_iL ?_ | with_reducible refine w_iT ?_ | with_reducible refine w_iR1 ?_ | with_reducible refine w_iR2 ?_
  | with_reducible refine w_tup ?_ | with_reducible refine w_lst ?_
  | with_reducible refine w_asg ?_ | with_reducible refine w_gname ?_ | with_reducible refine w_gcons ?_ | with_reducible refine w_gnil ?_ | with_reducible refine w_gsub ?_
  | ((with_reducible refine' w_gtup ?ha ?hb ?_); (case ha => walk_at "hp"); (case hb => rfl))
  | ((with_reducible refine' w_fdiv ?hc ?_); (case hc => walk_at "cond")) | ((with_reducible refine' w_mul ?hc ?_); (case hc => walk_at "cond"))
  | ((with_reducible refine' w_mod ?hc ?_); (case hc => walk_at "cond")) | ((with_reducible refine' w_pow ?hc ?_); (case hc => walk_at "cond")))
local macro_rules | `(tactic| walk_at "wp") => `(tactic| repeat walk_at "wp1")

section
variable {P : Program} {w : World} {K : PySem.W.Frag} {mg : Str → Option Value} {base : Heap}
/-! ### fractions drawn -/
/-- a tuple of two whole numbers of at most n bits, the second above nought -/
def FrAt (n : Nat) (H : Hp) (p : Addr) (t b : Int) : Prop := H p = some (.tup [.int t, .int b]) ∧ t.natAbs < 2 ^ n ∧ 0 < b ∧ b.natAbs < 2 ^ n
theorem lg {x : Int} {n m : Nat} (h : x.natAbs < 2 ^ n) (h0 : 0 < n) (hm : n ≤ m) : x.natAbs.log2 < m := Nat.lt_of_lt_of_le (PySem.Flt.log2_lt_of h0 h) hm
def spFraction (K : PySem.W.Frag) : Sp := fun vs H Q _ => ∃ d : Addr, vs = [.ref d] ∧ DiceAt K H d ∧ ∀ p t b H', H p = none → p ≠ d → FrAt 200 H' p t b → DiceAt K H' d → Keep d H H' → Q (.ref p) H'
theorem c_l_fraction (F : Def K mg "_law_fraction" s_l_fraction) (T : Fre mg) (c_l_next : Cal P w K mg base 1 "_law_next" ["_law_dice_here", "_law_many"] (spNext K)) (c_l_cut : Cal P w K mg base 1 "_law_cut" ["_law_top", "_law_bottom"] spCut) : Cal P w K mg base 2 "_law_fraction" ["_law_dice_here"] (spFraction K) := by
  refine cal_of F sc_l_fraction b_l_fraction (fun vs H Q E h => ?_) (fun cdv A outer s H vs Q E hr h => ?_)
  · obtain ⟨d, rfl, _⟩ := h
    rfl
  · obtain ⟨d, rfl, D, q⟩ := h
    have pc := passes_call (X := cxOf (L2.CX P w) P w K mg base ["_law_dice_here", "_law_far", "_law_top", "_law_low"] "_law_fraction" (defScope s_l_fraction) (He.ga K "_law_fraction") cdv A outer s H E) (E := E) (takes_of rfl rfl rfl rfl) (fun _ _ _ _ h => h)
    refine ⟨_, (pss_cons (ps_set (i := 1) sc_l_fraction.nd rfl (.inl rfl) (pe_ix ix_list (pe_lst (pa_cons pe_int (pa_cons pe_int (pa_cons (pe_op o_pow pe_int pe_int) (pa_cons (pe_op o_sub (pe_op o_pow pe_int pe_int) pe_int) pa_nil))))) (pe_cal c_l_next hr (by omega) pc (pa_cons (pv 0) (pa_cons pe_int pa_nil))) (fun _ _ => rfl)))
      (pss_cons (ps_par (by rfl) sc_l_fraction.nd (i := 2) (j := 3) rfl rfl (by decide) rfl rfl (pa_cons (pe_cal c_l_next hr (by omega) pc (pa_cons (pv 0) (pa_cons (pe_op o_add (pv 1) pe_int) pa_nil))) (pa_cons (pe_cal c_l_next hr (by omega) pc (pa_cons (pv 0) (pa_cons (pv 1) pa_nil))) pa_nil)) (by rfl))
      (pss_cons (ps_set (i := 2) sc_l_fraction.nd rfl (.inl rfl) (pe_ix ix_list (pe_lst (pa_cons (pv 2) (pa_cons (pe_op o_sub pe_int (pv 2)) (pa_cons (pe_op o_sub (pv 1) (pv 2)) (pa_cons (pe_op o_sub (pv 2) (pv 1)) pa_nil))))) (pe_cal c_l_next hr (by omega) pc (pa_cons (pv 0) (pa_cons pe_int pa_nil))) (fun _ _ => rfl)))
      (pss_one (ps_ret (pe_cal c_l_cut hr (by omega) pc (pa_cons (pv 2) (pa_cons (pe_ix ix_list (pe_lst (pa_cons (pe_op o_add pe_int (pv 3)) (pa_cons (pe_op o_sub (pv 1) (pv 3)) pa_nil))) (pe_cal c_l_next hr (by omega) pc (pa_cons (pv 0) (pa_cons pe_int pa_nil))) (fun _ _ => rfl)) pa_nil)))))))), ?_⟩
    refine w_start [some (.ref d), none, none, none] rfl ?_
    try dsimp only [cxOf]
    walk_at "wp"
    refine newL fun l H1 nl e1 s1 => ?_
    have ndl : l ≠ d := by
      obtain ⟨_, _, _, _, _, h1, _⟩ := D.ex
      exact (ne_of_none h1 nl).symm
    walk_at "wp"
    refine ⟨d, 4, rfl, D.same s1, by omega, by decide, fun r H2 r0 r1 D2 k2 => ?_⟩
    have e2 := at_keep k2 e1 ndl
    -- the far end
    obtain ⟨far, ef, f0, f1⟩ : ∃ far : Int, atI [V.int 3, V.int 1000, V.int (10 ^ Int.toNat 20), V.int (10 ^ Int.toNat 59 - 1)] r = some (.int far) ∧ 0 < far ∧ far < 2 ^ 198 := by
      have h : r = 0 ∨ r = 1 ∨ r = 2 ∨ r = 3 := by omega
      rcases h with rfl | rfl | rfl | rfl
      · exact ⟨3, rfl, by decide, by decide⟩
      · exact ⟨1000, rfl, by decide, by decide⟩
      · exact ⟨_, rfl, by decide, by decide⟩
      · exact ⟨_, rfl, by decide, by decide⟩
    refine w_ixL (SqL.of e2) ef ?_
    walk_at "wp"
    refine ⟨d, far + 1, rfl, D2, by omega, lg (n := 199) (by omega) (by decide) (by decide), fun t H3 t0 t1 D3 k3 => ?_⟩
    walk_at "wp"
    refine ⟨d, far, rfl, D3, by omega, lg (n := 198) (by omega) (by decide) (by decide), fun low H4 l0 l1 D4 k4 => ?_⟩
    walk_at "wp"
    refine newL fun l5 H5 nl5 e5 s5 => ?_
    have ndl5 : l5 ≠ d := by
      obtain ⟨_, _, _, _, _, h1, _⟩ := D4.ex
      exact (ne_of_none h1 nl5).symm
    walk_at "wp"
    refine ⟨d, 4, rfl, D4.same s5, by omega, by decide, fun r6 H6 r60 r61 D6 k6 => ?_⟩
    have e6 := at_keep k6 e5 ndl5
    obtain ⟨t', et, tb⟩ : ∃ t' : Int, atI [V.int t, V.int (0 - t), V.int (far - t), V.int (t - far)] r6 = some (.int t') ∧ t'.natAbs < 2 ^ 200 := by
      have h : r6 = 0 ∨ r6 = 1 ∨ r6 = 2 ∨ r6 = 3 := by omega
      rcases h with rfl | rfl | rfl | rfl
      · exact ⟨_, rfl, by omega⟩
      · exact ⟨_, rfl, by omega⟩
      · exact ⟨_, rfl, by omega⟩
      · exact ⟨_, rfl, by omega⟩
    refine w_ixL (SqL.of e6) et ?_
    walk_at "wp"
    refine newL fun l7 H7 nl7 e7 s7 => ?_
    have ndl7 : l7 ≠ d := by
      obtain ⟨_, _, _, _, _, h1, _⟩ := D6.ex
      exact (ne_of_none h1 nl7).symm
    walk_at "wp"
    refine ⟨d, 2, rfl, D6.same s7, by omega, by decide, fun r8 H8 r80 r81 D8 k8 => ?_⟩
    have e8 := at_keep k8 e7 ndl7
    obtain ⟨b, eb, b0, bb⟩ : ∃ b : Int, atI [V.int (1 + low), V.int (far - low)] r8 = some (.int b) ∧ 0 < b ∧ b.natAbs < 2 ^ 200 := by
      have h : r8 = 0 ∨ r8 = 1 := by omega
      rcases h with rfl | rfl
      · exact ⟨_, rfl, by omega, by omega⟩
      · exact ⟨_, rfl, by omega, by omega⟩
    refine w_ixL (SqL.of e8) eb ?_
    walk_at "wp"
    refine ⟨t', b, rfl, by omega, lg bb (by decide) (by decide), fun p H9 np e9 s9 => ?_⟩
    have npd : p ≠ d := by
      obtain ⟨_, _, _, _, _, h1, _⟩ := D8.ex
      exact (ne_of_none h1 np).symm
    have K8 : Keep d H H8 := ((((s1.keep k2).trans k3).trans k4).trans (s5.keep k6)).trans (s7.keep k8)
    have np0 : H p = none := by
      cases e : H p with
      | none => rfl
      | some o =>
        rw [K8 p o npd e] at np
        cases np
    exact q p _ _ H9 np0 npd ⟨e9, Nat.lt_of_le_of_lt (Mth.cT_le (by omega)) tb, Mth.cB_pos (by omega), Nat.lt_of_le_of_lt (Mth.cB_le (by omega)) bb⟩ (D8.same s9) (K8.same s9)
/-! ### the program's two defs -/
theorem mulw {x y : Int} {n m : Nat} (hx : x.natAbs < 2 ^ n) (hy : y.natAbs < 2 ^ m) (h0 : 0 < n) (h1 : 0 < m) (h : n + m ≤ 1000000) : CMulW x y := wide_mul hx hy h0 h1 h
def spBelow : Sp := fun vs H Q _ => ∃ p q t b t' b', vs = [.ref p, .ref q] ∧ FrAt 300 H p t b ∧ FrAt 300 H q t' b' ∧ Q (.bl (decide (t * b' < t' * b))) H
theorem c_is_below (F : Def K mg "is_below" s_is_below) : Cal P w K mg base 1 "is_below" ["one", "two"] spBelow := by
  refine cal_of F sc_is_below b_is_below (fun vs H Q E h => ?_) (fun cdv A outer s H vs Q E hr h => ?_)
  · obtain ⟨p, q, t, b, t', b', rfl, _⟩ := h
    rfl
  · obtain ⟨p, q, t, b, t', b', rfl, ⟨e1, h1, h2, h3⟩, ⟨e2, h4, h5, h6⟩, k⟩ := h
    refine ⟨_, (pss_one (ps_ret (pe_cmpR o_lt (pe_op o_mul (pe_ix ix_tup (pv 0) pe_int (fun _ _ => rfl)) (pe_ix ix_tup (pv 1) pe_int (fun _ _ => rfl))) (pe_op o_mul (pe_ix ix_tup (pv 1) pe_int (fun _ _ => rfl)) (pe_ix ix_tup (pv 0) pe_int (fun _ _ => rfl))) (nomark _)))), ?_⟩
    refine w_start [some (.ref p), some (.ref q)] rfl ?_
    try dsimp only [cxOf]
    walk_at "wp"
    refine w_mul (mulw h1 h6 (by decide) (by decide) (by decide)) ?_
    walk_at "wp"
    refine w_mul (mulw h4 h3 (by decide) (by decide) (by decide)) ?_
    walk_at "wp"
    exact k
def wrt (t b : Int) : Str := if b = 1 then toString t else (toString t : Str) ++ "/" ++ (toString b : Str)
def spWritten : Sp := fun vs H Q _ => ∃ p t b, vs = [.ref p] ∧ FrAt 300 H p t b ∧ Q (.str (wrt t b)) H
theorem c_written (F : Def K mg "written" s_written) (T : Fre mg) : Cal P w K mg base 1 "written" ["one"] spWritten := by
  refine cal_of F sc_written b_written (fun vs H Q E h => ?_) (fun cdv A outer s H vs Q E hr h => ?_)
  · obtain ⟨p, t, b, rfl, _⟩ := h
    rfl
  · obtain ⟨p, t, b, rfl, ⟨e1, h1, h2, h3⟩, k⟩ := h
    refine ⟨_, (pss_cons (ps_if (pt_cmpR op_eq (pe_ix ix_tup (pv 0) pe_int (fun _ _ => rfl)) pe_int (nomark _)) (pss_one (ps_ret (pe_callTy c_strI (by rfl) T.f_str (by decide +kernel) (pa_cons (pe_ix ix_tup (pv 0) pe_int (fun _ _ => rfl)) pa_nil)))) pss_nil)
      (pss_one (ps_ret (pe_op o_catS (pe_op o_catS (pe_callTy c_strI (by rfl) T.f_str (by decide +kernel) (pa_cons (pe_ix ix_tup (pv 0) pe_int (fun _ _ => rfl)) pa_nil)) pe_str) (pe_callTy c_strI (by rfl) T.f_str (by decide +kernel) (pa_cons (pe_ix ix_tup (pv 0) pe_int (fun _ _ => rfl)) pa_nil)))))), ?_⟩
    refine w_start [some (.ref p)] rfl ?_
    try dsimp only [cxOf]
    walk_at "wp"
    unfold wrt at k
    refine w_dec (fun hb => ?_) (fun hb => ?_)
    · rw [if_pos hb] at k
      walk_at "wp"
      exact w_strI (lg h1 (by decide) (by decide)) k
    · rw [if_neg hb] at k
      walk_at "wp"
      refine w_strI (lg h1 (by decide) (by decide)) ?_
      walk_at "wp"
      have l1 := int_text_len_1921 (i := t) (lg h1 (by decide) (by decide))
      have l2 := int_text_len_1921 (i := b) (lg h3 (by decide) (by decide))
      have l3 : (Str.ofString "/").length = 1 := by decide +kernel
      have sl : sizeLine = 16777216 := sizeLine_eq
      refine w_catS (by rw [l3, sl]; omega) ?_
      walk_at "wp"
      refine w_strI (lg h3 (by decide) (by decide)) ?_
      refine w_catS (by rw [Str.length_append, l3, sl]; omega) ?_
      exact k
/-! ### the law -/
def spLaw (K : PySem.W.Frag) : Sp := fun vs H Q _ => ∃ (a : Addr) (ns : List Int), vs = [.ref a] ∧ SqS K H a (ns.map V.int) ∧ ∀ H', Q (.bl true) H'
theorem c_law {fd : FuncData} (F : FunD K "law" "law" (defArgs s_law) (defBody s_law) (defScope s_law) [] [] (He.ga K "law") fd) (T : Fre mg) (c_l_dice : Cal P w K mg base 1 "_law_dice" ["_law_script"] (spDice K)) (c_l_next : Cal P w K mg base 1 "_law_next" ["_law_dice_here", "_law_many"] (spNext K)) (c_l_cut : Cal P w K mg base 1 "_law_cut" ["_law_top", "_law_bottom"] spCut)
    (c_l_fraction : Cal P w K mg base 2 "_law_fraction" ["_law_dice_here"] (spFraction K)) (c_is_below : Cal P w K mg base 1 "is_below" ["one", "two"] spBelow) (c_written : Cal P w K mg base 1 "written" ["one"] spWritten) : FnOk P w K mg base (L2.CX P w) 3 (He.ga K "law") fd ["_law_script"] (spLaw K) := by
  refine F.ok sc_law (fun vs H Q E h => ?_) (fun cdv A outer s H vs Q E hr h => ?_)
  · obtain ⟨a, ns, rfl, _⟩ := h
    rfl
  · obtain ⟨a, ns, rfl, hS, q⟩ := h
    have pc := passes_call (X := cxOf (L2.CX P w) P w K mg base ["_law_script", "_law_dice_here", "_law_one", "_law_two", "_law_way", "_law_found", "_law_due", "_law_told"] "law" (defScope s_law) (He.ga K "law") cdv A outer s H E) (E := E) (takes_of rfl rfl rfl rfl) (fun _ _ _ _ h => h)
    refine ⟨_, (pss_cons (ps_set (i := 1) sc_law.nd rfl (.inl rfl) (pe_cal c_l_dice hr (by omega) pc (pa_cons (pv 0) pa_nil)))
      (pss_cons (ps_set (i := 2) sc_law.nd rfl (.inl rfl) (pe_cal c_l_fraction hr (by omega) pc (pa_cons (pv 1) pa_nil)))
      (pss_cons (ps_set (i := 3) sc_law.nd rfl (.inl rfl) (pe_cal c_l_fraction hr (by omega) pc (pa_cons (pv 1) pa_nil)))
      (pss_cons (ps_set (i := 4) sc_law.nd rfl (.inl rfl) (pe_cal c_l_next hr (by omega) pc (pa_cons (pv 1) (pa_cons pe_int pa_nil))))
      (Evl.pss_cut (ps_if (pt_cmpR op_eq (pv 4) pe_int (nomark _)) (pss_one (ps_set (i := 3) sc_law.nd rfl (.inl rfl) (pv 2))) pss_nil)
      (Evl.pss_cut (ps_if (pt_cmpR op_eq (pv 4) pe_int (nomark _)) (pss_one (ps_set (i := 3) sc_law.nd rfl (.inl rfl) (pe_cal c_l_cut hr (by omega) pc (pa_cons (pe_op o_sub (pe_op o_add (pe_ix ix_tup (pv 2) pe_int (fun _ _ => rfl)) pe_int) (pe_op o_mul pe_int (pe_cal c_l_next hr (by omega) pc (pa_cons (pv 1) (pa_cons pe_int pa_nil))))) (pa_cons (pe_ix ix_tup (pv 2) pe_int (fun _ _ => rfl)) pa_nil))))) pss_nil)
      (pss_cons (ps_set (i := 5) sc_law.nd rfl (.inl rfl) (pe_cal c_is_below hr (by omega) pc (pa_cons (pv 2) (pa_cons (pv 3) pa_nil))))
      (pss_cons (ps_if (PW.pt (pw_or (pt_not (pt_val (pe_callB call_isi (by rfl) T.f_isinstance (by decide +kernel) (pa_cons (pv 5) (pa_cons (pe_bltn (v := .ty "bool") (by rfl) T.f_bool (by decide +kernel) rfl) pa_nil))))) (pw_or1 (pt_cmpR op_ne (pv 5) (pe_cmpR o_lt (pe_op o_mul (pe_ix ix_tup (pv 2) pe_int (fun _ _ => rfl)) (pe_ix ix_tup (pv 3) pe_int (fun _ _ => rfl))) (pe_op o_mul (pe_ix ix_tup (pv 3) pe_int (fun _ _ => rfl)) (pe_ix ix_tup (pv 2) pe_int (fun _ _ => rfl))) (nomark _)) (nomark _))))) (pss_one (ps_ret pe_bl)) pss_nil)
      (pss_cons (ps_set (i := 6) sc_law.nd rfl (.inl rfl) (pe_callTy c_strI (by rfl) T.f_str (by decide +kernel) (pa_cons (pe_ix ix_tup (pv 2) pe_int (fun _ _ => rfl)) pa_nil)))
      (pss_cons (ps_if (pt_cmpR op_ne (pe_ix ix_tup (pv 2) pe_int (fun _ _ => rfl)) pe_int (nomark _)) (pss_one (ps_set (i := 6) sc_law.nd rfl (.inl rfl) (pe_op o_catS (pe_op o_catS (pv 6) pe_str) (pe_callTy c_strI (by rfl) T.f_str (by decide +kernel) (pa_cons (pe_ix ix_tup (pv 2) pe_int (fun _ _ => rfl)) pa_nil))))) pss_nil)
      (pss_cons (ps_set (i := 7) sc_law.nd rfl (.inl rfl) (pe_cal c_written hr (by omega) pc (pa_cons (pv 2) pa_nil)))
      (pss_one (ps_ret (pe_and (pe_callB call_isi (by rfl) T.f_isinstance (by decide +kernel) (pa_cons (pv 7) (pa_cons (pe_bltn (v := .ty "str") (by rfl) T.f_str (by decide +kernel) rfl) pa_nil))) (pe_one (pe_cmpR op_eq (pv 7) (pv 6) (nomark _))))))))))))))))), ?_⟩
    refine w_start [some (.ref a), none, none, none, none, none, none, none] rfl ?_
    try dsimp only [cxOf]
    walk_at "wp"
    refine ⟨a, ns, rfl, hS, fun d H1 nd D1 s1 => ?_⟩
    walk_at "wp"
    refine ⟨d, rfl, D1, fun p t b H2 np npd f2 D2 k2 => ?_⟩
    walk_at "wp"
    refine ⟨d, rfl, D2, fun p3 t3 b3 H3 np3 npd3 f3 D3 k3 => ?_⟩
    walk_at "wp"
    refine ⟨d, 3, rfl, D3, by omega, by decide, fun way H4 w0 w1 D4 k4 => ?_⟩
    have e2 : H4 p = some (.tup [.int t, .int b]) := at_keep k4 (at_keep k3 f2.1 npd) npd
    have e3 : H4 p3 = some (.tup [.int t3, .int b3]) := at_keep k4 f3.1 npd3
    have f2' : FrAt 300 H4 p t b := ⟨e2, Nat.lt_trans f2.2.1 (by decide), f2.2.2.1, Nat.lt_trans f2.2.2.2 (by decide)⟩
    have f3' : FrAt 300 H4 p3 t3 b3 := ⟨e3, Nat.lt_trans f3.2.1 (by decide), f3.2.2.1, Nat.lt_trans f3.2.2.2 (by decide)⟩
    walk_at "wp"
    refine w_cut (fun σ' H' => ∃ p2 t2 b2, σ' = [some (.ref a), some (.ref d), some (.ref p), some (V.ref p2), some (.int way), none, none, none] ∧ FrAt 300 H' p2 t2 b2 ∧ H' = H4) ?_ ?_
    · walk_at "wp"
      refine w_dec (fun hw => ?_) (fun hw => ?_)
      · walk_at "wp"
        exact ⟨p, t, b, rfl, f2', rfl⟩
      · walk_at "wp"
        exact ⟨p3, t3, b3, rfl, f3', rfl⟩
    rintro _ _ ⟨p2, t2, b2, rfl, g2, rfl⟩
    refine w_cut (fun σ' H' => ∃ p2 t2 b2, σ' = [some (.ref a), some (.ref d), some (.ref p), some (V.ref p2), some (.int way), none, none, none] ∧ FrAt 300 H' p t b ∧ FrAt 300 H' p2 t2 b2) ?_ ?_
    · walk_at "wp"
      refine w_dec (fun hw => ?_) (fun hw => ?_)
      · walk_at "wp"
        refine ⟨d, 2, rfl, D4, by omega, by decide, fun r H5 r0 r1 D5 k5 => ?_⟩
        have e5 : H5 p = some (.tup [.int t, .int b]) := at_keep k5 e2 npd
        walk_at "wp"
        have hb1 := f2.2.2.1
        have hb2 := f2.2.2.2
        have ht2 := f2.2.1
        refine ⟨_, b, rfl, by omega, lg hb2 (by decide) (by decide), fun p6 H6 np6 e6 s6 => ?_⟩
        refine ⟨p6, _, _, rfl, ⟨s6 _ _ e5, f2'.2⟩, ⟨e6, ?_, Mth.cB_pos (by omega), ?_⟩⟩
        · exact Nat.lt_of_le_of_lt (Mth.cT_le (by omega)) (by omega)
        · exact Nat.lt_of_le_of_lt (Mth.cB_le (by omega)) (by omega)
      · walk_at "wp"
        exact ⟨p2, t2, b2, rfl, f2', g2⟩
    rintro _ H7 ⟨p2, t2, b2, rfl, ⟨x1, x2, x3, x4⟩, ⟨y1, y2, y3, y4⟩⟩
    walk_at "wp"
    refine ⟨p, p2, t, b, t2, b2, rfl, ⟨x1, x2, x3, x4⟩, ⟨y1, y2, y3, y4⟩, ?_⟩
    walk_at "wp"
    refine w_mul (mulw x2 y4 (by decide) (by decide) (by decide)) ?_
    walk_at "wp"
    refine w_mul (mulw y2 x4 (by decide) (by decide) (by decide)) ?_
    walk_at "wp"
    refine w_decNO rfl ?_
    walk_at "wp"
    refine w_strI (lg x2 (by decide) (by decide)) ?_
    have l1 := int_text_len_1921 (i := t) (lg x2 (by decide) (by decide))
    have l2 := int_text_len_1921 (i := b) (lg x4 (by decide) (by decide))
    have l3 : (Str.ofString "/").length = 1 := by decide +kernel
    have sl : sizeLine = 16777216 := sizeLine_eq
    walk_at "wp"
    refine w_decN (fun hb => ?_) (fun hb => ?_)
    · walk_at "wp"
      refine w_catS (by rw [l3, sl]; omega) ?_
      walk_at "wp"
      refine w_strI (lg x4 (by decide) (by decide)) ?_
      refine w_catS (by rw [Str.length_append, l3, sl]; omega) ?_
      walk_at "wp"
      refine ⟨p, t, b, rfl, ⟨x1, x2, x3, x4⟩, ?_⟩
      have ew : wrt t b = (toString t : Str) ++ "/" ++ (toString b : Str) := if_neg hb
      rw [ew]
      walk_at "wp"
      rw [decide_eq_true rfl]
      exact q _
    · walk_at "wp"
      refine ⟨p, t, b, rfl, ⟨x1, x2, x3, x4⟩, ?_⟩
      have ew : wrt t b = (toString t : Str) := if_pos hb
      rw [ew]
      walk_at "wp"
      rw [decide_eq_true rfl]
      exact q _
end
end Lw

set_option maxHeartbeats 0
namespace Lw
open PySem PySem.Spec PyProof.Rows L2 Fw
/-! ### the head -/
abbrev R : PySem.W.OpenRow := PySem.W.OpenLaw.row PySem.Challenge.rw_slopesback_k03_below_and_written
def dd (x : Str) (st : Stmt) : He.DefD := ⟨(x, none), x, x, defArgs st, defBody st, defScope st, [], []⟩
def fn : List He.DefD := [dd "is_below" s_is_below, dd "written" s_written, dd "_law_dice" s_l_dice, dd "_law_next" s_l_next, dd "_law_cut" s_l_cut, dd "_law_fraction" s_l_fraction, dd "law" s_law]
def fa : List He.Fa := [.glo "is_below", .glo "written", .glo "_law_dice", .glo "_law_next", .glo "_law_cut", .glo "_law_fraction", .glo "law", .free "len", .free "int", .free "str", .free "abs", .free "bool", .free "isinstance"]
abbrev hk : PySem.W.Hook := He.hookD 4 fa fn
def ob (s : PySem.W.SharedT) : He.AlD := He.obsDG 4 fa fn (HandSHeadRun.getT s)
theorem ob_eq (s : PySem.W.SharedT) : ob s = hk.obs s.abs := He.obsDG_eq (HandSHeadRun.getT_eq s)
theorem run (w : World) : HandSHeadRun.RunEq R (PySem.W.view R.prog [8]) hk ob 2000 ["is_below", "written", "_law_dice", "_law_next", "_law_cut", "_law_fraction"] w := by
  intro os
  kernel_rfl
theorem facts {P : Program} {w : World} {K : PySem.W.Frag} {h : Heap} {mg : Str → Option Value} {f : Addr} (X : K.In h) (G : h.Ns mainGlobals mg) (hfa : mg ("law" : Str) = some (.ref f)) (c : He.SaysD fa fn K) :
    ∃ fd : FuncData, (∀ (s : Shared) (v : Value), BindsTo s fd ⟨[v], []⟩ [("_law_script", v)]) ∧ ∀ base : Heap, K.In base → base.Ns mainGlobals mg → FnOk P w K mg base (L2.CX P w) 3 f fd ["_law_script"] (spLaw K) := by
  have df : ∀ (i : Nat) (x : Str) (st : Stmt), fn[i]? = some (dd x st) → fa[i]? = some (.glo x) → Def K mg x st := fun i x st h1 h2 => ⟨c.def_ i h1, He.glo_ok X G (c.fact i h2)⟩
  have T : Fre mg := ⟨He.free_ok X G (c.fact 7), He.free_ok X G (c.fact 8), He.free_ok X G (c.fact 9), He.free_ok X G (c.fact 10), He.free_ok X G (c.fact 11), He.free_ok X G (c.fact 12)⟩
  have F1 : Def K mg "is_below" s_is_below := df 0 _ _ rfl rfl
  have F2 : Def K mg "written" s_written := df 1 _ _ rfl rfl
  have F3 : Def K mg "_law_dice" s_l_dice := df 2 _ _ rfl rfl
  have F4 : Def K mg "_law_next" s_l_next := df 3 _ _ rfl rfl
  have F5 : Def K mg "_law_cut" s_l_cut := df 4 _ _ rfl rfl
  have F6 : Def K mg "_law_fraction" s_l_fraction := df 5 _ _ rfl rfl
  have F7 : Def K mg "law" s_law := df 6 _ _ rfl rfl
  obtain ⟨⟨fd, F⟩, g⟩ := id F7
  have e := hfa.symm.trans g
  cases e
  have b := FunD.bindsA (ps := ["_law_script"]) F b_law
  refine ⟨fd, fun s v => b s [v] rfl, fun base _ _ => ?_⟩
  have c3 : Cal P w K mg base 1 "_law_dice" ["_law_script"] (spDice K) := c_l_dice F3 T
  have c4 : Cal P w K mg base 1 "_law_next" ["_law_dice_here", "_law_many"] (spNext K) := c_l_next F4 T
  have c5 : Cal P w K mg base 1 "_law_cut" ["_law_top", "_law_bottom"] spCut := c_l_cut F5 T
  have c6 : Cal P w K mg base 2 "_law_fraction" ["_law_dice_here"] (spFraction K) := c_l_fraction F6 T c4 c5
  exact c_law F T c3 c4 c5 c6 (c_is_below F1) (c_written F2 T)
end Lw
open PySem PySem.W PySem.Calls PyProof.Rows
theorem PySem.Challenge.cw_slopesback_k03_below_and_written_holds : PySem.Challenge.rw_slopesback_k03_below_and_written.Holds := by
  w_on; o_law
  refine HandSHeadRun.head_any (r := OpenLaw.row PySem.Challenge.rw_slopesback_k03_below_and_written) (q := view (OpenLaw.row PySem.Challenge.rw_slopesback_k03_below_and_written).prog [8]) (H := Lw.hk) (ob := Lw.ob) (M := 2000) (loose := ["is_below", "written", "_law_dice", "_law_next", "_law_cut", "_law_fraction"]) (d := HandSHeadRun.topDef (OpenLaw.row PySem.Challenge.rw_slopesback_k03_below_and_written).prog 8) (kwd := []) Lw.ob_eq
    (by kernel_rfl) (fun s => by kernel_rfl) Lw.run (by kernel_rfl) (by kernel_rfl) (by kernel_rfl) (by rfl) (by first | assumption | decide +kernel) (by decide +kernel) ⟨rfl, rfl, rfl, rfl, rfl, by decide +kernel⟩ ?hw ?hc
  case hw => w_witness2
  case hc =>
    refine Fw.walk_ofEB (l := PySem.Challenge.rw_slopesback_k03_below_and_written) (n := 63) (k := 3) (x := "_law_script") (CX := fun w => L2.CX (PySem.Challenge.rw_slopesback_k03_below_and_written).prog w) rfl (by decide) (by kernel_rfl) ⟨rfl, by decide, by decide⟩ ?F (fun w H s e s' z => ?X)
    case X =>
      obtain ⟨_, _, _, _, _, _, _, _, _, _, _, _, z⟩ := z
      exact z
    intro w mg fa h Y G hmg0
    obtain ⟨K, KX, c⟩ := Y
    have hmg : mg ("law" : PySem.Str) = some (.ref fa) := by
      have e : (HandSHeadRun.topDef (OpenLaw.row PySem.Challenge.rw_slopesback_k03_below_and_written).prog 8).name = ("law" : PySem.Str) := by kernel_rfl
      rw [← e]
      exact hmg0
    obtain ⟨fd, hb, hF⟩ := Lw.facts (P := (PySem.Challenge.rw_slopesback_k03_below_and_written).prog) (w := w) KX G hmg c
    exact ⟨K, fd, Lw.spLaw K, KX, hb, fun H a ns hl _ hO hS => ⟨a, ns, rfl, Lw.SqS.of hO hS, fun _ => rfl⟩, hF⟩
#print axioms PySem.Challenge.cw_slopesback_k03_below_and_written_holds
