import PyProof.Rows.All
import Wide.All
import OpenK.AllK
import Wide.FinOn
import HandS.ForMost
import HandS.ForExc
import HandS.Evl
import HandS.IsInst
import HandS.WideBits
import HandS.RevRange
import HandS.Conv
import HandS.Style
import HandS.StrMore
import HandS.Codes
import HandS.NoneIn
import HandS.ExcCtx
import KE.SortData
import HandS.ExcIs
import HandS.ExcOwn
import HandS.CallLocal
import HandS.SetFor
import HandS.HotCalls
import HandS.ExcValue
import HandS.Comp
import HandS.SuiteRaise
import HandS.Text
import KE.IntTextText
import PyProof.Rows.StrCountLaw
import PyProof.Rows.StrJoinRep
import PySem.Challenge.RW_wheelways_k05_written
set_option Elab.async false
set_option linter.all false
set_option maxRecDepth 100000
set_option maxHeartbeats 4000000
namespace WW
open PySem PySem.Spec PyProof.Rows L2 Evl

/-! ### defs and calls -/
/-- a def of the text, by its name -/
structure Df (K : PySem.W.Frag) (mg : Str → Option Value) (x : Str) (ps : List Str) (st : Stmt) : Prop where
  ex : ∃ f fd, Fun K x x st f fd ∧ mg x = some (.ref f) ∧ Binds K fd ps []
/-- a def that may be called, with its promise -/
structure Cl (P : Program) (w : World) (K : PySem.W.Frag) (mg : Str → Option Value) (base : Heap) (CX : CXT) (k : Nat) (x : Str) (ps : List Str) (sp : Sp) : Prop where
  ex : ∃ f fd, FnOk P w K mg base CX k f fd ps sp ∧ mg x = some (.ref f) ∧ PySem.W.keepIn K (.ref f) = true ∧ Binds K fd ps []
section
variable {P : Program} {w : World} {K : PySem.W.Frag} {mg : Str → Option Value} {base : Heap}
theorem cl0 {x : Str} {st : Stmt} {N ps : List Str} {k : Nat} {sp : Sp} (D : Df K mg x ps st) (S : FnScope N ps (defScope st)) (len : ∀ vs H Q E, sp vs H Q E → vs.length = ps.length)
    (hbody : ∀ (f : Addr) (cdv : Value) (A : Around) (outer : List Env) (s : Shared) (H : Hp) (vs : List V) (Q : VK) (E : XK), Room k (A.deeper (envOfC x (defScope st) s.heap.objs.size f cdv)) → sp vs H Q E →
      ∃ t, PSs (cxOf CX0 P w K mg base N x (defScope st) f cdv A outer s H E).nox (defBody st) t ∧ t { nx := fun _ H' => Q .non H', rt := Q } (start N vs) H) : Cl P w K mg base CX0 (k + 1) x ps sp := by
  obtain ⟨f, fd, F, m, b⟩ := D.ex
  exact ⟨f, fd, F.ok S len (hbody f), m, F.kp, b⟩
theorem passLN {X : Cx} : Passes (L2N.CX X.prog X.w) X E0 := fun _ _ _ _ _ _ _ h => by
  obtain ⟨_, _, _, _, _, _, _, _, _, _, _, _, z⟩ := h
  exact z.elim
theorem takes_no {X : Cx} : L2N.Takes X (fun _ _ _ _ => False) := fun _ _ x => by
  obtain ⟨_, _, _, _, _, _, _, _, _, _, _, _, _, _, _, _, z⟩ := x
  exact z.elim
theorem fn_okXN {x qual : Str} {st : Stmt} {f : Addr} {fd : FuncData} {N ps : List Str} {k : Nat} {sp : Sp} (F : Fun K x qual st f fd) (S : FnScope N ps (defScope st)) (len : ∀ vs H Q E, sp vs H Q E → vs.length = ps.length)
    (hbody : ∀ (cdv : Value) (A : Around) (outer : List Env) (s : Shared) (H : Hp) (vs : List V) (Q : VK) (E : XK), Room k (A.deeper (envOfC qual (defScope st) s.heap.objs.size f cdv)) → sp vs H Q E →
      ∃ t, PSs (cxOf (L2N.CX P w) P w K mg base N qual (defScope st) f cdv A outer s H E) (defBody st) t ∧ t { nx := fun _ H' => Q .non H', rt := Q } (start N vs) H) : FnOk P w K mg base (L2N.CX P w) (k + 1) f fd ps sp := by
  obtain ⟨oc, od, kV, doc, pm, an, cdv, ct, osl, rfl, lk, hcd⟩ := F.ex
  exact fn_of lk hcd S len fun A outer s H vs Q E hr hsp => hbody cdv A outer s H vs Q E hr hsp
theorem clX {x : Str} {st : Stmt} {N ps : List Str} {k : Nat} {sp : Sp} (D : Df K mg x ps st) (S : FnScope N ps (defScope st)) (len : ∀ vs H Q E, sp vs H Q E → vs.length = ps.length)
    (hbody : ∀ (f : Addr) (cdv : Value) (A : Around) (outer : List Env) (s : Shared) (H : Hp) (vs : List V) (Q : VK) (E : XK), Room k (A.deeper (envOfC x (defScope st) s.heap.objs.size f cdv)) → sp vs H Q E →
      ∃ t, PSs (cxOf (L2N.CX P w) P w K mg base N x (defScope st) f cdv A outer s H E) (defBody st) t ∧ t { nx := fun _ H' => Q .non H', rt := Q } (start N vs) H) : Cl P w K mg base (L2N.CX P w) (k + 1) x ps sp := by
  obtain ⟨f, fd, F, m, b⟩ := D.ex
  exact ⟨f, fd, fn_okXN F S len (hbody f), m, F.kp, b⟩
end
section
variable {X : Cx} {CX : CXT} {k : Nat} {ps : List Str} {sp : Sp} {E : XK} {x : Str} {p pos : Pos} {e : Expr} {es : List Expr} {t : TA}
theorem pe_cl (C : Cl X.prog X.w X.K X.mg X.base CX k x ps sp) (hr : Room k X.A) (hg : Gl X x) (hx : Passes CX X E)
    (ha : PA X (e :: es) t) (hdb : (x == ("__debug__" : Str)) = false := by decide) (he : starEach (e :: es) X.env = (false, eval e X.env) :: starEach es X.env := by rfl) (hpl : (backTo pos (starEach es X.env)).any (·.1) = false := by rfl) :
    PE X (.Call (.Name x p) (e :: es) [] pos) (tCall sp [] E t) := by
  obtain ⟨f, fd, F, m, kp, b⟩ := C.ex
  exact pe_call F hr hg m kp b .nil hx ha hdb he hpl
theorem pe_cl0 (C : Cl X.prog X.w X.K X.mg X.base CX k x ps sp) (hr : Room k X.A) (hg : Gl X x) (hx : Passes CX X E)
    (hdb : (x == ("__debug__" : Str)) = false := by decide) :
    PE X (.Call (.Name x p) [] [] pos) (tCall sp [] E tNil) := by
  obtain ⟨f, fd, F, m, kp, b⟩ := C.ex
  exact pe_call0 F hr hg m kp b .nil hx hdb
/-- a raising callee in a body that lets its own exceptions out as they come -/
theorem pass1 {X : Cx} {E : XK} (tk : L2N.Takes X (fun cls d _ H => E cls d H)) : Passes (L2N.CX X.prog X.w) X E := L2N.passes_call tk fun _ _ _ _ h => h
theorem PE.or {X : Cx} {e : Expr} {t u : TE} (h1 : PE X e t) (h2 : PE X e u) : PE X e (fun σ H Q => t σ H Q ∨ u σ H Q) :=
  ⟨fun pins s σ H Q I h => h.elim (h1.run pins s σ H Q I) (h2.run pins s σ H Q I)⟩
end
/-- an own exception class -/
structure ExcF (K : PySem.W.Frag) (mg : Str → Option Value) (x : Str) (c : Addr) : Prop where
  g : mg x = some (.ref c)
  x : PySem.W.excIn K c [.type "ValueError", .type "Exception", .type "BaseException", .type "object"] "ValueError.__new__" = true
  k : PySem.W.keepIn K (.ref c) = true
  b : PySem.W.subIn K (.ref c) (.type "BaseException") = some true
  t : PySem.W.typeIn K (.ref c) = some (.type "type")
/-! ### operators -/
section
variable {X : Cx}
theorem ip_mulX : PIp X .Mult (fun x y H Q => ∃ i j, x = .int i ∧ y = .int j ∧ CMulX i j ∧ Q (.int (i * j)) H) := by
  intro pins s σ H x y v u Q I r1 r2 h
  obtain ⟨i, j, e1, e2, c, q⟩ := h
  subst e1; subst e2
  obtain ⟨t, rfl⟩ := r1
  obtain ⟨t', rfl⟩ := r2
  exact imul_int ⟨.int _, H, I.tok _, ⟨_, rfl⟩, q⟩ c.ok
theorem op_mulA : OpR X (binaryOp .Mult) (rI IntMulOk fun i j => .int (i * j)) := opI fun _ _ _ _ _ _ _ hc q => mul_int q hc
theorem mulC {i j : Int} (h0 : -(2 ^ 64) < j) (h1 : j < 2 ^ 64) : IntMulOk i j := CMul.ok (.inr ⟨h0, h1⟩)
theorem mulX {i j : Int} (h : CMulX i j) : IntMulOk i j := h.ok
def rCatQ (K : PySem.W.Frag) : R2 := fun x y H Q => ∃ l b xs zs, x = .ref l ∧ y = .ref b ∧ SqL K H l xs ∧ SqL K H b zs ∧ xs.length + zs.length ≤ sizeLine ∧ ∀ p, H p = none → Q (.ref p) (upd H p (.lst (xs ++ zs)))
theorem op_catQ : OpR X (binaryOp .Add) (rCatQ X.K) := by
  intro pins s σ H x y v u Q I rx ry h
  obtain ⟨l, b, xs, zs, rfl, rfl, hH, hB, hz, q⟩ := h
  cases rx
  cases ry
  obtain ⟨its, r, pl, z1⟩ := I.list hH
  obtain ⟨its2, r2, pl2, z2⟩ := I.list hB
  have hl := r.length
  have hl2 := r2.length
  obtain ⟨⟨cls, dd, data, sl⟩, ho, hc, n, hd⟩ := pl.isList
  obtain ⟨⟨cls2, dd2, data2, sl2⟩, ho2, hc2, n2, hd2⟩ := pl2.isList
  simp only at hc hd hc2 hd2
  subst hc hd hc2 hd2
  have ea : its.toArray ++ its2.toArray = (its ++ its2).toArray := by simp
  refine concat_meets ⟨_, ho, rfl⟩ ⟨_, ho2, rfl⟩ noFill_list_add seq_list_add PySem.F.slot_list_add PySem.F.entry_list_add (PySem.F.args_list_add_2 _ _) (list_addW l b its.toArray its2.toArray n n2 dd dd2 sl sl2 (by simp only [List.size_toArray]; omega)) ⟨ho, ho2, ?_⟩
  rw [ea]
  exact ⟨.ref _, _, I.lnew (t' := s.toks) (r.append r2) (by rw [List.length_append]; omega), rfl, q _ I.fresh⟩
end
/-! ### the rules that speak of the written part, by its name (for a comprehension's block) -/
section
variable {X : Cx} {K : PySem.W.Frag}
theorem ix_listK (e : X.K = K) : IxR X (rIxL K) := e ▸ ix_list
theorem ix_tupK (e : X.K = K) : IxR X (rIxT K) := e ▸ ix_tup
theorem sl_listK (e : X.K = K) : SlR X (rSlL K) := e ▸ sl_list
theorem call_isiK' (e : X.K = K) : CallR X (.builtin "isinstance") (rIsi K) := e ▸ call_isi
theorem call_lenK (e : X.K = K) : CallR X (.builtin "len") (fun xs H Q => ∃ p ys, xs = [.ref p] ∧ (SqL K H p ys ∨ SqT K H p ys) ∧ Q (.int ys.length) H) := e ▸ call_len_seq
theorem cr_allK (e : X.K = K) (hc : X.calm = true) : CallR X (.builtin "all") (rAll K) := e ▸ cr_all hc
theorem cr_anyK (e : X.K = K) (hc : X.calm = true) : CallR X (.builtin "any") (rAny K) := e ▸ cr_any hc
theorem cr_sumK (e : X.K = K) (hc : X.calm = true) : CallR X (.builtin "sum") (rSum K) := e ▸ cr_sum hc
theorem cr_minK (e : X.K = K) (hc : X.calm = true) : CallR X (.builtin "min") (rMin K) := e ▸ cr_min hc
theorem op_catK (e : X.K = K) : OpR X (binaryOp .Add) (rCatQ K) := e ▸ op_catQ
theorem op_eqDK (e : X.K = K) (hu : X.A.units + 64 < cLine) : OpR X (compareOp .Eq) (rEqD K) := e ▸ op_eqD hu
theorem op_neDK (e : X.K = K) (hu : X.A.units + 64 < cLine) : OpR X (compareOp .NotEq) (rNeD K) := e ▸ op_neD hu
theorem call_listK (e : X.K = K) : CallR X (.type "list") (fun xs H Q => ∃ p ys, xs = [.ref p] ∧ (SqL K H p ys ∨ SqT K H p ys) ∧ ∀ l, H l = none → Q (.ref l) (upd H l (.lst ys))) := e ▸ call_list_of
theorem call_tupleK (e : X.K = K) : CallR X (.type "tuple") (fun xs H Q => ∃ p ys, xs = [.ref p] ∧ ((SqL K H p ys ∧ ∀ l, H l = none → Q (.ref l) (upd H l (.tup ys))) ∨ (SqT K H p ys ∧ Q (.ref p) H))) := e ▸ call_tuple_of
theorem pi_listK {tg l : Expr} {tl : TE} (e : X.K = K) (hl : PE X l tl) : PI X tg l (iList K tl) := e ▸ pi_list hl
theorem pi_tupK {tg l : Expr} {tl : TE} (e : X.K = K) (hl : PE X l tl) : PI X tg l (iTup K tl) := e ▸ pi_tup hl
theorem op_inK (e : X.K = K) : OpR X (compareOp .In) (rIn K false) := e ▸ op_in_seq
theorem op_notInK (e : X.K = K) : OpR X (compareOp .NotIn) (rIn K true) := e ▸ op_notIn_seq
theorem pe_fldK {o : Expr} {f : Str} {pos : Pos} {ta : TE} (e : X.K = K) (he : PE X o ta) (hb : attributeBase o f X.env (eval o X.env) = eval o X.env) : PE X (.Attribute o f pos) (tFld K ta f) := e ▸ pe_fld he hb
theorem pg_tupK {es : List Expr} {k : Nat} {pos : Pos} {t : TGs} {n : Nat} (e : X.K = K) (hc : X.calm = true) (h : PGs X es t)
    (hn : (assignEach es X.env).length = n := by rfl) (hst : (assignEach es X.env).findIdx? (·.1) = none := by rfl) : PG X (.Tuple es k pos) (gTup K n t) := e ▸ pg_tup hc h hn hst
end
/-! ### the mathematics of wheels: the way forth -/
def cnt : List Int → Int
  | [] => 1
  | w :: ws => w * cnt ws
def setAt : List Int → Int → List Int
  | [], _ => []
  | w :: ws, n => (if n / w % 2 = 0 then n % w else w - 1 - n % w) :: setAt ws (n / w)
def numAt : List Int → List Int → Int
  | w :: ws, s :: ss => numAt ws ss * w + (if numAt ws ss % 2 = 0 then s else w - 1 - s)
  | _, _ => 0
def iabs (i : Int) : Int := if i < 0 then -i else i
def dist : List Int → List Int → Int
  | a :: r, b :: q => iabs (a - b) + dist r q
  | _, _ => 0
/-- all sizes from 1 on -/
def Pos (ws : List Int) : Prop := ∀ w ∈ ws, 1 ≤ w
/-- a setting of wheels -/
def InS : List Int → List Int → Prop
  | [], [] => True
  | w :: ws, s :: ss => (0 ≤ s ∧ s < w) ∧ InS ws ss
  | _, _ => False
theorem Pos.head {w : Int} {ws : List Int} (h : Pos (w :: ws)) : 1 ≤ w := h w List.mem_cons_self
theorem Pos.tail {w : Int} {ws : List Int} (h : Pos (w :: ws)) : Pos ws := fun x hx => h x (List.mem_cons_of_mem _ hx)
theorem Pos.take {ws : List Int} (h : Pos ws) (n : Nat) : Pos (ws.take n) := fun x hx => h x (List.mem_of_mem_take hx)
theorem cnt_pos : ∀ {ws : List Int}, Pos ws → 1 ≤ cnt ws
  | [], _ => by show (1 : Int) ≤ 1; omega
  | w :: ws, h => by
    have h1 := h.head
    have h2 := cnt_pos h.tail
    show 1 ≤ w * cnt ws
    have := Int.mul_le_mul h1 h2 (by omega) (by omega)
    omega
theorem InS.len : ∀ {ws ss : List Int}, InS ws ss → ss.length = ws.length
  | [], [], _ => rfl
  | w :: ws, s :: ss, h => by
    have := InS.len h.2
    simp [this]
  | [], _ :: _, h => h.elim
  | _ :: _, [], h => h.elim
theorem cnt_snoc : ∀ (ws : List Int) (w : Int), cnt (ws ++ [w]) = cnt ws * w
  | [], w => by show w * 1 = 1 * w; omega
  | v :: ws, w => by
    show v * cnt (ws ++ [w]) = v * cnt ws * w
    rw [cnt_snoc ws w, Int.mul_assoc]
theorem cnt_append : ∀ (ws vs : List Int), cnt (ws ++ vs) = cnt ws * cnt vs
  | [], vs => by show cnt vs = 1 * cnt vs; omega
  | v :: ws, vs => by
    show v * cnt (ws ++ vs) = v * cnt ws * cnt vs
    rw [cnt_append ws vs, Int.mul_assoc]
theorem cnt_reverse : ∀ (ws : List Int), cnt ws.reverse = cnt ws
  | [] => rfl
  | w :: ws => by
    rw [List.reverse_cons, cnt_snoc, cnt_reverse ws]
    show cnt ws * w = w * cnt ws
    exact Int.mul_comm _ _
theorem setAt_len : ∀ (ws : List Int) (n : Int), (setAt ws n).length = ws.length
  | [], _ => rfl
  | w :: ws, n => by
    show (setAt ws (n / w)).length + 1 = ws.length + 1
    rw [setAt_len]
theorem setAt_in : ∀ {ws : List Int} (n : Int), Pos ws → InS ws (setAt ws n)
  | [], _, _ => trivial
  | w :: ws, n, h => by
    have h1 := h.head
    have a := Int.emod_nonneg n (b := w) (by omega)
    have b := Int.emod_lt_of_pos n (b := w) (by omega)
    refine ⟨?_, setAt_in _ h.tail⟩
    split <;> omega
theorem num_set : ∀ {ws : List Int} {n : Int}, Pos ws → 0 ≤ n → n < cnt ws → numAt ws (setAt ws n) = n
  | [], n, _, h0, h1 => by
    have : n < 1 := h1
    show (0 : Int) = n
    omega
  | w :: ws, n, h, h0, h1 => by
    have hw := h.head
    have hn : n < w * cnt ws := h1
    have e := Int.mul_ediv_add_emod n w
    have q0 : 0 ≤ n / w := Int.ediv_nonneg h0 (by omega)
    have q1 : n / w < cnt ws := Int.ediv_lt_of_lt_mul (by omega) (by rw [Int.mul_comm]; exact hn)
    have ih := num_set h.tail q0 q1
    show numAt ws (setAt ws (n / w)) * w + (if numAt ws (setAt ws (n / w)) % 2 = 0 then (if n / w % 2 = 0 then n % w else w - 1 - n % w) else w - 1 - (if n / w % 2 = 0 then n % w else w - 1 - n % w)) = n
    rw [ih]
    have e2 : n / w * w = w * (n / w) := Int.mul_comm _ _
    split <;> omega
theorem num_bd : ∀ {ws ss : List Int}, InS ws ss → 0 ≤ numAt ws ss ∧ numAt ws ss < cnt ws
  | [], [], _ => by
    show (0 : Int) ≤ 0 ∧ (0 : Int) < 1
    omega
  | w :: ws, s :: ss, h => by
    obtain ⟨⟨h0, h1⟩, h2⟩ := h
    obtain ⟨a, b⟩ := num_bd h2
    have r0 : 0 ≤ (if numAt ws ss % 2 = 0 then s else w - 1 - s) ∧ (if numAt ws ss % 2 = 0 then s else w - 1 - s) < w := by split <;> omega
    have m0 : 0 ≤ numAt ws ss * w := Int.mul_nonneg a (by omega)
    have m1 : (numAt ws ss + 1) * w ≤ cnt ws * w := Int.mul_le_mul_of_nonneg_right (by omega) (by omega)
    have m2 : (numAt ws ss + 1) * w = numAt ws ss * w + w := by rw [Int.add_mul, Int.one_mul]
    have m3 : cnt ws * w = w * cnt ws := Int.mul_comm _ _
    show 0 ≤ numAt ws ss * w + (if numAt ws ss % 2 = 0 then s else w - 1 - s) ∧ numAt ws ss * w + (if numAt ws ss % 2 = 0 then s else w - 1 - s) < w * cnt ws
    omega
  | [], _ :: _, h => h.elim
  | _ :: _, [], h => h.elim
theorem div_of {f w r : Int} (h0 : 0 ≤ r) (h1 : r < w) : (f * w + r) / w = f ∧ (f * w + r) % w = r := by
  have e : f * w + r = r + f * w := Int.add_comm _ _
  have hw : w ≠ 0 := by omega
  rw [e, Int.add_mul_ediv_right _ _ hw, Int.add_mul_emod_self_right, Int.ediv_eq_zero_of_lt h0 h1, Int.emod_eq_of_lt h0 h1]
  omega
theorem set_num : ∀ {ws ss : List Int}, InS ws ss → setAt ws (numAt ws ss) = ss
  | [], [], _ => rfl
  | w :: ws, s :: ss, h => by
    obtain ⟨⟨h0, h1⟩, h2⟩ := h
    have ih := set_num h2
    have r0 : 0 ≤ (if numAt ws ss % 2 = 0 then s else w - 1 - s) ∧ (if numAt ws ss % 2 = 0 then s else w - 1 - s) < w := by split <;> omega
    obtain ⟨d1, d2⟩ := div_of (f := numAt ws ss) r0.1 r0.2
    show (if (numAt ws ss * w + (if numAt ws ss % 2 = 0 then s else w - 1 - s)) / w % 2 = 0 then (numAt ws ss * w + (if numAt ws ss % 2 = 0 then s else w - 1 - s)) % w else w - 1 - (numAt ws ss * w + (if numAt ws ss % 2 = 0 then s else w - 1 - s)) % w) :: setAt ws ((numAt ws ss * w + (if numAt ws ss % 2 = 0 then s else w - 1 - s)) / w) = s :: ss
    rw [d1, d2, ih]
    congr 1
    split <;> omega
  | [], _ :: _, h => h.elim
  | _ :: _, [], h => h.elim
theorem iabs_self (i : Int) : iabs (i - i) = 0 := by
  unfold iabs
  split <;> omega
theorem dist_self : ∀ (s : List Int), dist s s = 0
  | [] => rfl
  | a :: r => by
    show iabs (a - a) + dist r r = 0
    rw [iabs_self, dist_self r]
    omega
theorem dist_comm : ∀ (s t : List Int), dist s t = dist t s
  | [], [] => rfl
  | [], _ :: _ => rfl
  | _ :: _, [] => rfl
  | a :: r, b :: q => by
    show iabs (a - b) + dist r q = iabs (b - a) + dist q r
    rw [dist_comm r q]
    have : iabs (a - b) = iabs (b - a) := by
      unfold iabs
      split <;> split <;> omega
    omega
theorem set_step : ∀ {ws : List Int} {n : Int}, Pos ws → 0 ≤ n → n + 1 < cnt ws → dist (setAt ws n) (setAt ws (n + 1)) = 1
  | [], n, _, h0, h1 => by
    have : n + 1 < 1 := h1
    omega
  | w :: ws, n, h, h0, h1 => by
    have hw := h.head
    have hn : n + 1 < w * cnt ws := h1
    have e := Int.mul_ediv_add_emod n w
    have r0 := Int.emod_nonneg n (b := w) (by omega)
    have r1 := Int.emod_lt_of_pos n (b := w) (by omega)
    have q0 : 0 ≤ n / w := Int.ediv_nonneg h0 (by omega)
    have e2 : n / w * w = w * (n / w) := Int.mul_comm _ _
    show iabs ((if n / w % 2 = 0 then n % w else w - 1 - n % w) - (if (n + 1) / w % 2 = 0 then (n + 1) % w else w - 1 - (n + 1) % w)) + dist (setAt ws (n / w)) (setAt ws ((n + 1) / w)) = 1
    by_cases c : n % w + 1 < w
    · obtain ⟨d1, d2⟩ := div_of (f := n / w) (w := w) (r := n % w + 1) (by omega) c
      have en : n / w * w + (n % w + 1) = n + 1 := by omega
      rw [en] at d1 d2
      rw [d1, d2, dist_self]
      unfold iabs
      split <;> split <;> omega
    · obtain ⟨d1, d2⟩ := div_of (f := n / w + 1) (w := w) (r := 0) (by omega) (by omega)
      have em : (n / w + 1) * w = n / w * w + w := by rw [Int.add_mul, Int.one_mul]
      have en : (n / w + 1) * w + 0 = n + 1 := by omega
      rw [en] at d1 d2
      have q1 : n / w + 1 < cnt ws := by
        have : (n + 1) / w < cnt ws := Int.ediv_lt_of_lt_mul (by omega) (by rw [Int.mul_comm]; exact hn)
        omega
      rw [d1, d2, set_step h.tail q0 q1]
      unfold iabs
      split <;> split <;> split <;> omega
theorem set_zero : ∀ {ws : List Int}, Pos ws → setAt ws 0 = List.replicate ws.length 0
  | [], _ => rfl
  | w :: ws, h => by
    have hw := h.head
    show (if (0 : Int) / w % 2 = 0 then 0 % w else w - 1 - 0 % w) :: setAt ws (0 / w) = _
    rw [Int.zero_ediv, Int.zero_emod, set_zero h.tail]
    rfl
/-- |a - b| summed up by places -/
theorem dist_sum : ∀ (a b : List Int), a.length = b.length → ((List.range a.length).map fun k => iabs (a.getD k 0 - b.getD k 0)).sum = dist a b
  | [], [], _ => rfl
  | x :: a, y :: b, h => by
    have hl : a.length = b.length := by simpa using h
    rw [List.length_cons, List.range_succ_eq_map, List.map_cons, List.sum_cons, List.map_map]
    have := dist_sum a b hl
    show iabs (x - y) + _ = iabs (x - y) + dist a b
    rw [← this]
    rfl
  | [], _ :: _, h => by simp at h
  | _ :: _, [], h => by simp at h
/-! ### the mathematics of the ring -/
/-- height and place of a number on the ring: z the even wheel's size, P one below the count of the others -/
def rH (z P n : Int) : Int := if n < z then n else z - 1 - (n - z) / P
def rP (z P n : Int) : Int := if n < z then 0 else if (n - z) / P % 2 = 0 then (n - z) % P + 1 else P - (n - z) % P
def rN (z P h p : Int) : Int := if p = 0 then h else z + (z - 1 - h) * P + (if (z - 1 - h) % 2 = 0 then p - 1 else P - p)
theorem r_lo {z P n : Int} (h : n < z) : rH z P n = n ∧ rP z P n = 0 := by
  unfold rH rP
  rw [if_pos h, if_pos h]
  exact ⟨rfl, rfl⟩
theorem r_hi {z P d a : Int} (hd : 0 ≤ d) (h0 : 0 ≤ a) (h1 : a < P) : rH z P (z + (d * P + a)) = z - 1 - d ∧ rP z P (z + (d * P + a)) = if d % 2 = 0 then a + 1 else P - a := by
  have hm : 0 ≤ d * P := Int.mul_nonneg hd (by omega)
  obtain ⟨e1, e2⟩ := div_of (f := d) h0 h1
  have e3 : z + (d * P + a) - z = d * P + a := by omega
  unfold rH rP
  rw [if_neg (by omega), if_neg (by omega), e3, e1, e2]
  exact ⟨rfl, rfl⟩
theorem r_dec {z P n : Int} (hP : 1 ≤ P) (h0 : z ≤ n) (h1 : n < z + z * P) : ∃ d a, n = z + (d * P + a) ∧ 0 ≤ d ∧ d < z ∧ 0 ≤ a ∧ a < P := by
  refine ⟨(n - z) / P, (n - z) % P, ?_, Int.ediv_nonneg (by omega) (by omega), Int.ediv_lt_of_lt_mul (by omega) (by omega), Int.emod_nonneg _ (by omega), Int.emod_lt_of_pos _ (by omega)⟩
  have e := Int.mul_ediv_add_emod (n - z) P
  have e2 : (n - z) / P * P = P * ((n - z) / P) := Int.mul_comm _ _
  omega
theorem r_bd {z P n : Int} (hP : 1 ≤ P) (h0 : 0 ≤ n) (h1 : n < z + z * P) : (0 ≤ rH z P n ∧ rH z P n < z) ∧ 0 ≤ rP z P n ∧ rP z P n < P + 1 := by
  by_cases c : n < z
  · obtain ⟨e1, e2⟩ := r_lo (P := P) c
    rw [e1, e2]
    omega
  · obtain ⟨d, a, rfl, hd, hd2, ha, ha2⟩ := r_dec hP (by omega) h1
    obtain ⟨e1, e2⟩ := r_hi (z := z) hd ha ha2
    rw [e1, e2]
    split <;> omega
theorem rN_of {z P n : Int} (hP : 1 ≤ P) (h0 : 0 ≤ n) (h1 : n < z + z * P) : rN z P (rH z P n) (rP z P n) = n := by
  by_cases c : n < z
  · obtain ⟨e1, e2⟩ := r_lo (P := P) c
    rw [e1, e2]
    rfl
  · obtain ⟨d, a, rfl, hd, hd2, ha, ha2⟩ := r_dec hP (by omega) h1
    obtain ⟨e1, e2⟩ := r_hi (z := z) hd ha ha2
    rw [e1, e2]
    have ed : z - 1 - (z - 1 - d) = d := by omega
    unfold rN
    rw [ed]
    by_cases q : d % 2 = 0
    · rw [if_pos q, if_pos q, if_neg (by omega)]
      omega
    · rw [if_neg q, if_neg q, if_neg (by omega)]
      omega
theorem of_rN {z P h p : Int} (hP : 1 ≤ P) (h0 : 0 ≤ h) (h1 : h < z) (p0 : 0 ≤ p) (p1 : p < P + 1) : (0 ≤ rN z P h p ∧ rN z P h p < z + z * P) ∧ rH z P (rN z P h p) = h ∧ rP z P (rN z P h p) = p := by
  have hz : 0 ≤ z * P := Int.mul_nonneg (by omega) (by omega)
  by_cases c : p = 0
  · have e : rN z P h p = h := by unfold rN; rw [if_pos c]
    rw [e, (r_lo (P := P) h1).1, (r_lo (P := P) h1).2]
    omega
  · have e : rN z P h p = z + ((z - 1 - h) * P + (if (z - 1 - h) % 2 = 0 then p - 1 else P - p)) := by unfold rN; rw [if_neg c]; omega
    have a0 : 0 ≤ (if (z - 1 - h) % 2 = 0 then p - 1 else P - p) := by split <;> omega
    have a1 : (if (z - 1 - h) % 2 = 0 then p - 1 else P - p) < P := by split <;> omega
    obtain ⟨e1, e2⟩ := r_hi (z := z) (d := z - 1 - h) (by omega) a0 a1
    have m0 : 0 ≤ (z - 1 - h) * P := Int.mul_nonneg (by omega) (by omega)
    have m1 : (z - 1 - h + 1) * P ≤ z * P := Int.mul_le_mul_of_nonneg_right (by omega) (by omega)
    rw [Int.add_mul, Int.one_mul] at m1
    rw [e, e1, e2]
    refine ⟨⟨by omega, by omega⟩, by omega, ?_⟩
    by_cases q : (z - 1 - h) % 2 = 0
    · rw [if_pos q, if_pos q]; omega
    · rw [if_neg q, if_neg q]; omega
/-- from each number to the next one, of the last to the first: one step -/
theorem r_step {z P n : Int} (hP : 1 ≤ P) (hz : 0 < z) (hz2 : z % 2 = 0) (h0 : 0 ≤ n) (h1 : n < z + z * P) :
    (rP z P n = rP z P ((n + 1) % (z + z * P)) ∧ iabs (rH z P n - rH z P ((n + 1) % (z + z * P))) = 1) ∨
    (rH z P n = rH z P ((n + 1) % (z + z * P)) ∧ (rP z P ((n + 1) % (z + z * P)) = rP z P n + 1 ∨ rP z P n = rP z P ((n + 1) % (z + z * P)) + 1)) := by
  have hzP : z * 1 ≤ z * P := Int.mul_le_mul_of_nonneg_left hP (by omega)
  by_cases cl : n + 1 = z + z * P
  · have e : (n + 1) % (z + z * P) = 0 := by rw [cl, Int.emod_self]
    rw [e]
    obtain ⟨d, a, rfl, hd, hd2, ha, ha2⟩ := r_dec hP (by omega) h1
    obtain ⟨e1, e2⟩ := r_hi (z := z) hd ha ha2
    obtain ⟨f1, f2⟩ := r_lo (P := P) hz
    have m1 : (d + 1) * P ≤ z * P := Int.mul_le_mul_of_nonneg_right (by omega) (by omega)
    rw [Int.add_mul, Int.one_mul] at m1
    have ea : a = P - 1 := by omega
    have ed : d = z - 1 := by
      by_cases q : d + 1 < z
      · have m2 : (d + 1 + 1) * P ≤ z * P := Int.mul_le_mul_of_nonneg_right (by omega) (by omega)
        rw [Int.add_mul, Int.add_mul, Int.one_mul] at m2
        omega
      · omega
    rw [e1, e2, f1, f2]
    refine .inr ⟨by omega, .inr ?_⟩
    rw [if_neg (by omega)]
    omega
  · have e : (n + 1) % (z + z * P) = n + 1 := Int.emod_eq_of_lt (by omega) (by omega)
    rw [e]
    by_cases c : n + 1 < z
    · obtain ⟨e1, e2⟩ := r_lo (P := P) (show n < z by omega)
      obtain ⟨f1, f2⟩ := r_lo (P := P) c
      rw [e1, e2, f1, f2]
      refine .inl ⟨rfl, ?_⟩
      unfold iabs
      split <;> omega
    · by_cases c2 : n < z
      · obtain ⟨e1, e2⟩ := r_lo (P := P) c2
        obtain ⟨f1, f2⟩ := r_hi (z := z) (P := P) (d := 0) (a := 0) (by omega) (by omega) (by omega)
        have en : z + (0 * P + 0) = n + 1 := by omega
        rw [en] at f1 f2
        rw [e1, e2, f1, f2]
        refine .inr ⟨by omega, .inl rfl⟩
      · obtain ⟨d, a, rfl, hd, hd2, ha, ha2⟩ := r_dec hP (by omega) h1
        obtain ⟨e1, e2⟩ := r_hi (z := z) hd ha ha2
        by_cases q : a + 1 < P
        · obtain ⟨f1, f2⟩ := r_hi (z := z) (P := P) (d := d) (a := a + 1) hd (by omega) q
          have en : z + (d * P + (a + 1)) = z + (d * P + a) + 1 := by omega
          rw [en] at f1 f2
          rw [e1, e2, f1, f2]
          refine .inr ⟨rfl, ?_⟩
          by_cases r : d % 2 = 0
          · rw [if_pos r, if_pos r]; omega
          · rw [if_neg r, if_neg r]; omega
        · obtain ⟨f1, f2⟩ := r_hi (z := z) (P := P) (d := d + 1) (a := 0) (by omega) (by omega) (by omega)
          have en : z + ((d + 1) * P + 0) = z + (d * P + a) + 1 := by
            rw [Int.add_mul, Int.one_mul]
            omega
          rw [en] at f1 f2
          rw [e1, e2, f1, f2]
          refine .inl ⟨?_, ?_⟩
          · by_cases r : d % 2 = 0
            · rw [if_pos r, if_neg (by omega)]; omega
            · rw [if_neg r, if_pos (by omega)]; omega
          · unfold iabs
            split <;> omega
/-! ### lists: without a place, with a height at a place -/
def wo (s : List Int) (k : Nat) : List Int := s.take k ++ s.drop (k + 1)
def ins (s : List Int) (k : Nat) (h : Int) : List Int := s.take k ++ [h] ++ s.drop k
theorem InS.append : ∀ {ws vs ss ts : List Int}, InS ws ss → InS vs ts → InS (ws ++ vs) (ss ++ ts)
  | [], vs, [], ts, _, h => h
  | w :: ws, vs, s :: ss, ts, h, h2 => ⟨h.1, InS.append h.2 h2⟩
theorem InS.takeN : ∀ {ws ss : List Int}, InS ws ss → ∀ n : Nat, InS (ws.take n) (ss.take n)
  | [], [], _, n => by rw [List.take_nil]; exact True.intro
  | w :: ws, s :: ss, h, 0 => True.intro
  | w :: ws, s :: ss, h, n + 1 => ⟨h.1, InS.takeN h.2 n⟩
theorem InS.dropN : ∀ {ws ss : List Int}, InS ws ss → ∀ n : Nat, InS (ws.drop n) (ss.drop n)
  | [], [], _, n => by rw [List.drop_nil]; exact True.intro
  | w :: ws, s :: ss, h, 0 => h
  | w :: ws, s :: ss, h, n + 1 => InS.dropN h.2 n
theorem InS.at : ∀ {ws ss : List Int}, InS ws ss → ∀ n : Nat, n < ws.length → 0 ≤ ss.getD n 0 ∧ ss.getD n 0 < ws.getD n 0
  | w :: ws, s :: ss, h, 0, _ => h.1
  | w :: ws, s :: ss, h, n + 1, hn => InS.at h.2 n (Nat.lt_of_succ_lt_succ hn)
theorem split_at : ∀ {ws : List Int} {k : Nat}, k < ws.length → ws = ws.take k ++ ([ws.getD k 0] ++ ws.drop (k + 1))
  | w :: ws, 0, _ => rfl
  | w :: ws, k + 1, h => by
    show w :: ws = w :: (ws.take k ++ ([ws.getD k 0] ++ ws.drop (k + 1)))
    rw [← split_at (Nat.lt_of_succ_lt_succ h)]
theorem cnt_wo {ws : List Int} {k : Nat} (h : k < ws.length) : cnt ws = ws.getD k 0 * cnt (wo ws k) := by
  have e : cnt ws = cnt (ws.take k ++ ([ws.getD k 0] ++ ws.drop (k + 1))) := by rw [← split_at h]
  rw [e, wo, cnt_append, cnt_append, cnt_append]
  show _ * (_ * 1 * _) = _
  rw [Int.mul_one, ← Int.mul_assoc, ← Int.mul_assoc, Int.mul_comm (cnt (ws.take k))]
theorem Pos.wo {ws : List Int} (h : Pos ws) (k : Nat) : Pos (wo ws k) := fun w hw => (List.mem_append.mp hw).elim (fun z => h w (List.mem_of_mem_take z)) (fun z => h w (List.mem_of_mem_drop z))
theorem len_wo {ws : List Int} {k : Nat} (h : k < ws.length) : (wo ws k).length + 1 = ws.length := by
  rw [wo, List.length_append, List.length_take, List.length_drop]
  omega
theorem wo_ins {s : List Int} {k : Nat} {h : Int} (hk : k ≤ s.length) : wo (ins s k h) k = s := by
  have l1 : (s.take k).length = k := by rw [List.length_take]; omega
  have e1 : (ins s k h).take k = s.take k := by
    rw [ins, List.append_assoc, List.take_append_of_le_length (by omega), List.take_of_length_le (by omega)]
  have e2 : (ins s k h).drop (k + 1) = s.drop k := by
    rw [ins, List.drop_append_of_le_length (by rw [List.length_append, l1]; exact Nat.le_refl _), List.drop_of_length_le (by rw [List.length_append, l1]; exact Nat.le_refl _), List.nil_append]
  rw [wo, e1, e2, List.take_append_drop]
theorem at_ins {s : List Int} {k : Nat} {h : Int} (hk : k ≤ s.length) : (ins s k h).getD k 0 = h := by
  have l1 : (s.take k).length = k := by rw [List.length_take]; omega
  rw [ins, List.append_assoc, List.getD_eq_getElem?_getD, List.getElem?_append_right (by omega), l1, Nat.sub_self]
  rfl
theorem ins_wo {s : List Int} {k : Nat} (hk : k < s.length) : ins (wo s k) k (s.getD k 0) = s := by
  have l1 : (s.take k).length = k := by rw [List.length_take]; omega
  have e1 : (wo s k).take k = s.take k := by
    rw [wo, List.take_append_of_le_length (by omega), List.take_of_length_le (by omega)]
  have e2 : (wo s k).drop k = s.drop (k + 1) := by
    rw [wo, List.drop_append_of_le_length (by omega), List.drop_of_length_le (by omega), List.nil_append]
  rw [ins, e1, e2, List.append_assoc, ← split_at hk]
theorem len_ins {s : List Int} {k : Nat} {h : Int} : (ins s k h).length = s.length + 1 := by
  rw [ins, List.length_append, List.length_append, List.length_take, List.length_drop]
  show min k _ + 1 + _ = _
  omega
theorem InS.wo {ws ss : List Int} (h : InS ws ss) (k : Nat) : InS (wo ws k) (WW.wo ss k) := (h.takeN k).append (h.dropN (k + 1))
theorem ins_in {ws s : List Int} {k : Nat} {h : Int} (hk : k < ws.length) (hs : InS (wo ws k) s) (h0 : 0 ≤ h) (h1 : h < ws.getD k 0) : InS ws (ins s k h) := by
  have l1 : (ws.take k).length = k := by rw [List.length_take]; omega
  have e1 : (wo ws k).take k = ws.take k := by
    rw [WW.wo, List.take_append_of_le_length (by omega), List.take_of_length_le (by omega)]
  have e2 : (wo ws k).drop k = ws.drop (k + 1) := by
    rw [WW.wo, List.drop_append_of_le_length (by omega), List.drop_of_length_le (by omega), List.nil_append]
  have t := hs.takeN k
  have d := hs.dropN k
  rw [e1] at t
  rw [e2] at d
  have z : InS ([ws.getD k 0] ++ ws.drop (k + 1)) ([h] ++ s.drop k) := InS.append (ws := [ws.getD k 0]) (ss := [h]) ⟨⟨h0, h1⟩, True.intro⟩ d
  have y := t.append z
  rw [← split_at hk, ← List.append_assoc] at y
  exact y
theorem dist_append : ∀ {a b c d : List Int}, a.length = b.length → dist (a ++ c) (b ++ d) = dist a b + dist c d
  | [], [], c, d, _ => (Int.zero_add _).symm
  | x :: a, y :: b, c, d, h => by
    show iabs (x - y) + dist (a ++ c) (b ++ d) = iabs (x - y) + dist a b + dist c d
    rw [dist_append (Nat.succ.inj h), Int.add_assoc]
theorem dist_take_drop {s t : List Int} (k : Nat) (h : s.length = t.length) : dist (s.take k) (t.take k) + dist (s.drop k) (t.drop k) = dist s t := by
  rw [← dist_append (by rw [List.length_take, List.length_take, h]), List.take_append_drop, List.take_append_drop]
theorem dist_ins {s t : List Int} {k : Nat} {g h : Int} (hl : s.length = t.length) : dist (ins s k g) (ins t k h) = iabs (g - h) + dist s t := by
  have e := dist_take_drop k hl
  have lt : (s.take k).length = (t.take k).length := by rw [List.length_take, List.length_take, hl]
  rw [ins, ins, dist_append (by rw [List.length_append, List.length_append, lt]; rfl), dist_append lt]
  have : dist [g] [h] = iabs (g - h) := by
    show iabs (g - h) + 0 = _
    omega
  omega
/-! ### the ring -/
def evenAt (ws : List Int) : Nat := ((List.range ws.length).filter fun i => decide (ws.getD i 0 % 2 = 0)).headD 0
theorem even_some : ∀ {ws : List Int}, cnt ws % 2 = 0 → ∃ i, i < ws.length ∧ ws.getD i 0 % 2 = 0
  | [], h => by
    have : (1 : Int) % 2 = 0 := h
    omega
  | w :: ws, h => by
    by_cases c : w % 2 = 0
    · exact ⟨0, Nat.zero_lt_succ _, c⟩
    · have h2 : w * cnt ws % 2 = 0 := h
      have : cnt ws % 2 = 0 := by
        rw [Int.mul_emod] at h2
        have a : w % 2 = 1 := by omega
        rw [a, Int.one_mul, Int.emod_emod_of_dvd _ (Int.dvd_refl 2)] at h2
        exact h2
      obtain ⟨i, hi, q⟩ := even_some this
      exact ⟨i + 1, Nat.succ_lt_succ hi, q⟩
theorem even_at {ws : List Int} (h : cnt ws % 2 = 0) : ∃ r, ((List.range ws.length).filter fun i => decide (ws.getD i 0 % 2 = 0)) = evenAt ws :: r ∧ evenAt ws < ws.length ∧ ws.getD (evenAt ws) 0 % 2 = 0 := by
  obtain ⟨i, hi, q⟩ := even_some h
  have hm : i ∈ (List.range ws.length).filter fun i => decide (ws.getD i 0 % 2 = 0) := List.mem_filter.mpr ⟨List.mem_range.mpr hi, decide_eq_true q⟩
  unfold evenAt
  cases e : (List.range ws.length).filter fun i => decide (ws.getD i 0 % 2 = 0) with
  | nil => rw [e] at hm; cases hm
  | cons x r =>
    have hx : x ∈ (List.range ws.length).filter fun i => decide (ws.getD i 0 % 2 = 0) := by rw [e]; exact List.mem_cons_self
    obtain ⟨h1, h2⟩ := List.mem_filter.mp hx
    exact ⟨r, rfl, List.mem_range.mp h1, of_decide_eq_true h2⟩
theorem le_cnt : ∀ {ws : List Int}, Pos ws → ∀ w ∈ ws, w ≤ cnt ws
  | x :: ws, h, w, hw => by
    have h1 := h.head
    have h2 := cnt_pos h.tail
    show w ≤ x * cnt ws
    rcases List.mem_cons.mp hw with rfl | m
    · have := Int.mul_le_mul_of_nonneg_left h2 (show 0 ≤ w by omega)
      omega
    · have h3 := le_cnt h.tail w m
      have := Int.mul_le_mul_of_nonneg_right h1 (show 0 ≤ cnt ws by omega)
      omega
def turnN (ws : List Int) : Nat := ((List.range ws.length).filter fun i => decide (1 < ws.getD i 0)).length
theorem mem_wo {ws : List Int} {k i : Nat} (hi : i < ws.length) (hk : i ≠ k) : ws.getD i 0 ∈ wo ws k := by
  have e : ws.getD i 0 = ws[i] := by rw [List.getD_eq_getElem?_getD, List.getElem?_eq_getElem hi]; rfl
  rw [e]
  refine List.mem_append.mpr ?_
  by_cases c : i < k
  · exact .inl (List.mem_take_iff_getElem.mpr ⟨i, by omega, rfl⟩)
  · refine .inr (List.mem_drop_iff_getElem.mpr ⟨i - (k + 1), by omega, ?_⟩)
    congr 1
    omega
theorem others_big {ws : List Int} (hp : Pos ws) (ht : 1 < turnN ws) (k : Nat) : 2 ≤ cnt (wo ws k) := by
  have hpw : ((List.range ws.length).filter fun i => decide (1 < ws.getD i 0)).Pairwise (· < ·) := List.pairwise_lt_range.filter _
  have hmem : ∀ i ∈ (List.range ws.length).filter fun i => decide (1 < ws.getD i 0), i < ws.length ∧ 1 < ws.getD i 0 := fun i hi => by
    obtain ⟨h1, h2⟩ := List.mem_filter.mp hi
    exact ⟨List.mem_range.mp h1, of_decide_eq_true h2⟩
  unfold turnN at ht
  generalize (List.range ws.length).filter (fun i => decide (1 < ws.getD i 0)) = l at ht hpw hmem
  match l, ht, hpw, hmem with
  | a :: b :: r, _, hpw, hmem =>
    have hab : a < b := (List.pairwise_cons.mp hpw).1 b List.mem_cons_self
    have key : ∀ i, i < ws.length → 1 < ws.getD i 0 → i ≠ k → 2 ≤ cnt (wo ws k) := fun i h1 h2 h3 => by
      have := le_cnt (hp.wo k) _ (mem_wo h1 h3)
      omega
    by_cases c : a = k
    · obtain ⟨h1, h2⟩ := hmem b (List.mem_cons_of_mem _ List.mem_cons_self)
      exact key b h1 h2 (by omega)
    · obtain ⟨h1, h2⟩ := hmem a List.mem_cons_self
      exact key a h1 h2 c
/-- wheels of a ring -/
structure Ring (ws : List Int) : Prop where
  pos : Pos ws
  tn : 1 < turnN ws
  ev : cnt ws % 2 = 0
def ringS (ws : List Int) (n : Int) : List Int := ins (setAt (wo ws (evenAt ws)) (rP (ws.getD (evenAt ws) 0) (cnt (wo ws (evenAt ws)) - 1) n)) (evenAt ws) (rH (ws.getD (evenAt ws) 0) (cnt (wo ws (evenAt ws)) - 1) n)
def ringN (ws ss : List Int) : Int := rN (ws.getD (evenAt ws) 0) (cnt (wo ws (evenAt ws)) - 1) (ss.getD (evenAt ws) 0) (numAt (wo ws (evenAt ws)) (wo ss (evenAt ws)))
structure RingF (ws : List Int) (z P : Int) : Prop where
  lt : evenAt ws < ws.length
  z2 : z % 2 = 0
  z0 : 0 < z
  P1 : 1 ≤ P
  c : cnt ws = z + z * P
theorem Ring.facts {ws : List Int} (R : Ring ws) : RingF ws (ws.getD (evenAt ws) 0) (cnt (wo ws (evenAt ws)) - 1) := by
  obtain ⟨_, _, h1, h2⟩ := even_at R.ev
  have b := others_big R.pos R.tn (evenAt ws)
  have m : 1 ≤ ws.getD (evenAt ws) 0 := by
    have e : ws.getD (evenAt ws) 0 = ws[evenAt ws] := by rw [List.getD_eq_getElem?_getD, List.getElem?_eq_getElem h1]; rfl
    rw [e]
    exact R.pos _ (List.getElem_mem h1)
  refine ⟨h1, h2, by omega, by omega, ?_⟩
  rw [cnt_wo h1, Int.mul_sub, Int.mul_one]
  omega
theorem ring_in {ws : List Int} {n : Int} (R : Ring ws) (h0 : 0 ≤ n) (h1 : n < cnt ws) : InS ws (ringS ws n) := by
  have F := R.facts
  obtain ⟨⟨b1, b2⟩, _⟩ := r_bd F.P1 h0 (F.c ▸ h1)
  exact ins_in F.lt (setAt_in _ (R.pos.wo _)) b1 b2
theorem ring_len {ws : List Int} {n : Int} (h : evenAt ws < ws.length) : (ringS ws n).length = ws.length := by
  rw [ringS, len_ins, setAt_len, len_wo h]
theorem ring_num {ws : List Int} {n : Int} (R : Ring ws) (h0 : 0 ≤ n) (h1 : n < cnt ws) : ringN ws (ringS ws n) = n := by
  have F := R.facts
  have hb : n < _ := F.c ▸ h1
  obtain ⟨_, p0, p1⟩ := r_bd F.P1 h0 hb
  have hk : evenAt ws ≤ (setAt (wo ws (evenAt ws)) (rP (ws.getD (evenAt ws) 0) (cnt (wo ws (evenAt ws)) - 1) n)).length := by
    have := len_wo F.lt
    have := F.lt
    rw [setAt_len]
    omega
  rw [ringN, ringS, wo_ins hk, at_ins hk, num_set (R.pos.wo _) p0 (by omega)]
  exact rN_of F.P1 h0 hb
theorem num_ring {ws ss : List Int} (R : Ring ws) (h : InS ws ss) : (0 ≤ ringN ws ss ∧ ringN ws ss < cnt ws) ∧ ringS ws (ringN ws ss) = ss := by
  have F := R.facts
  obtain ⟨a0, a1⟩ := h.at _ F.lt
  obtain ⟨b0, b1⟩ := num_bd (h.wo (evenAt ws))
  obtain ⟨c, e1, e2⟩ := of_rN F.P1 a0 a1 b0 (by omega)
  refine ⟨by rw [F.c]; exact c, ?_⟩
  unfold ringS ringN
  rw [e1, e2, set_num (h.wo _)]
  exact ins_wo (by rw [h.len]; exact F.lt)
theorem ring_step {ws : List Int} {n : Int} (R : Ring ws) (h0 : 0 ≤ n) (h1 : n < cnt ws) : dist (ringS ws n) (ringS ws ((n + 1) % cnt ws)) = 1 := by
  have F := R.facts
  have hb : n < _ := F.c ▸ h1
  have hp := R.pos.wo (evenAt ws)
  have hc := cnt_pos R.pos
  have m0 := Int.emod_nonneg (n + 1) (b := cnt ws) (by omega)
  have m1 := Int.emod_lt_of_pos (n + 1) (b := cnt ws) (by omega)
  obtain ⟨_, p0, p1⟩ := r_bd F.P1 h0 hb
  obtain ⟨_, q0, q1⟩ := r_bd F.P1 m0 (Int.lt_of_lt_of_le m1 (Int.le_of_eq F.c))
  have s := r_step F.P1 F.z0 F.z2 h0 hb
  rw [← F.c] at s
  rw [ringS, ringS, dist_ins (by rw [setAt_len, setAt_len])]
  rcases s with ⟨e1, e2⟩ | ⟨e1, e2 | e2⟩
  · rw [← e1, dist_self, e2]; rfl
  · rw [← e1, iabs_self, e2, set_step hp p0 (by omega)]; rfl
  · rw [← e1, iabs_self, dist_comm, e2, set_step hp q0 (by omega)]; rfl
theorem turnN_filter (ws : List Int) : turnN ws = (ws.filter fun w => decide (1 < w)).length := by
  have e : ws = (List.range ws.length).map fun i => ws.getD i 0 := by
    refine List.ext_getElem (by rw [List.length_map, List.length_range]) fun i h1 h2 => ?_
    rw [List.getElem_map, List.getElem_range, List.getD_eq_getElem?_getD, List.getElem?_eq_getElem h1]
    rfl
  have e2 : (ws.filter fun w => decide (1 < w)).length = (((List.range ws.length).map fun i => ws.getD i 0).filter fun w => decide (1 < w)).length := by rw [← e]
  rw [e2, List.filter_map, List.length_map]
  rfl
theorem turnN_rev (ws : List Int) : turnN ws.reverse = turnN ws := by rw [turnN_filter, turnN_filter, List.filter_reverse, List.length_reverse]
/-! ### what a value is -/
inductive Kd where
  | int (i : Int) | bool | list | str | tup | rest
  deriving DecidableEq
def Kd.isInt : Kd → Bool
  | .int _ => true
  | .bool => true
  | _ => false
def Kd.isBool : Kd → Bool
  | .bool => true
  | _ => false
def Kd.isList : Kd → Bool
  | .list => true
  | _ => false
def Kd.isStr : Kd → Bool
  | .str => true
  | _ => false
def Kd.isTup : Kd → Bool
  | .tup => true
  | _ => false
def Kd.whole : Kd → Bool
  | .int _ => true
  | _ => false
inductive Thg (K : PySem.W.Frag) (H : Hp) : V → Kd → Prop where
  | int (i : Int) : Thg K H (.int i) (.int i)
  | bl (b : Bool) : Thg K H (.bl b) .bool
  | non : Thg K H .non .rest
  | str (x : Str) : Thg K H (.str x) .str
  | lst {a : Addr} {xs : List V} (h : SqL K H a xs) : Thg K H (.ref a) .list
  | tup {a : Addr} {xs : List V} (h : H a = some (.tup xs)) : Thg K H (.ref a) .tup
  | dct {a : Addr} {kvs : List (Key × V)} (h : H a = some (.dK kvs)) : Thg K H (.ref a) .rest
section
variable {K : PySem.W.Frag} {H H' : Hp} {v : V} {kd : Kd} {a : Addr} {xs : List V}
theorem Thg.mono (e : Ex H H') (h : Thg K H v kd) : Thg K H' v kd := by
  cases h with
  | int i => exact .int i
  | bl b => exact .bl b
  | non => exact .non
  | str x => exact .str x
  | lst h => exact .lst (ex_l e h)
  | tup h => exact .tup (e _ _ h)
  | dct h => exact .dct (e _ _ h)
abbrev Thgs (K : PySem.W.Frag) (H : Hp) (vs : List V) (ks : List Kd) : Prop := Paired (Thg K H) vs ks
theorem Thgs.mono (e : Ex H H') {vs : List V} {ks : List Kd} (h : Thgs K H vs ks) : Thgs K H' vs ks := Paired.mapP h fun _ _ => Thg.mono e
theorem Thgs.ints : ∀ (ns : List Int), Thgs K H (ns.map V.int) (ns.map Kd.int)
  | [] => .nil
  | n :: ns => .cons (.int n) (Thgs.ints ns)
theorem Thgs.get : ∀ {vs : List V} {ks : List Kd} {i : Nat} {x : V}, Thgs K H vs ks → vs[i]? = some x → ∃ k, ks[i]? = some k ∧ Thg K H x k
  | _, _, _, _, .nil, e => by simp at e
  | _, _, 0, _, .cons r _, e => by simp at e; subst e; exact ⟨_, rfl, r⟩
  | _, _, i + 1, x, .cons _ t, e => by
    obtain ⟨u, h1, h2⟩ := Thgs.get (i := i) (x := x) t (by simpa using e)
    exact ⟨u, by simpa using h1, h2⟩
theorem Thgs.len {vs : List V} {ks : List Kd} (h : Thgs K H vs ks) : vs.length = ks.length := Paired.length h
theorem ty_list (h : SqL K H a xs) : TyX K H (.ref a) (.type "list") := by
  rcases h with (h | ⟨o, h⟩) | ⟨o, its, n, hk, hc, _⟩
  · exact .base (.lst h)
  · exact .base (.frz h)
  · exact .kList hk hc
def Kd.names : Kd → V → String
  | .int _, _ => "int"
  | .bool, _ => "bool"
  | .list, _ => "list"
  | .str, _ => "str"
  | .tup, _ => "tuple"
  | .rest, .non => "NoneType"
  | .rest, _ => "dict"
theorem Thg.ty (h : Thg K H v kd) : TyX K H v (.type (kd.names v)) := by
  cases h with
  | int i => exact .base (.int i)
  | bl b => exact .base (.bl b)
  | non => exact .base .non
  | str x => exact .base (.str x)
  | lst h => exact ty_list h
  | tup h => exact .base (.tup h)
  | dct h => exact .base (.dK h)
theorem kd_int (h : Thg K H v kd) : PySem.W.kitOne K (.type (kd.names v)) (.type "int") = some kd.isInt := by
  cases h with
  | int _ => exact kit_ty (a := "int") (b := "int") (r := true) (by decide +kernel)
  | bl _ => exact kit_ty (a := "bool") (b := "int") (r := true) (by decide +kernel)
  | non => exact kit_ty (a := "NoneType") (b := "int") (r := false) (by decide +kernel)
  | str _ => exact kit_ty (a := "str") (b := "int") (r := false) (by decide +kernel)
  | lst _ => exact kit_ty (a := "list") (b := "int") (r := false) (by decide +kernel)
  | tup _ => exact kit_ty (a := "tuple") (b := "int") (r := false) (by decide +kernel)
  | dct _ => exact kit_ty (a := "dict") (b := "int") (r := false) (by decide +kernel)
theorem kd_bool (h : Thg K H v kd) : PySem.W.kitOne K (.type (kd.names v)) (.type "bool") = some kd.isBool := by
  cases h with
  | int _ => exact kit_ty (a := "int") (b := "bool") (r := false) (by decide +kernel)
  | bl _ => exact kit_ty (a := "bool") (b := "bool") (r := true) (by decide +kernel)
  | non => exact kit_ty (a := "NoneType") (b := "bool") (r := false) (by decide +kernel)
  | str _ => exact kit_ty (a := "str") (b := "bool") (r := false) (by decide +kernel)
  | lst _ => exact kit_ty (a := "list") (b := "bool") (r := false) (by decide +kernel)
  | tup _ => exact kit_ty (a := "tuple") (b := "bool") (r := false) (by decide +kernel)
  | dct _ => exact kit_ty (a := "dict") (b := "bool") (r := false) (by decide +kernel)
theorem kd_list (h : Thg K H v kd) : PySem.W.kitOne K (.type (kd.names v)) (.type "list") = some kd.isList := by
  cases h with
  | int _ => exact kit_ty (a := "int") (b := "list") (r := false) (by decide +kernel)
  | bl _ => exact kit_ty (a := "bool") (b := "list") (r := false) (by decide +kernel)
  | non => exact kit_ty (a := "NoneType") (b := "list") (r := false) (by decide +kernel)
  | str _ => exact kit_ty (a := "str") (b := "list") (r := false) (by decide +kernel)
  | lst _ => exact kit_ty (a := "list") (b := "list") (r := true) (by decide +kernel)
  | tup _ => exact kit_ty (a := "tuple") (b := "list") (r := false) (by decide +kernel)
  | dct _ => exact kit_ty (a := "dict") (b := "list") (r := false) (by decide +kernel)
theorem kd_str (h : Thg K H v kd) : PySem.W.kitOne K (.type (kd.names v)) (.type "str") = some kd.isStr := by
  cases h with
  | int _ => exact kit_ty (a := "int") (b := "str") (r := false) (by decide +kernel)
  | bl _ => exact kit_ty (a := "bool") (b := "str") (r := false) (by decide +kernel)
  | non => exact kit_ty (a := "NoneType") (b := "str") (r := false) (by decide +kernel)
  | str _ => exact kit_ty (a := "str") (b := "str") (r := true) (by decide +kernel)
  | lst _ => exact kit_ty (a := "list") (b := "str") (r := false) (by decide +kernel)
  | tup _ => exact kit_ty (a := "tuple") (b := "str") (r := false) (by decide +kernel)
  | dct _ => exact kit_ty (a := "dict") (b := "str") (r := false) (by decide +kernel)
theorem kd_tup (h : Thg K H v kd) : PySem.W.kitOne K (.type (kd.names v)) (.type "tuple") = some kd.isTup := by
  cases h with
  | int _ => exact kit_ty (a := "int") (b := "tuple") (r := false) (by decide +kernel)
  | bl _ => exact kit_ty (a := "bool") (b := "tuple") (r := false) (by decide +kernel)
  | non => exact kit_ty (a := "NoneType") (b := "tuple") (r := false) (by decide +kernel)
  | str _ => exact kit_ty (a := "str") (b := "tuple") (r := false) (by decide +kernel)
  | lst _ => exact kit_ty (a := "list") (b := "tuple") (r := false) (by decide +kernel)
  | tup _ => exact kit_ty (a := "tuple") (b := "tuple") (r := true) (by decide +kernel)
  | dct _ => exact kit_ty (a := "dict") (b := "tuple") (r := false) (by decide +kernel)
theorem rc_isi {c : String} {b : Bool} (h : Thg K H v kd) (hk : ∀ H1, Thg K H1 v kd → PySem.W.kitOne K (.type (kd.names v)) (.type c) = some b) : RC (rIsi K) [v, .ty c] H (.bl b) :=
  fun H1 e _ q => ⟨v, .ty c, _, _, b, rfl, .ty c, (h.mono e).ty, hk H1 (h.mono e), q H1 (Ex.refl H1)⟩
end
/-! ### more of what evaluates to what -/
section
variable {K : PySem.W.Frag} {σ : L2.St} {H H' : Hp} {ta tb te tx : TE} {t u : TT} {x y z v : V} {r : R2} {D : Ends} {tu tw tz : TS} {g : TG}
/-- a call of one argument, a new list -/
theorem ev_cbN {r : List V → Hp → VK → Prop} {xs : List V} (h : EvL te σ H xs) (hr : ∀ p H1, H1 p = some (.lst xs) → Ex H H1 → RC r [.ref p] H1 z) : Ev (tCB r (tCons te tNil)) σ H z := fun H1 e Q q =>
  h H1 e _ fun p H2 _ e2 hp => hr p H2 hp (e.trans e2) H2 (Ex.refl H2) Q fun H3 e3 => q H3 (e2.trans e3)
theorem rc_all {p : Addr} {bs : List Bool} (h : SqL K H p (bs.map V.bl)) : RC (rAll K) [.ref p] H (.bl (bs.all id)) := fun H1 e _ q => ⟨p, bs, rfl, ex_l e h, q H1 (Ex.refl H1)⟩
theorem rc_any {p : Addr} {bs : List Bool} (h : SqL K H p (bs.map V.bl)) : RC (rAny K) [.ref p] H (.bl (bs.any id)) := fun H1 e _ q => ⟨p, bs, rfl, ex_l e h, q H1 (Ex.refl H1)⟩
theorem rc_sum {p : Addr} {ns : List Int} (h : SqL K H p (ns.map V.int)) : RC (rSum K) [.ref p] H (.int ns.sum) := fun H1 e _ q => ⟨p, ns, rfl, ex_l e h, q H1 (Ex.refl H1)⟩
theorem ev_allN {bs : List Bool} (h : EvL te σ H (bs.map V.bl)) : Ev (tCB (rAll K) (tCons te tNil)) σ H (.bl (bs.all id)) := ev_cbN h fun _ _ hp _ => rc_all (sq_of hp)
theorem ev_anyN {bs : List Bool} (h : EvL te σ H (bs.map V.bl)) : Ev (tCB (rAny K) (tCons te tNil)) σ H (.bl (bs.any id)) := ev_cbN h fun _ _ hp _ => rc_any (sq_of hp)
theorem ev_sumN {ns : List Int} (h : EvL te σ H (ns.map V.int)) : Ev (tCB (rSum K) (tCons te tNil)) σ H (.int ns.sum) := ev_cbN h fun _ _ hp _ => rc_sum (sq_of hp)
theorem ev_abs {i : Int} (h : Ev te σ H (.int i)) : Ev (tCB (fun xs H Q => ∃ i, xs = [.int i] ∧ Q (.int (if i < 0 then -i else i)) H) (tCons te tNil)) σ H (.int (iabs i)) :=
  ev_cb (ea_cons h ea_nil) fun H1 _ _ q => ⟨i, rfl, q H1 (Ex.refl H1)⟩
theorem range_map_getD (ys : List V) (i : Nat) : ((List.range ys.length).map fun i => ys.getD i .non)[i]? = ys[i]? := by
  rw [List.getElem?_map]
  by_cases hi : i < ys.length
  · rw [List.getElem?_eq_getElem hi, List.getElem?_range hi, Option.map_some, List.getD_eq_getElem?_getD, List.getElem?_eq_getElem hi]
    rfl
  · rw [List.getElem?_eq_none (by rw [List.length_range]; omega), List.getElem?_eq_none (by omega)]
    rfl
/-- a comprehension over a list without a test: the items ys one for one -/
theorem el_list {a : Addr} {xs ys : List V} {tl : TE} {j : Nat} {vs : List Nat} (hl : ys.length = xs.length) (h : Ev tl σ H (.ref a)) (hx : SqL K H a xs) (hz : xs.length ≤ 40000) (hw : ∀ x, wipe ((wipe σ vs).set j (some x)) vs = wipe σ vs)
    (he : ∀ (i : Nat) (x y : V) H1, Ex H H1 → xs[i]? = some x → ys[i]? = some y → Ev te ((wipe σ vs).set j (some x)) H1 y) :
    EvL (tLc (iList K tl) (gName j) tYes te vs) σ H ys := by
  have e : given xs.length (fun _ => true) (fun i => ys.getD i .non) = ys := by
    unfold given
    rw [List.filter_eq_self.mpr (fun _ _ => rfl), ← hl]
    apply List.ext_getElem?
    intro i
    exact range_map_getD ys i
  rw [← e]
  refine el_lcL (fun _ => true) (fun i => ys.getD i .non) h hx hz hw (fun i x H1 _ _ => fun H2 _ _ q => q H2 (Ex.refl H2)) fun i x H1 e1 hi _ => ?_
  have hi' : i < ys.length := by
    have := (List.getElem?_eq_some_iff.mp hi).1
    omega
  have hy : ys[i]? = some (ys.getD i .non) := by
    rw [List.getD_eq_getElem?_getD, List.getElem?_eq_getElem hi']
    rfl
  exact he i x _ H1 e1 hi hy
theorem el_range {ta : TA} {ys : List V} {n : Nat} {j : Nat} {vs : List Nat} (hl : ys.length = n) (h : EvA ta σ H [.int (n : Int)]) (hz : n ≤ 40000) (hw : ∀ x, wipe ((wipe σ vs).set j (some x)) vs = wipe σ vs)
    (he : ∀ (i : Nat) (y : V) H1, Ex H H1 → i < n → ys[i]? = some y → Ev te ((wipe σ vs).set j (some (.int (i : Int)))) H1 y) :
    EvL (tLc (iRng1 ta) (gName j) tYes te vs) σ H ys := by
  have e : given (n : Int).toNat (fun _ => true) (fun i => ys.getD i .non) = ys := by
    unfold given
    rw [List.filter_eq_self.mpr (fun _ _ => rfl), Int.toNat_natCast, ← hl]
    apply List.ext_getElem?
    intro i
    exact range_map_getD ys i
  rw [← e]
  refine el_lcR1 (fun _ => true) (fun i => ys.getD i .non) h (by omega) hw (fun i H1 _ _ => fun H2 _ _ q => q H2 (Ex.refl H2)) fun i H1 e1 hi _ => ?_
  have hi' : i < ys.length := by omega
  have hy : ys[i]? = some (ys.getD i .non) := by
    rw [List.getD_eq_getElem?_getD, List.getElem?_eq_getElem hi']
    rfl
  exact he i _ H1 e1 (by omega) hy
/-! ### loops -/
/-- for j, k in enumerate(xs) -/
theorem s_forE {a : Addr} {xs : List V} {ta : TA} {j k : Nat} (h : EvA ta σ H [.ref a]) (hx : SqL K H a xs) (Pv : Nat → L2.St → Hp → Prop) (h0 : ∀ H1, Ex H H1 → Pv 0 σ H1) (hl : ∀ i σ' H', i ≤ xs.length → Pv i σ' H' → SqL K H' a xs)
    (hs : ∀ i x σ' H' H'', xs[i]? = some x → Pv i σ' H' → Ex H' H'' → tu { D with nx := Pv (i + 1), ct := Pv (i + 1), bk := D.nx } ((σ'.set j (some (.int (i : Int)))).set k (some x)) H'') (hd : ∀ σ' H', Pv xs.length σ' H' → D.nx σ' H') :
    tFor (iEnum K ta) (gTup K 2 (gCons (gName j) (gCons (gName k) gNil))) tu D σ H := by
  refine h H (Ex.refl H) _ fun H1 e => ⟨a, xs, rfl, ex_l e hx, fun i m σ' H' => i + m = xs.length ∧ Pv i σ' H', ⟨xs.length, by omega, h0 H1 e⟩, fun i m σ' H' hW => ?_⟩
  obtain ⟨em, hp⟩ := hW
  have hS := hl i σ' H' (by omega) hp
  by_cases hi : i < xs.length
  · have hxi : xs[i]? = some xs[i] := List.getElem?_eq_getElem hi
    refine .inr ⟨⟨xs, xs[i], hS, hxi⟩, Pv (i + 1), fun σ2 H2 p => ⟨m - 1, by omega, by omega, p⟩, fun v H2 hy => ?_⟩
    obtain ⟨T, x, rfl, nT, rfl, f⟩ := hy
    have ex : x = xs[i] := Option.some.inj ((f _ hS).symm.trans hxi)
    subst ex
    exact ⟨T, [.int (i : Nat), xs[i]], rfl, .inl (.inl upd_same), rfl, _, _, rfl, _, [], rfl, rfl, hs i _ σ' H' _ hxi hp (Ex.new nT)⟩
  · have ei : i = xs.length := by omega
    subst ei
    exact .inl ⟨⟨xs, hS, Nat.le_refl _⟩, hd σ' H' hp⟩
theorem q_forE {a : Addr} {xs : List V} {ta : TA} {j k : Nat} (h : EvA ta σ H [.ref a]) (hx : SqL K H a xs) (Pv : Nat → L2.St → Hp → Prop) (h0 : ∀ H1, Ex H H1 → Pv 0 σ H1) (hl : ∀ i σ' H', i ≤ xs.length → Pv i σ' H' → SqL K H' a xs)
    (hs : ∀ i x σ' H' H'', xs[i]? = some x → Pv i σ' H' → Ex H' H'' → tu { D with nx := Pv (i + 1), ct := Pv (i + 1), bk := tz D } ((σ'.set j (some (.int (i : Int)))).set k (some x)) H'') (hd : ∀ σ' H', Pv xs.length σ' H' → tz D σ' H') :
    tSeq (tFor (iEnum K ta) (gTup K 2 (gCons (gName j) (gCons (gName k) gNil))) tu) tz D σ H := s_forE (D := { D with nx := tz D }) h hx Pv h0 hl hs hd
/-- for j in reversed(range(n)) -/
theorem q_forV {n : Nat} {j : Nat} (h : Ev te σ H (.int (n : Int))) (hn : n ≤ 100000) (Pv : Nat → L2.St → Hp → Prop) (h0 : ∀ H1, Ex H H1 → Pv 0 σ H1)
    (hs : ∀ i σ' H', i < n → Pv i σ' H' → tu { D with nx := Pv (i + 1), ct := Pv (i + 1), bk := tz D } (σ'.set j (some (.int ((n - 1 - i : Nat) : Int)))) H') (hd : ∀ σ' H', Pv n σ' H' → tz D σ' H') :
    tSeq (tFor (iRevR (tRg1 te)) (gName j) tu) tz D σ H := by
  refine h H (Ex.refl H) _ fun H1 e => ⟨(n : Int), rfl, by omega, by omega, by omega, by omega, ?_⟩
  have en : ((n : Int) - 0).toNat = n := by omega
  have ex := for_rangeC (lo := (0 : Int) + ((((n : Int) - 0).toNat : Nat) : Int) - 1) (c := -1) (n := ((n : Int) - 0).toNat) (g := gName j) (tb := tu) (D := { D with nx := tz D }) (σ := σ) (H := H1) Pv (h0 H1 e) (fun i σ' H' hi p => ?_) (fun σ' H' p => hd σ' H' (by rw [en] at p; exact p))
  · exact ex
  · have ei : (0 : Int) + ((((n : Int) - 0).toNat : Nat) : Int) - 1 + ((i : Nat) : Int) * -1 = ((n - 1 - i : Nat) : Int) := by omega
    show tu _ (σ'.set j (some (.int ((0 : Int) + ((((n : Int) - 0).toNat : Nat) : Int) - 1 + ((i : Nat) : Int) * -1)))) H'
    rw [ei]
    exact hs i σ' H' (by omega) p
/-- i, j = divmod(a, b) -/
theorem q_divmod {ta : TA} {a b : Int} {i j : Nat} (h : EvA ta σ H [.int a, .int b]) (hc : CDivP a b) (k : ∀ H1, Ex H H1 → tz D ((σ.set i (some (.int (a / b)))).set j (some (.int (a % b)))) H1) :
    tSeq (tAsg (tCB (fun xs H Q => ∃ i j, xs = [.int i, .int j] ∧ CDivP i j ∧ ∀ p, H p = none → Q (.ref p) (upd H p (.tup [.int (i / j), .int (i % j)]))) ta) (gTup K 2 (gCons (gName i) (gCons (gName j) gNil)))) tz D σ H :=
  h H (Ex.refl H) _ fun H1 e => ⟨a, b, rfl, hc, fun p hp => ⟨p, _, rfl, .inl (.inl upd_same), rfl, _, _, rfl, _, [], rfl, rfl, k _ (e.trans (Ex.new hp))⟩⟩
/-- a call as a statement, whatever the promise -/
theorem q_call {ta : TA} {vs : List V} {sp : Sp} {E : XK} (h : EvA ta σ H vs) (k : ∀ H1, Ex H H1 → sp vs H1 (fun _ H2 => tz D σ H2) E) : tSeq (tDrop (tCall sp [] E ta)) tz D σ H :=
  h H (Ex.refl H) _ fun H1 e => by
    have := k H1 e
    rw [← List.append_nil vs] at this
    exact this
/-- return f(..), whatever the promise -/
theorem s_retC {ta : TA} {vs : List V} {sp : Sp} {E : XK} (h : EvA ta σ H vs) (k : ∀ H1, Ex H H1 → sp vs H1 D.rt E) : tRet (tCall sp [] E ta) D σ H :=
  h H (Ex.refl H) _ fun H1 e => by
    have := k H1 e
    rw [← List.append_nil vs] at this
    exact this
/-- an exception of the class at C -/
def RetX (C : Addr) (H : Hp) (E : XK) : Prop := ∀ H1, Ex H H1 → E (.ref C) none H1
theorem RetX.go {C : Addr} {E : XK} (k : RetX C H E) (e : Ex H H') : RetX C H' E := fun H1 e1 => k H1 (e.trans e1)
theorem RetV.mono {Q : VK} (k : RetV v H Q) (e : Ex H H') : RetV v H' Q := fun H1 e1 => k H1 (e.trans e1)
theorem RetL.mono {Q : VK} {xs : List V} (k : RetL xs H Q) (e : Ex H H') : RetL xs H' Q := fun p H2 hp e1 h => k p H2 (fresh_back e hp) (e.trans e1) h
end
section
variable {K : PySem.W.Frag} {σ : L2.St} {H H' : Hp} {ta tb tc te tx : TE} {t u : TT} {x y z v : V} {r r' : R2} {D : Ends} {tu tw tz : TS} {g : TG} {p : Addr} {ns : List Int} {xs : List V}
theorem rv_eqI {i j : Int} : RV rEq (.int i) (.int j) H (.bl (decide (i = j))) := fun H1 _ _ q => ⟨rfl, by
  rw [show decide (V.int i = V.int j) = decide (i = j) by rw [dec_int]; rfl]
  exact q H1 (Ex.refl H1)⟩
theorem rv_neI {i j : Int} : RV rNe (.int i) (.int j) H (.bl (!decide (i = j))) := fun H1 _ _ q => ⟨rfl, by
  rw [show decide (V.int i = V.int j) = decide (i = j) by rw [dec_int]; rfl]
  exact q H1 (Ex.refl H1)⟩
theorem rv_eqS {i j : Str} : RV rEq (.str i) (.str j) H (.bl (decide (i = j))) := fun H1 _ _ q => ⟨rfl, by
  rw [show decide (V.str i = V.str j) = decide (i = j) from by
    by_cases h : i = j
    · rw [h, decide_eq_true rfl, decide_eq_true rfl]
    · rw [decide_eq_false h, decide_eq_false (fun e => h (V.str.inj e))]]
  exact q H1 (Ex.refl H1)⟩
theorem rv_neS {i j : Str} : RV rNe (.str i) (.str j) H (.bl (!decide (i = j))) := fun H1 _ _ q => ⟨rfl, by
  rw [show decide (V.str i = V.str j) = decide (i = j) from by
    by_cases h : i = j
    · rw [h, decide_eq_true rfl, decide_eq_true rfl]
    · rw [decide_eq_false h, decide_eq_false (fun e => h (V.str.inj e))]]
  exact q H1 (Ex.refl H1)⟩
theorem rv_eqB {i j : Bool} : RV rEq (.bl i) (.bl j) H (.bl (decide (i = j))) := fun H1 _ _ q => ⟨rfl, by
  rw [show decide (V.bl i = V.bl j) = decide (i = j) from by cases i <;> cases j <;> rfl]
  exact q H1 (Ex.refl H1)⟩
theorem rc_len {n : Nat} (h : SqL K H p xs) (e : xs.length = n) : RC (fun xs H Q => ∃ p ys, xs = [.ref p] ∧ (SqL K H p ys ∨ SqT K H p ys) ∧ Q (.int ys.length) H) [.ref p] H (.int n) := fun H1 ex _ q => ⟨p, xs, rfl, .inl (ex_l ex h), by
  rw [e]
  exact q H1 (Ex.refl H1)⟩
theorem len_map (ns : List Int) : (ns.map V.int).length = ns.length := List.length_map ..
theorem ev_lenI (ha : Ev ta σ H (.ref p)) (h : SqL K H p (ns.map V.int)) : Ev (tCB (fun xs H Q => ∃ p ys, xs = [.ref p] ∧ (SqL K H p ys ∨ SqT K H p ys) ∧ Q (.int ys.length) H) (tCons ta tNil)) σ H (.int (ns.length : Int)) :=
  ev_cb (ea_cons ha ea_nil) (rc_len h (len_map ns))
theorem ev_lenL (ha : Ev ta σ H (.ref p)) (h : SqL K H p xs) : Ev (tCB (fun xs H Q => ∃ p ys, xs = [.ref p] ∧ (SqL K H p ys ∨ SqT K H p ys) ∧ Q (.int ys.length) H) (tCons ta tNil)) σ H (.int (xs.length : Int)) :=
  ev_cb (ea_cons ha ea_nil) (rc_len h rfl)
theorem at_int {k : Nat} (h : k < ns.length) : atI (ns.map V.int) (k : Int) = some (.int (ns.getD k 0)) := atI_nat (by
  rw [List.getElem?_map, List.getElem?_eq_getElem h, Option.map_some, List.getD_eq_getElem?_getD, List.getElem?_eq_getElem h]
  rfl)
theorem at_intZ {k : Int} (h0 : 0 ≤ k) (h : k < ns.length) : atI (ns.map V.int) k = some (.int (ns.getD k.toNat 0)) := by
  have e : k = ((k.toNat : Nat) : Int) := by omega
  have := at_int (ns := ns) (k := k.toNat) (by omega)
  rw [← e] at this
  exact this
theorem rv_ixI {k : Nat} (h : SqL K H p (ns.map V.int)) (hk : k < ns.length) : RV (rIxL K) (.ref p) (.int (k : Int)) H (.int (ns.getD k 0)) := rv_ixL h (at_int hk)
theorem rv_ixZ {k : Int} (h : SqL K H p (ns.map V.int)) (h0 : 0 ≤ k) (hk : k < ns.length) : RV (rIxL K) (.ref p) (.int k) H (.int (ns.getD k.toNat 0)) := rv_ixL h (at_intZ h0 hk)
/-- a op1 b op2 c of whole numbers -/
theorem ev_chainI {f f' : Int → Int → Bool} {a b c : Int} (ha : Ev ta σ H (.int a)) (hb : Ev tb σ H (.int b)) (hc : f a b = true → Ev tc σ H (.int c)) :
    Ev (tChain (rI0 fun i j => .bl (f i j)) (rI0 fun i j => .bl (f' i j)) ta tb tc) σ H (.bl (f a b && f' b c)) := fun H1 e Q q =>
  ha H1 e _ fun H2 e2 => hb H2 (e.trans e2) _ fun H3 e3 => ⟨a, b, rfl, rfl, f a b, rfl, by
    cases hf : f a b with
    | true =>
      show tc σ H3 _
      refine hc hf H3 ((e.trans e2).trans e3) _ fun H4 e4 => ⟨b, c, rfl, rfl, ?_⟩
      have := q H4 ((e2.trans e3).trans e4)
      rw [hf] at this
      exact this
    | false =>
      show Q (.bl false) H3
      have := q H3 (e2.trans e3)
      rw [hf] at this
      exact this⟩
theorem ev_to {w : V} (h : Ev te σ H v) (e : v = w) : Ev te σ H w := e ▸ h
/-- a new tuple's item -/
theorem ev_ixU {xs : List V} {i : Int} (ha : EvU ta σ H xs) (hb : ∀ H1, Ex H H1 → Ev tb σ H1 (.int i)) (hr : atI xs i = some v) : Ev (tOp (rIxT K) ta tb) σ H v := fun H1 e Q q =>
  ha H1 e _ fun p H2 _ e2 hp => hb H2 (e.trans e2) H2 (Ex.refl H2) _ fun H3 e3 => ⟨p, xs, i, v, rfl, rfl, st_of (e3 p _ hp), hr, q H3 (e2.trans e3)⟩
theorem et_tt {b b' : Bool} (h : EvT t σ H b) (e : b = b') : EvT t σ H b' := e ▸ h
theorem rv_ixTZ {k : Int} (h : SqT K H p (ns.map V.int)) (h0 : 0 ≤ k) (hk : k < ns.length) : RV (rIxT K) (.ref p) (.int k) H (.int (ns.getD k.toNat 0)) := rv_ixT h (at_intZ h0 hk)
theorem set_same {i : Nat} {v : V} (h : σ[i]? = some (some v)) : σ.set i (some v) = σ := by
  apply List.ext_getElem?
  intro j
  by_cases hj : i = j
  · subst hj
    rw [List.getElem?_set_self (List.getElem?_eq_some_iff.mp h).1, h]
  · rw [List.getElem?_set_ne hj]
/-- if c: x = e, of whole numbers -/
theorem q_ifI {i : Nat} {c : Prop} [Decidable c] {e0 e1 : Int} (h : EvT t σ H (decide c)) (hs : σ[i]? = some (some (.int e0))) (h1 : c → Ev te σ H (.int e1)) (k : ∀ H1, Ex H H1 → tz D (σ.set i (some (.int (if c then e1 else e0)))) H1) :
    tSeq (tIfS t (tAsg te (gName i)) tNext) tz D σ H :=
  q_ifAsg h (fun hb => by rw [if_pos (of_decide_eq_true hb)]; exact h1 (of_decide_eq_true hb)) (fun hb => by rw [if_neg (of_decide_eq_false hb)]; exact set_same hs) k
theorem dec_and {a b : Prop} [Decidable a] [Decidable b] : (decide a && decide b) = decide (a ∧ b) := by
  by_cases ha : a <;> by_cases hb : b <;> simp [ha, hb]
theorem dec_or {a b : Prop} [Decidable a] [Decidable b] : (decide a || decide b) = decide (a ∨ b) := by
  by_cases ha : a <;> by_cases hb : b <;> simp [ha, hb]
theorem dec_not {a : Prop} [Decidable a] : (!decide a) = decide (¬ a) := by
  by_cases ha : a <;> simp [ha]
theorem range_map_len (f : Nat → Int) (i : Nat) : (((List.range i).map f).map V.int).length = i := by rw [List.length_map, List.length_map, List.length_range]
theorem range_map_succ (f : Nat → Int) (i : Nat) : ((List.range (i + 1)).map f).map V.int = ((List.range i).map f).map V.int ++ [.int (f i)] := by
  rw [List.range_succ, List.map_append, List.map_append]
  rfl
theorem cut_to (xs : List V) (k : Nat) : cutV xs none (some (k : Int)) = xs.take k := by
  unfold cutV
  rw [HT.sIx_none, HT.sIx_nat]
  show (xs.drop 0).take (min k xs.length - 0) = xs.take k
  rw [List.drop_zero, Nat.sub_zero, ← List.take_take, List.take_length]
theorem cut_from (xs : List V) (k : Nat) : cutV xs (some (k : Int)) none = xs.drop k := by
  unfold cutV
  rw [HT.sIx_none, HT.sIx_nat]
  by_cases h : k ≤ xs.length
  · rw [Nat.min_eq_left h, List.take_of_length_le (by rw [List.length_drop]; exact Nat.le_refl _)]
  · rw [Nat.min_eq_right (by omega), Nat.sub_self, List.take_zero, List.drop_of_length_le (by omega)]
theorem cut_butlast (xs : List V) : cutV xs none (some (-1)) = xs.take (xs.length - 1) := by
  unfold cutV
  rw [HT.sIx_none]
  have e : HT.sIx xs.length xs.length (some (-1)) = xs.length - 1 := by
    unfold HT.sIx
    simp only
    rw [if_pos (by decide)]
    omega
  rw [e, List.drop_zero, Nat.sub_zero]
end
/-! ### data: lists of whole numbers, lists of such lists -/
abbrev dI (ns : List Int) : PyData := .list (ns.map PyData.int)
theorem eqv_int (i j : Int) : PyData.eqv (.int i) (.int j) = (i == j) := by simp only [PyData.eqv]
theorem eqvAll_ints : ∀ ns ms : List Int, PyData.eqvAll (ns.map PyData.int) (ms.map PyData.int) = decide (ns = ms)
  | [], [] => by simp [PyData.eqvAll]
  | [], _ :: _ => by simp [PyData.eqvAll]
  | _ :: _, [] => by simp [PyData.eqvAll]
  | n :: ns, m :: ms => by
    rw [List.map_cons, List.map_cons, PyData.eqvAll, eqv_int, eqvAll_ints ns ms]
    by_cases h : n = m
    · subst h
      simp
    · simp [h]
theorem eqv_dI (ns ms : List Int) : PyData.eqv (dI ns) (dI ms) = decide (ns = ms) := by
  show PyData.eqv (.list _) (.list _) = _
  rw [PyData.eqv, eqvAll_ints]
theorem eqvAll_lists : ∀ as bs : List (List Int), PyData.eqvAll (as.map dI) (bs.map dI) = decide (as = bs)
  | [], [] => by simp [PyData.eqvAll]
  | [], _ :: _ => by simp [PyData.eqvAll]
  | _ :: _, [] => by simp [PyData.eqvAll]
  | n :: ns, m :: ms => by
    rw [List.map_cons, List.map_cons, PyData.eqvAll, eqv_dI, eqvAll_lists ns ms]
    by_cases h : n = m
    · subst h
      simp
    · simp [h]
theorem eqv_dLL (as bs : List (List Int)) : PyData.eqv (.list (as.map dI)) (.list (bs.map dI)) = decide (as = bs) := by rw [PyData.eqv, eqvAll_lists]
theorem can_ints : ∀ ns : List Int, PyData.canLayAll0 (ns.map PyData.int) = true
  | [] => by simp [PyData.canLayAll0]
  | n :: ns => by
    rw [List.map_cons, PyData.canLayAll0, can_ints ns]
    simp [PyData.canLay0]
theorem can_dI (ns : List Int) : PyData.canLay0 (dI ns) = true := by
  show PyData.canLay0 (.list _) = true
  rw [PyData.canLay0]
  exact can_ints ns
theorem can_lists : ∀ as : List (List Int), PyData.canLayAll0 (as.map dI) = true
  | [] => by simp [PyData.canLayAll0]
  | n :: ns => by
    rw [List.map_cons, PyData.canLayAll0, can_lists ns, can_dI]
    rfl
theorem depth_ints : ∀ ns : List Int, PyData.depthAll (ns.map PyData.int) = 0
  | [] => by simp [PyData.depthAll]
  | n :: ns => by
    rw [List.map_cons, PyData.depthAll, depth_ints ns]
    simp [PyData.depth]
theorem depth_dI (ns : List Int) : PyData.depth (dI ns) = 1 := by
  show PyData.depth (.list _) = 1
  rw [PyData.depth, depth_ints]
theorem depth_lists : ∀ as : List (List Int), PyData.depthAll (as.map dI) ≤ 1
  | [] => by simp [PyData.depthAll]
  | n :: ns => by
    rw [List.map_cons, PyData.depthAll, depth_dI]
    have := depth_lists ns
    omega
theorem shaped_dI (ns : List Int) : SeqAt.shaped (dI ns) = true := by
  unfold SeqAt.shaped
  rw [can_dI, depth_dI]
  rfl
theorem shaped_dLL (as : List (List Int)) : SeqAt.shaped (.list (as.map dI)) = true := by
  unfold SeqAt.shaped
  rw [PyData.canLay0, can_lists, PyData.depth, decide_eq_true (by have := depth_lists as; omega)]
  rfl
section
variable {K : PySem.W.Frag} {σ : L2.St} {H H' : Hp} {ta tb tc te tx : TE} {t u : TT} {x y z v : V} {r r' : R2} {D : Ends} {tu tw tz : TS} {g : TG} {p q : Addr} {ns ms : List Int} {xs ys : List V}
theorem dpAll_ints : ∀ ns : List Int, DpAll K H (ns.map V.int) (ns.map PyData.int)
  | [] => .nil
  | n :: ns => .cons (.int n) (dpAll_ints ns)
theorem dp_ints (h : SqL K H p (ns.map V.int)) : Dp K H (.ref p) (dI ns) := .lst h (dpAll_ints ns)
/-- the lists of whole numbers nss stand one by one at the items xs -/
def Rows (K : PySem.W.Frag) (H : Hp) (xs : List V) (nss : List (List Int)) : Prop := Paired (fun v ns => ∃ a, v = V.ref a ∧ SqL K H a (ns.map V.int)) xs nss
theorem Rows.mono (e : Ex H H') {nss : List (List Int)} (h : Rows K H xs nss) : Rows K H' xs nss := Paired.mapP h fun _ _ ⟨a, e1, h1⟩ => ⟨a, e1, ex_l e h1⟩
theorem Rows.dp {nss : List (List Int)} (h : Rows K H xs nss) : DpAll K H xs (nss.map dI) := by
  induction h with
  | nil => exact .nil
  | cons r _ ih =>
    obtain ⟨a, rfl, h1⟩ := r
    exact .cons (dp_ints h1) ih
theorem Rows.len {nss : List (List Int)} (h : Rows K H xs nss) : xs.length = nss.length := Paired.length h
theorem Rows.snoc {nss : List (List Int)} (h : Rows K H xs nss) (h1 : SqL K H p (ns.map V.int)) : Rows K H (xs ++ [.ref p]) (nss ++ [ns]) := by
  induction h with
  | nil => exact .cons ⟨p, rfl, h1⟩ .nil
  | cons r _ ih => exact .cons r ih
theorem Rows.get {nss : List (List Int)} (h : Rows K H xs nss) {i : Nat} (hx : xs[i]? = some x) : ∃ a ns, x = .ref a ∧ nss[i]? = some ns ∧ SqL K H a (ns.map V.int) := by
  induction h generalizing i with
  | nil => simp at hx
  | cons r _ ih =>
    cases i with
    | zero =>
      obtain ⟨a, rfl, h1⟩ := r
      simp at hx
      subst hx
      exact ⟨a, _, rfl, rfl, h1⟩
    | succ i =>
      obtain ⟨a, ns, h1, h2, h3⟩ := ih (i := i) (by simpa using hx)
      exact ⟨a, ns, h1, by simpa using h2, h3⟩
theorem rv_neDI (h1 : SqL K H p (ns.map V.int)) (h2 : SqL K H q (ms.map V.int)) : RV (rNeD K) (.ref p) (.ref q) H (.bl (!decide (ns = ms))) := fun H1 e _ k =>
  ⟨dI ns, dI ms, dp_ints (ex_l e h1), dp_ints (ex_l e h2), shaped_dI ns, shaped_dI ms, by rw [eqv_dI]; exact k H1 (Ex.refl H1)⟩
theorem rv_eqDI (h1 : SqL K H p (ns.map V.int)) (h2 : SqL K H q (ms.map V.int)) : RV (rEqD K) (.ref p) (.ref q) H (.bl (decide (ns = ms))) := fun H1 e _ k =>
  ⟨dI ns, dI ms, dp_ints (ex_l e h1), dp_ints (ex_l e h2), shaped_dI ns, shaped_dI ms, by rw [eqv_dI]; exact k H1 (Ex.refl H1)⟩
theorem rv_neDL {as bs : List (List Int)} (h1 : SqL K H p xs) (r1 : Rows K H xs as) (h2 : SqL K H q ys) (r2 : Rows K H ys bs) : RV (rNeD K) (.ref p) (.ref q) H (.bl (!decide (as = bs))) := fun H1 e _ k =>
  ⟨.list (as.map dI), .list (bs.map dI), .lst (ex_l e h1) (r1.mono e).dp, .lst (ex_l e h2) (r2.mono e).dp, shaped_dLL as, shaped_dLL bs, by rw [eqv_dLL]; exact k H1 (Ex.refl H1)⟩
theorem rv_eqDL {as bs : List (List Int)} (h1 : SqL K H p xs) (r1 : Rows K H xs as) (h2 : SqL K H q ys) (r2 : Rows K H ys bs) : RV (rEqD K) (.ref p) (.ref q) H (.bl (decide (as = bs))) := fun H1 e _ k =>
  ⟨.list (as.map dI), .list (bs.map dI), .lst (ex_l e h1) (r1.mono e).dp, .lst (ex_l e h2) (r2.mono e).dp, shaped_dLL as, shaped_dLL bs, by rw [eqv_dLL]; exact k H1 (Ex.refl H1)⟩
/-! ### new lists -/
theorem flatten_rep (n : Nat) (x : V) : (List.replicate n [x]).flatten = List.replicate n x := by
  induction n with
  | zero => rfl
  | succ n ih => rw [List.replicate_succ, List.flatten_cons, ih, List.replicate_succ]; rfl
/-- [x] * n -/
theorem el_rep {n : Nat} (ha : EvL ta σ H [x]) (hb : Ev tb σ H (.int (n : Int))) (hn : n ≤ 100000) : EvL (tOp rRep ta tb) σ H (List.replicate n x) := fun H1 e Q k =>
  ha H1 e _ fun p H2 hp e2 h2 => hb H2 (e.trans e2) _ fun H3 e3 => ⟨p, (n : Int), [x], rfl, rfl, e3 _ _ h2, by omega, by omega, by rw [List.length_singleton, Int.toNat_natCast, Nat.one_mul]; exact sz_of hn, fun q hq => by
    rw [Int.toNat_natCast, flatten_rep]
    exact k q _ (fresh_back (e2.trans e3) hq) ((e2.trans e3).trans (Ex.new hq)) upd_same⟩
theorem rg_int (n : Nat) : rgV 0 (n : Int) = ((List.range n).map fun i : Nat => (i : Int)).map V.int := by
  unfold rgV
  rw [List.map_map, show ((n : Int) - 0).toNat = n by omega]
  congr 1
  funext i
  show V.int (0 + (i : Int)) = V.int (i : Int)
  rw [Int.zero_add]
/-- list(range(n)) -/
theorem el_rangeL {n : Nat} (ha : Ev ta σ H (.int (n : Int))) (hn : n ≤ 100000) : EvL (tLstRg (tRg1 ta)) σ H (((List.range n).map fun i : Nat => (i : Int)).map V.int) := fun H1 e Q k =>
  ha H1 e _ fun H2 e2 => ⟨(n : Int), rfl, RgOk.of_le (by omega) (by omega) (by omega) (by omega), fun q hq => by
    rw [rg_int]
    exact k q _ (fresh_back e2 hq) (e2.trans (Ex.new hq)) upd_same⟩
/-- xs + ys of two new lists; of a list that stands and a new one -/
theorem el_catLL (ha : EvL ta σ H xs) (hb : EvL tb σ H ys) (hz : xs.length + ys.length ≤ 100000) : EvL (tOp (rCatQ K) ta tb) σ H (xs ++ ys) := fun H1 e Q k =>
  ha H1 e _ fun p H2 hp e2 h2 => hb H2 (e.trans e2) _ fun q H3 hq e3 h3 => ⟨p, q, xs, ys, rfl, rfl, sq_of (e3 _ _ h2), sq_of h3, sz_of hz, fun l hl => k l _ (fresh_back (e2.trans e3) hl) ((e2.trans e3).trans (Ex.new hl)) upd_same⟩
theorem el_catSL (ha : Ev ta σ H (.ref p)) (h1 : SqL K H p xs) (hb : EvL tb σ H ys) (hz : xs.length + ys.length ≤ 100000) : EvL (tOp (rCatQ K) ta tb) σ H (xs ++ ys) := fun H1 e Q k =>
  ha H1 e _ fun H2 e2 => hb H2 (e.trans e2) _ fun q H3 hq e3 h3 => ⟨p, q, xs, ys, rfl, rfl, ex_l ((e.trans e2).trans e3) h1, sq_of h3, sz_of hz, fun l hl => k l _ (fresh_back (e2.trans e3) hl) ((e2.trans e3).trans (Ex.new hl)) upd_same⟩
theorem el_catLS (ha : EvL ta σ H xs) (hb : Ev tb σ H (.ref p)) (h1 : SqL K H p ys) (hz : xs.length + ys.length ≤ 100000) : EvL (tOp (rCatQ K) ta tb) σ H (xs ++ ys) := fun H1 e Q k =>
  ha H1 e _ fun q H2 hq e2 h2 => hb H2 (e.trans e2) _ fun H3 e3 => ⟨q, p, xs, ys, rfl, rfl, sq_of (e3 _ _ h2), ex_l ((e.trans e2).trans e3) h1, sz_of hz, fun l hl => k l _ (fresh_back (e2.trans e3) hl) ((e2.trans e3).trans (Ex.new hl)) upd_same⟩
theorem el_catSS (ha : Ev ta σ H (.ref p)) (h1 : SqL K H p xs) (hb : Ev tb σ H (.ref q)) (h2 : SqL K H q ys) (hz : xs.length + ys.length ≤ 100000) : EvL (tOp (rCatQ K) ta tb) σ H (xs ++ ys) := fun H1 e Q k =>
  ha H1 e _ fun H2 e2 => hb H2 (e.trans e2) _ fun H3 e3 => ⟨p, q, xs, ys, rfl, rfl, ex_l ((e.trans e2).trans e3) h1, ex_l ((e.trans e2).trans e3) h2, sz_of hz, fun l hl => k l _ (fresh_back (e2.trans e3) hl) ((e2.trans e3).trans (Ex.new hl)) upd_same⟩
/-- xs[::-1] -/
theorem el_rev (ha : Ev ta σ H (.ref p)) (h1 : SqL K H p xs) : EvL (tRevL K ta) σ H xs.reverse := fun H1 e Q k =>
  ha H1 e _ fun H2 e2 => ⟨p, xs, rfl, ex_l (e.trans e2) h1, fun l hl => k l _ (fresh_back e2 hl) (e2.trans (Ex.new hl)) upd_same⟩
/-- list(xs) -/
theorem el_copy (ha : Ev ta σ H (.ref p)) (h1 : SqL K H p xs) : EvL (tCB (fun xs H Q => ∃ p ys, xs = [.ref p] ∧ (SqL K H p ys ∨ SqT K H p ys) ∧ ∀ l, H l = none → Q (.ref l) (upd H l (.lst ys))) (tCons ta tNil)) σ H xs := Evl.el_list ha h1
/-- a comprehension over a new tuple -/
theorem el_lcTup {tl : TE} {j : Nat} {vs : List Nat} (hl : ys.length = xs.length) (h : EvU tl σ H xs) (hz : xs.length ≤ 40000) (hw : ∀ x, wipe ((wipe σ vs).set j (some x)) vs = wipe σ vs)
    (he : ∀ (i : Nat) (x y : V) H1, Ex H H1 → xs[i]? = some x → ys[i]? = some y → Ev te ((wipe σ vs).set j (some x)) H1 y) :
    EvL (tLc (iTup K tl) (gName j) tYes te vs) σ H ys := fun H0 e Q q => h H0 e _ fun a H1 ha e1 hx => ⟨a, rfl, ⟨xs, st_of hx⟩, fun Dl hD => by
  refine lc_tup (xs := xs) (fun i H' => Ex H1 H' ∧ H' Dl = some (.lst (ys.take i))) ⟨Ex.new hD, upd_same⟩ (fun i H' _ p => st_of (p.1 a _ hx)) (fun i x H' hi p => ⟨hw x, ?_⟩) (fun H' p => q Dl H' (fresh_back e1 hD) (e1.trans p.1) (by rw [p.2, List.take_of_length_le (by omega)]))
  have hi' : i < ys.length := by
    have := (List.getElem?_eq_some_iff.mp hi).1
    omega
  have hy : ys[i]? = some ys[i] := List.getElem?_eq_getElem hi'
  unfold tYes
  dsimp only
  rw [if_pos rfl]
  refine he i x _ H' ((e.trans e1).trans p.1) hi hy H' (Ex.refl H') _ fun H4 e4 => ⟨ys.take i, e4 _ _ p.2, sz_lt (by rw [List.length_take]; omega), Ex.mut (p.1.trans e4) hD, ?_⟩
  rw [upd_same, List.take_succ, hy]
  rfl⟩
/-- the second operand a new list, the first one stands -/
theorem ev_opSL (ha : Ev ta σ H x) (hb : EvL tb σ H ys) (hr : ∀ q H1, H1 q = some (.lst ys) → Ex H H1 → RV r x (.ref q) H1 z) : Ev (tOp r ta tb) σ H z := fun H1 e Q k =>
  ha H1 e _ fun H2 e2 => hb H2 (e.trans e2) _ fun q H3 hq e3 h3 => hr q H3 h3 ((e.trans e2).trans e3) H3 (Ex.refl H3) Q fun H4 e4 => k H4 ((e2.trans e3).trans e4)
theorem ev_opLS (ha : EvL ta σ H xs) (hb : Ev tb σ H y) (hr : ∀ q H1, H1 q = some (.lst xs) → Ex H H1 → RV r (.ref q) y H1 z) : Ev (tOp r ta tb) σ H z := fun H1 e Q k =>
  ha H1 e _ fun q H2 hq e2 h2 => hb H2 (e.trans e2) _ fun H3 e3 => hr q H3 (e3 _ _ h2) ((e.trans e2).trans e3) H3 (Ex.refl H3) Q fun H4 e4 => k H4 ((e2.trans e3).trans e4)
/-- a promised call one of whose arguments is a new list: f(a, [..]) -/
theorem ev_callSL {sp : Sp} {E : XK} (ha : Ev ta σ H x) (hb : EvL tb σ H ys) (hs : ∀ q H1, H1 q = some (.lst ys) → Ex H H1 → SpV sp [x, .ref q] H1 z) : Ev (tCall sp [] E (tCons ta (tCons tb tNil))) σ H z := fun H1 e Q k =>
  ha H1 e _ fun H2 e2 => hb H2 (e.trans e2) _ fun q H3 hq e3 h3 => hs q H3 h3 ((e.trans e2).trans e3) H3 (Ex.refl H3) Q (fun H4 e4 => k H4 ((e2.trans e3).trans e4)) E
theorem ev_callLL {sp : Sp} {E : XK} (ha : EvL ta σ H xs) (hb : EvL tb σ H ys) (hs : ∀ p q H1, H1 p = some (.lst xs) → H1 q = some (.lst ys) → Ex H H1 → SpV sp [.ref p, .ref q] H1 z) : Ev (tCall sp [] E (tCons ta (tCons tb tNil))) σ H z := fun H1 e Q k =>
  ha H1 e _ fun p H2 hp e2 h2 => hb H2 (e.trans e2) _ fun q H3 hq e3 h3 => hs p q H3 (e3 _ _ h2) h3 ((e.trans e2).trans e3) H3 (Ex.refl H3) Q (fun H4 e4 => k H4 ((e2.trans e3).trans e4)) E
theorem el_callLS {sp : Sp} {E : XK} {zs : List V} (ha : EvL ta σ H xs) (hb : Ev tb σ H y) (hs : ∀ p H1, H1 p = some (.lst xs) → Ex H H1 → SpL sp [.ref p, y] H1 zs) : EvL (tCall sp [] E (tCons ta (tCons tb tNil))) σ H zs := fun H1 e Q k =>
  ha H1 e _ fun p H2 hp e2 h2 => hb H2 (e.trans e2) _ fun H3 e3 => hs p H3 (e3 _ _ h2) ((e.trans e2).trans e3) H3 (Ex.refl H3) Q (fun l H4 hl e4 h4 => k l H4 (fresh_back (e2.trans e3) hl) ((e2.trans e3).trans e4) h4) E
/-- xs.reverse(), xs.clear() as statements -/
theorem q_reverse (hl : H p = some (.lst xs)) (ha : Ev ta σ H (.ref p)) (k : ∀ H1, Ex H H1 → tz D σ (upd H1 p (.lst xs.reverse))) : tSeq (tDrop (tBM0 K "list" rReverse ta)) tz D σ H := ha H (Ex.refl H) _ fun H1 e1 =>
  ⟨Or.inl ⟨rfl, xs, sq_of (e1 _ _ hl)⟩, p, xs, rfl, rfl, e1 _ _ hl, k H1 e1⟩
/-- min(a, b) -/
theorem ev_min2 {i j : Int} (ha : Ev ta σ H (.int i)) (hb : Ev tb σ H (.int j)) : Ev (tCB (fun xs H Q => ∃ i j, xs = [.int i, .int j] ∧ Q (.int (if j < i then j else i)) H) (tCons ta (tCons tb tNil))) σ H (.int (if j < i then j else i)) :=
  ev_cb (ea_cons ha (ea_cons hb ea_nil)) fun H1 _ _ k => ⟨i, j, rfl, k H1 (Ex.refl H1)⟩
/-- for x in (a, b, ..): a new tuple; the heap grows -/
theorem q_forU {tl : TE} {j : Nat} (h : EvU tl σ H xs) (k : ∀ p H1, H p = none → Ex H H1 → H1 p = some (.tup xs) → ∃ Pv : Nat → L2.St → Hp → Prop, Pv 0 σ H1 ∧ (∀ i σ' H', Pv i σ' H' → Ex H1 H') ∧
    (∀ i x σ' H', xs[i]? = some x → Pv i σ' H' → tu { D with nx := Pv (i + 1), ct := Pv (i + 1), bk := tz D } (σ'.set j (some x)) H') ∧ ∀ σ' H', Pv xs.length σ' H' → tz D σ' H') : tSeq (tFor (iTup K tl) (gName j) tu) tz D σ H :=
  h H (Ex.refl H) _ fun p H1 hp e h1 => by
    obtain ⟨Pv, h0, hl, hs, hd⟩ := k p H1 hp e h1
    exact ⟨p, rfl, ⟨xs, st_of h1⟩, for_tup Pv h0 (fun i σ' H' _ q => st_of (hl i σ' H' q p _ h1)) (fun i x σ' H' hx q => hs i x σ' H' hx q) hd⟩
theorem map_rep (n : Nat) (i : Int) : List.replicate n (V.int i) = (List.replicate n i).map V.int := by rw [List.map_replicate]
end
local macro_rules | `(tactic| walk_at "side") => `(tactic| first | assumption | omega | decide | exact mulC (by decide) (by decide) | exact mulX (by assumption) | exact ⟨by decide, by decide⟩ | exact ⟨by decide, by decide, by decide⟩)
local macro_rules | `(tactic| walk_at "heap") => `(tactic| first | assumption | exact sq_of (by assumption))
local macro_rules | `(tactic| walk_at "rv") => `(tactic| first | exact rv_I0 | (refine rv_I ?_; walk_at "side") | exact rv_eqI | exact rv_neI | exact rv_eqB | exact rv_eqS | exact rv_neS | ((refine' rv_ixI ?k1 ?k2); (case k1 => walk_at "heap"); (case k2 => omega)) | ((refine' rv_ixZ ?k1 ?k2 ?k3); (case k1 => walk_at "heap"); (case k2 => omega); (case k3 => omega)) | ((refine' rv_ixTZ ?k1 ?k2 ?k3); (case k1 => first | assumption | exact st_of (by assumption)); (case k2 => omega); (case k3 => omega)))
local macro_rules | `(tactic| walk_at "rc") => `(tactic| fail)
local macro_rules | `(tactic| walk_at "spv") => `(tactic| fail)
local macro_rules | `(tactic| walk_at "ev") => `(tactic| first
  | (with_reducible exact ev_c)
  | ((with_reducible refine' ev_var ?k1); (case k1 => rfl))
  | ((with_reducible refine' ev_op ?k1 ?k2 ?k3); (case k1 => walk_at "ev"); (case k2 => walk_at "ev"); (case k3 => walk_at "rv"))
  | ((with_reducible refine' ev_un ?k1 ?k2); (case k1 => walk_at "ev"); (case k2 => exact ru_neg))
  | ((with_reducible refine' ev_lenI ?k1 ?k2); (case k1 => walk_at "ev"); (case k2 => walk_at "heap"))
  | ((with_reducible refine' ev_lenL ?k1 ?k2); (case k1 => walk_at "ev"); (case k2 => walk_at "heap"))
  | ((with_reducible refine' ev_abs ?k1); (case k1 => walk_at "ev"))
  | ((with_reducible refine' ev_cb ?k1 ?k2); (case k1 => walk_at "ea"); (case k2 => walk_at "rc"))
  | ((with_reducible refine' ev_call ?k1 ?k2); (case k1 => walk_at "ea"); (case k2 => walk_at "spv"))
  | ((with_reducible refine' ev_andV ?k1 ?k2); (case k1 => walk_at "ev"); (case k2 => (intro _; walk_at "ev")))
  | ((with_reducible refine' ev_orV ?k1 ?k2); (case k1 => walk_at "ev"); (case k2 => (intro _; walk_at "ev")))
  | ((with_reducible refine' ev_notV ?k1); (case k1 => walk_at "ev"))
  | ((with_reducible refine' ev_chainI ?k1 ?k2 ?k3); (case k1 => walk_at "ev"); (case k2 => walk_at "ev"); (case k3 => (intro _; walk_at "ev"))))
local macro_rules | `(tactic| walk_at "ea") => `(tactic| first | (with_reducible exact ea_nil) | ((with_reducible refine' ea_cons ?k1 ?k2); (case k1 => walk_at "ev"); (case k2 => walk_at "ea")))
local macro_rules | `(tactic| walk_at "et") => `(tactic| first
  | ((with_reducible refine' et_B ?k1); (case k1 => walk_at "ev"))
  | ((with_reducible refine' et_test ?k1); (case k1 => walk_at "ev"))
  | ((with_reducible refine' et_and ?k1 ?k2); (case k1 => walk_at "et"); (case k2 => (intro _; walk_at "et")))
  | ((with_reducible refine' et_or ?k1 ?k2); (case k1 => walk_at "et"); (case k2 => (intro _; walk_at "et")))
  | ((with_reducible refine' et_not ?k1); (case k1 => walk_at "et")))
/-! ### sorted of a list of lists of whole numbers -/
def sortL (nss : List (List Int)) : List (List Int) := nss.mergeSort fun p q => decide (p ≤ q)
def rSortedR (K : PySem.W.Frag) : List V → Hp → VK → Prop := fun vs H Q => ∃ (a : Addr) (xs : List V) (nss : List (List Int)), vs = [V.ref a] ∧ SqL K H a xs ∧ Rows K H xs nss ∧ ∀ ys p, Rows K H ys (sortL nss) → H p = none → Q (.ref p) (upd H p (.lst ys))
section
variable {K : PySem.W.Frag} {H : Hp}
abbrev RowR (K : PySem.W.Frag) (H : Hp) (v : Value) (b : V × List Int) : Prop := RelV b.1 v ∧ ∃ a, b.1 = V.ref a ∧ SqL K H a (b.2.map V.int)
theorem rows_each : ∀ {xs : List V} {nss : List (List Int)} {its : List Value}, Rows K H xs nss → Vals xs its → PySem.W.EachIs (RowR K H) its (xs.zip nss)
  | _, _, _, .nil, .nil => .nil
  | _, _, _, .cons r t, .cons q u => .cons ⟨q, r⟩ (rows_each t u)
theorem each_vals : ∀ {out : List Value} {bs : List (V × List Int)}, PySem.W.EachIs (RowR K H) out bs → Vals (bs.map Prod.fst) out ∧ Rows K H (bs.map Prod.fst) (bs.map Prod.snd)
  | _, _, .nil => ⟨.nil, .nil⟩
  | _, _, .cons r t => ⟨.cons r.1 (each_vals t).1, .cons r.2 (each_vals t).2⟩
theorem zip_snd : ∀ {xs : List V} {nss : List (List Int)}, xs.length = nss.length → (xs.zip nss).map Prod.snd = nss
  | [], [], _ => rfl
  | x :: xs, n :: nss, h => by
    rw [List.zip_cons_cons, List.map_cons, zip_snd (by simpa using h)]
  | [], _ :: _, h => by simp at h
  | _ :: _, [], h => by simp at h
end
section
variable {X : Cx}
theorem call_sortedR (hu : X.A.units + 64 < cLine) : CallR X (.builtin "sorted") (rSortedR X.K) := by
  intro pins s σ H vs us Q I r h
  obtain ⟨a, xs, nss, rfl, hs, hr, q⟩ := h
  obtain ⟨its, rv, hl, hz⟩ := I.list hs
  rw [Vals.ref1 r]
  have e := rows_each hr rv
  have hlen : (xs.zip nss).length = xs.length := by
    rw [List.length_zip, hr.len, Nat.min_self]
  have er : PySem.W.EachIs (fun v (b : V × List Int) => ∃ as, Reads s.heap v (dI b.2) as) its (xs.zip nss) := by
    have go : ∀ {its : List Value} {bs : List (V × List Int)}, PySem.W.EachIs (RowR X.K H) its bs → PySem.W.EachIs (fun v (b : V × List Int) => ∃ as, Reads s.heap v (dI b.2) as) its bs := by
      intro its bs h
      induction h with
      | nil => exact .nil
      | cons r _ ih =>
        obtain ⟨r1, a, e1, h1⟩ := r
        exact .cons (Dp.reads I _ _ _ (e1 ▸ dp_ints h1) r1) ih
    exact go e
  refine PySem.W.sorted_data (enc := fun b : V × List Int => dI b.2) hl.isList e er (PySem.W.AllAlike.of fun b b' => ?_) (PySem.W.Sortable.others fun b => ⟨(fun z => nomatch z), fun xs z => (nomatch z)⟩) (by rw [hlen]; exact hz) (fun b _ => by rw [depth_dI]; omega) fun out ho he => ?_
  · show PySem.W.alike (.list _) (.list _) = true
    rw [PySem.W.alike]
    exact PySem.W.alike_ints _ _
  · obtain ⟨v1, v2⟩ := each_vals he
    have es : ((xs.zip nss).mergeSort (PySem.W.dataLe false fun b : V × List Int => dI b.2)).map Prod.snd = sortL nss := by
      rw [PySem.W.dataLe_rows (fun b : V × List Int => b.2), PySem.W.sort_maps (s := fun p q : List Int => decide (p ≤ q)) Prod.snd (fun a _ b _ => rfl), zip_snd hr.len]
      rfl
    rw [es] at v2
    obtain ⟨ep, he'⟩ := PyProof.Rows.sortedAll_at s.heap its out.toArray
    have hlo : (((xs.zip nss).mergeSort (PySem.W.dataLe false fun b : V × List Int => dI b.2)).map Prod.fst).length ≤ sizeLine := by
      rw [List.length_map, List.length_mergeSort, hlen]
      exact hz
    exact ⟨.ref _, upd H (s.heap.objs.size + 1) (.lst (((xs.zip nss).mergeSort (PySem.W.dataLe false fun b : V × List Int => dI b.2)).map Prod.fst)), I.laid (t' := s.toks) (fun _ _ => PyProof.Rows.sortedAll_old) (Nat.le_succ _) ⟨hlo, out, ep, v1, he'⟩, rfl, q _ _ v2 (I.hok.fresh (Nat.le_succ _))⟩
theorem call_sortedK {K : PySem.W.Frag} (e : X.K = K) (hu : X.A.units + 64 < cLine) : CallR X (.builtin "sorted") (rSortedR K) := e ▸ call_sortedR hu
end
/-! ### a new list of new lists -/
section
variable {K : PySem.W.Frag} {σ : L2.St} {H H' : Hp} {ta tb tc te tx : TE} {t u : TT} {x y z v : V} {r r' : R2} {D : Ends} {tu tw tz : TS} {g : TG} {p q : Addr} {ns ms : List Int} {xs ys : List V} {nss mss : List (List Int)}
def EvR (K : PySem.W.Frag) (te : TE) (σ : L2.St) (H : Hp) (nss : List (List Int)) : Prop := ∀ H1, Ex H H1 → ∀ Q : VK, (∀ p H2 ys, H1 p = none → Ex H1 H2 → H2 p = some (.lst ys) → Rows K H2 ys nss → Q (.ref p) H2) → te σ H1 Q
def RetR (K : PySem.W.Frag) (nss : List (List Int)) (H : Hp) (Q : VK) : Prop := ∀ p H2 ys, H p = none → Ex H H2 → H2 p = some (.lst ys) → Rows K H2 ys nss → Q (.ref p) H2
theorem RetR.mono {Q : VK} (k : RetR K nss H Q) (e : Ex H H') : RetR K nss H' Q := fun p H2 ys hp e1 h hr => k p H2 ys (fresh_back e hp) (e.trans e1) h hr
def SpR (K : PySem.W.Frag) (sp : Sp) (vs : List V) (H : Hp) (nss : List (List Int)) : Prop := ∀ H1, Ex H H1 → ∀ Q : VK, RetR K nss H1 Q → ∀ E : XK, sp vs H1 Q E
theorem er_call {sp : Sp} {dvs vs : List V} {E : XK} {ta : TA} (h : EvA ta σ H vs) (hs : SpR K sp (vs ++ dvs) H nss) : EvR K (tCall sp dvs E ta) σ H nss := fun H1 e Q q =>
  h H1 e _ fun H2 e2 => hs H2 (e.trans e2) Q (fun p H3 ys hp e3 h3 hr => q p H3 ys (fresh_back e2 hp) (e2.trans e3) h3 hr) E
theorem sq_upd {a l : Addr} {o : HO} (h : SqL K H a xs) (n : a ≠ l) : SqL K (upd H l o) a xs := by
  rcases h with (h | ⟨u, h⟩) | h
  · exact .inl (.inl (by rw [upd_ne n]; exact h))
  · exact .inl (.inr ⟨u, by rw [upd_ne n]; exact h⟩)
  · exact .inr h
theorem er_sorted (ha : Ev ta σ H (.ref p)) (h1 : SqL K H p xs) (hr : Rows K H xs nss) : EvR K (tCB (rSortedR K) (tCons ta tNil)) σ H (sortL nss) := fun H1 e Q q =>
  ha H1 e _ fun H2 e2 => ⟨p, xs, nss, rfl, ex_l (e.trans e2) h1, hr.mono (e.trans e2), fun ys l hy hl => q l _ ys (fresh_back e2 hl) (e2.trans (Ex.new hl)) upd_same (hy.mono (Ex.new hl))⟩
theorem s_retR (h : EvR K te σ H nss) (k : RetR K nss H D.rt) : tRet te D σ H := h H (Ex.refl H) _ k
theorem q_asgR {i : Nat} (h : EvR K te σ H nss) (k : ∀ p H1 ys, H p = none → Ex H H1 → H1 p = some (.lst ys) → Rows K H1 ys nss → tz D (σ.set i (some (.ref p))) H1) : tSeq (tAsg te (gName i)) tz D σ H := h H (Ex.refl H) _ k
theorem ev_lenR (h : EvR K te σ H nss) : Ev (tCB (fun xs H Q => ∃ p ys, xs = [.ref p] ∧ (SqL K H p ys ∨ SqT K H p ys) ∧ Q (.int ys.length) H) (tCons te tNil)) σ H (.int (nss.length : Int)) := fun H1 e Q q =>
  h H1 e _ fun p H2 ys hp e2 h2 hr => ⟨p, ys, rfl, .inl (sq_of h2), by rw [hr.len]; exact q H2 e2⟩
theorem ev_opSR (ha : Ev ta σ H x) (hb : EvR K tb σ H nss) (hr : ∀ q H1 ys, H1 q = some (.lst ys) → Rows K H1 ys nss → Ex H H1 → RV r x (.ref q) H1 z) : Ev (tOp r ta tb) σ H z := fun H1 e Q k =>
  ha H1 e _ fun H2 e2 => hb H2 (e.trans e2) _ fun q H3 ys hq e3 h3 h4 => hr q H3 ys h3 h4 ((e.trans e2).trans e3) H3 (Ex.refl H3) Q fun H4 e4 => k H4 ((e2.trans e3).trans e4)
/-- rows that stand apart from the list at l -/
def RowsA (l : Addr) (H : Hp) (xs : List V) (nss : List (List Int)) : Prop := Paired (fun v ns => ∃ a, v = V.ref a ∧ a ≠ l ∧ H a = some (.lst (ns.map V.int))) xs nss
theorem RowsA.rows {l : Addr} (h : RowsA l H xs nss) : Rows K H xs nss := Paired.mapP h fun _ _ ⟨a, e, _, h1⟩ => ⟨a, e, sq_of h1⟩
theorem RowsA.mono {l : Addr} (e : Ex H H') (h : RowsA l H xs nss) : RowsA l H' xs nss := Paired.mapP h fun _ _ ⟨a, e1, n, h1⟩ => ⟨a, e1, n, e _ _ h1⟩
theorem RowsA.upd {l : Addr} {o : HO} (h : RowsA l H xs nss) : RowsA l (upd H l o) xs nss := Paired.mapP h fun _ _ ⟨a, e1, n, h1⟩ => ⟨a, e1, n, by rw [upd_ne n]; exact h1⟩
theorem RowsA.snoc {l : Addr} (h : RowsA l H xs nss) (n : p ≠ l) (h1 : H p = some (.lst (ns.map V.int))) : RowsA l H (xs ++ [.ref p]) (nss ++ [ns]) := by
  induction h with
  | nil => exact .cons ⟨p, rfl, n, h1⟩ .nil
  | cons r _ ih => exact .cons r ih
theorem RowsA.len {l : Addr} (h : RowsA l H xs nss) : xs.length = nss.length := Paired.length h
/-- all but the list at l stands as it stood -/
def But (l : Addr) (H H1 : Hp) : Prop := ∀ a o, a ≠ l → H a = some o → H1 a = some o
theorem But.ex {l : Addr} {H0 H1 : Hp} (b : But l H H1) (e : Ex H0 H) (h : H0 l = none) : Ex H0 H1 := fun a o ha => b a o (ne_of_none ha h) (e a o ha)
theorem But.of {l : Addr} {H1 : Hp} (e : Ex H H1) : But l H H1 := fun a o _ h => e a o h
theorem But.upd {l : Addr} {H1 : Hp} {o : HO} (e : Ex H H1) : But l H (L2.upd H1 l o) := fun a u n h => by
  rw [upd_ne n]
  exact e a u h
theorem But.trans {l : Addr} {H1 H2 : Hp} (a : But l H H1) (b : But l H1 H2) : But l H H2 := fun c o n h => b c o n (a c o n h)
theorem But.rows {l : Addr} {H1 : Hp} (b : But l H H1) (h : RowsA l H xs nss) : RowsA l H1 xs nss := Paired.mapP h fun _ _ ⟨a, e1, n, h1⟩ => ⟨a, e1, n, b a _ n h1⟩
/-- if c: l.append(a new list of whole numbers) -/
theorem s_ifApp {l : Addr} {c : Prop} [Decidable c] (hl : H l = some (.lst xs)) (hr : RowsA l H xs nss) (hz : xs.length < 100000) (ht : EvT t σ H (decide c)) (ha : Ev ta σ H (.ref l)) (he : c → EvL te σ H (ns.map V.int))
    (k : ∀ xs1 H1, But l H H1 → H1 l = some (.lst xs1) → RowsA l H1 xs1 (nss ++ if c then [ns] else []) → D.nx σ H1) : tIfS t (tDrop (tBM K "list" rAppend ta (tCons te tNil))) tNext D σ H :=
  s_when ht (fun hb H1 e1 => by
    have hc := of_decide_eq_true hb
    refine s_appL (l := l) (e1 _ _ hl) (fun H2 e2 Q q => ha H2 (e1.trans e2) Q q) (fun H2 e2 Q q => he hc H2 (e1.trans e2) Q q) hz fun p H2 hp e2 h2 => k _ _ (But.upd (e1.trans e2)) upd_same ?_
    rw [if_pos hc]
    have np : p ≠ l := fun z => by
      rw [z, e1 _ _ hl] at hp
      cases hp
    exact (hr.mono (e1.trans e2)).upd.snoc np (by rw [upd_ne np]; exact h2)) (fun hb H1 e1 => k xs H1 (But.of e1) (e1 _ _ hl) (by
    rw [if_neg (of_decide_eq_false hb), List.append_nil]
    exact hr.mono e1))
theorem q_ifApp {l : Addr} {c : Prop} [Decidable c] (hl : H l = some (.lst xs)) (hr : RowsA l H xs nss) (hz : xs.length < 100000) (ht : EvT t σ H (decide c)) (ha : Ev ta σ H (.ref l)) (he : c → EvL te σ H (ns.map V.int))
    (k : ∀ xs1 H1, But l H H1 → H1 l = some (.lst xs1) → RowsA l H1 xs1 (nss ++ if c then [ns] else []) → tz D σ H1) : tSeq (tIfS t (tDrop (tBM K "list" rAppend ta (tCons te tNil))) tNext) tz D σ H := s_ifApp (D := { D with nx := tz D }) hl hr hz ht ha he k
/-- for x in (a, b, ..): a new tuple, which stays -/
theorem s_forU {tl : TE} {j : Nat} (h : EvU tl σ H xs) (k : ∀ p H1, H p = none → Ex H H1 → H1 p = some (.tup xs) → ∃ Pv : Nat → L2.St → Hp → Prop, Pv 0 σ H1 ∧ (∀ i σ' H', Pv i σ' H' → H' p = some (.tup xs)) ∧
    (∀ i x σ' H', xs[i]? = some x → Pv i σ' H' → tu { D with nx := Pv (i + 1), ct := Pv (i + 1), bk := D.nx } (σ'.set j (some x)) H') ∧ ∀ σ' H', Pv xs.length σ' H' → D.nx σ' H') : tFor (iTup K tl) (gName j) tu D σ H :=
  h H (Ex.refl H) _ fun p H1 hp e h1 => by
    obtain ⟨Pv, h0, hl, hs, hd⟩ := k p H1 hp e h1
    exact ⟨p, rfl, ⟨xs, st_of h1⟩, for_tup Pv h0 (fun i σ' H' _ q => st_of (hl i σ' H' q)) (fun i x σ' H' hx q => hs i x σ' H' hx q) hd⟩
/-- a comprehension over a new list of rows -/
theorem el_lcRows {tl : TE} {j : Nat} {vs : List Nat} (hl : ys.length = nss.length) (h : EvR K tl σ H nss) (hz : nss.length ≤ 40000) (hw : ∀ x, wipe ((wipe σ vs).set j (some x)) vs = wipe σ vs)
    (he : ∀ (i : Nat) (a : Addr) (ns : List Int) (y : V) H1, Ex H H1 → nss[i]? = some ns → ys[i]? = some y → SqL K H1 a (ns.map V.int) → Ev te ((wipe σ vs).set j (some (.ref a))) H1 y) :
    EvL (tLc (iList K tl) (gName j) tYes te vs) σ H ys := fun H0 e Q q => h H0 e _ fun a H1 xs ha e1 hx hr => ⟨a, rfl, ⟨xs, sq_of hx⟩, fun Dl hD => by
  have hxl := hr.len
  refine lc_list (xs := xs) (fun i H' => Ex H1 H' ∧ H' Dl = some (.lst (ys.take i))) ⟨Ex.new hD, upd_same⟩ (fun i H' _ p => sq_of (p.1 a _ hx)) (fun i x H' hi p => ⟨hw x, ?_⟩) (fun H' p => q Dl H' (fresh_back e1 hD) (e1.trans p.1) (by rw [p.2, List.take_of_length_le (by omega)]))
  have hi' : i < ys.length := by
    have := (List.getElem?_eq_some_iff.mp hi).1
    omega
  have hy : ys[i]? = some ys[i] := List.getElem?_eq_getElem hi'
  obtain ⟨b, ns, rfl, hn, hb⟩ := hr.get hi
  unfold tYes
  dsimp only
  rw [if_pos rfl]
  refine he i b ns _ H' ((e.trans e1).trans p.1) hn hy (ex_l p.1 hb) H' (Ex.refl H') _ fun H4 e4 => ⟨ys.take i, e4 _ _ p.2, sz_lt (by rw [List.length_take]; omega), Ex.mut (p.1.trans e4) hD, ?_⟩
  rw [upd_same, List.take_succ, hy]
  rfl⟩
theorem inV_ints (x : Int) (ns : List Int) : inV (.int x) (ns.map V.int) = decide (x ∈ ns) := by
  unfold inV
  induction ns with
  | nil => rfl
  | cons n ns ih =>
    rw [List.map_cons, List.any_cons, ih]
    show ((n == x) || decide (x ∈ ns)) = decide (x ∈ n :: ns)
    by_cases h : n = x
    · subst h
      simp
    · have h2 : x ≠ n := fun e => h e.symm
      simp [h, h2]
theorem flat_ints (ns : List Int) : (ns.map V.int).all flatV = true := by
  rw [List.all_map]
  exact List.all_eq_true.mpr fun _ _ => rfl
theorem rv_niI {x : Int} (h : SqL K H p (ns.map V.int)) : RV (rIn K true) (.int x) (.ref p) H (.bl (!decide (x ∈ ns))) := by
  rw [← inV_ints]
  exact rv_niL h rfl (flat_ints ns)
/-- a, b = two new lists -/
theorem q_asg2L {i j : Nat} (h1 : EvL ta σ H xs) (h2 : EvL tb σ H ys) (k : ∀ p q H1, H p = none → H q = none → Ex H H1 → H1 p = some (.lst xs) → H1 q = some (.lst ys) → tz D ((σ.set i (some (.ref p))).set j (some (.ref q))) H1) :
    tSeq (tAsg (tTup (tCons ta (tCons tb tNil))) (gTup K 2 (gCons (gName i) (gCons (gName j) gNil)))) tz D σ H :=
  h1 H (Ex.refl H) _ fun p H1 hp e1 g1 => h2 H1 e1 _ fun q H2 hq e2 g2 => ⟨by show 2 ≤ sizeLine; decide, fun l hl =>
    ⟨l, _, rfl, .inl (.inl upd_same), rfl, _, _, rfl, _, [], rfl, rfl, k p q _ hp (fresh_back e1 hq) ((e1.trans e2).trans (Ex.new hl)) (Ex.new hl _ _ (e2 _ _ g1)) (Ex.new hl _ _ g2)⟩⟩
/-- a new list of three new lists -/
theorem q_asg3L {i : Nat} {zs : List V} (h1 : EvL ta σ H xs) (h2 : EvL tb σ H ys) (h3 : EvL tc σ H zs) (k : ∀ l p q r H1, H l = none → H p = none → H q = none → H r = none → Ex H H1 → H1 l = some (.lst [.ref p, .ref q, .ref r]) → H1 p = some (.lst xs) → H1 q = some (.lst ys) → H1 r = some (.lst zs) →
    tz D (σ.set i (some (.ref l))) H1) : tSeq (tAsg (tLst (tCons ta (tCons tb (tCons tc tNil)))) (gName i)) tz D σ H :=
  h1 H (Ex.refl H) _ fun p H1 hp e1 g1 => h2 H1 e1 _ fun q H2 hq e2 g2 => h3 H2 (e1.trans e2) _ fun r H3 hr e3 g3 => ⟨by show 3 ≤ sizeLine; decide, fun l hl =>
    k l p q r _ (fresh_back ((e1.trans e2).trans e3) hl) hp (fresh_back e1 hq) (fresh_back (e1.trans e2) hr) (((e1.trans e2).trans e3).trans (Ex.new hl)) upd_same (Ex.new hl _ _ (e3 _ _ (e2 _ _ g1))) (Ex.new hl _ _ (e3 _ _ g2)) (Ex.new hl _ _ g3)⟩
end
/-! ### own classes: made, asked -/
structure ClsF (K : PySem.W.Frag) (mg : Str → Option Value) (x : Str) (c : Addr) : Prop where
  g : mg x = some (.ref c)
  cl : Cls K c
  mks : PySem.W.makesIn K c = true
  kc : PySem.W.keepIn K (.ref c) = true
/-- a method of the class at c -/
structure Mt (K : PySem.W.Frag) (c : Addr) (m qual : Str) (ps : List Str) (st : Stmt) : Prop where
  ex : ∃ f fd, Fun K m qual st f fd ∧ Meth K c m f ∧ Binds K fd ps []
structure MCl (P : Program) (w : World) (K : PySem.W.Frag) (mg : Str → Option Value) (base : Heap) (CX : CXT) (k : Nat) (c : Addr) (m : Str) (ps : List Str) (sp : Sp) : Prop where
  ex : ∃ f fd, FnOk P w K mg base CX k f fd ps sp ∧ Meth K c m f ∧ Binds K fd ps []
section
variable {P : Program} {w : World} {K : PySem.W.Frag} {mg : Str → Option Value} {base : Heap}
theorem cm0 {c : Addr} {m qual : Str} {st : Stmt} {N ps : List Str} {k : Nat} {sp : Sp} (D : Mt K c m qual ps st) (S : FnScope N ps (defScope st)) (len : ∀ vs H Q E, sp vs H Q E → vs.length = ps.length)
    (hbody : ∀ (f : Addr) (cdv : Value) (A : Around) (outer : List Env) (s : Shared) (H : Hp) (vs : List V) (Q : VK) (E : XK), Room k (A.deeper (envOfC qual (defScope st) s.heap.objs.size f cdv)) → sp vs H Q E →
      ∃ t, PSs (cxOf CX0 P w K mg base N qual (defScope st) f cdv A outer s H E).nox (defBody st) t ∧ t { nx := fun _ H' => Q .non H', rt := Q } (start N vs) H) : MCl P w K mg base CX0 (k + 1) c m ps sp := by
  obtain ⟨f, fd, F, me, b⟩ := D.ex
  exact ⟨f, fd, F.ok S len (hbody f), me, b⟩
end
section
variable {X : Cx} {CX : CXT} {k : Nat} {c : Addr} {ps : List Str} {sp : Sp} {E : XK} {x m : Str} {p pos apos : PySem.Pos} {e o : Expr} {es : List Expr} {t : TA} {ta : TE}
theorem pe_mcl {pl : Sem Bool} (M : MCl X.prog X.w X.K X.mg X.base CX k c m ps sp) (cl : Cls X.K c) (hr : Room k X.A) (hx : Passes CX X E) (ho : PE X o ta) (ha : PA X (e :: es) t)
    (hst : starEach (e :: es) X.env = (false, eval e X.env) :: starEach es X.env := by rfl) (hpl : (backTo pos (starEach es X.env)).any (·.1) = false := by rfl)
    (ht : eval (.Call (.Attribute o m apos) (e :: es) [] pos) X.env = (do
      let ov ← eval o X.env
      standAt apos.atName
      let (f, first) ← holding [ov] (getMethod ov m pl)
      callWith pos f first (backTo pos (starEach (e :: es) X.env)) (backToKw pos (keywordEach [] X.env))) := by rfl) :
    PE X (.Call (.Attribute o m apos) (e :: es) [] pos) (tMeth c m sp [] E ta t) := by
  obtain ⟨f, fd, F, me, b⟩ := M.ex
  exact pe_meth ho cl me F hr b .nil hx ha hst hpl ht
/-- C(e, ..), the __init__ its own -/
theorem pe_mki (C : ClsF X.K X.mg x c) (M : MCl X.prog X.w X.K X.mg X.base CX k c "__init__" ps sp) (hr : Room (k + 1) X.A) (hg : Gl X x) (hx : Passes CX X E) (ha : PA X (e :: es) t)
    (hdb : (x == ("__debug__" : Str)) = false := by decide) (he : starEach (e :: es) X.env = (false, eval e X.env) :: starEach es X.env := by rfl) (hpl : (backTo pos (starEach es X.env)).any (·.1) = false := by rfl) :
    PE X (.Call (.Name x p) (e :: es) [] pos) (tMake c sp [] E t) := by
  obtain ⟨f, fd, F, me, b⟩ := M.ex
  exact pe_make ⟨C.mks, me.at_, me.fn, C.kc⟩ F hr hg C.g b .nil hx ha hdb he hpl
def tMakeO (c : Addr) : TE := fun _ H Q => ∀ x dx, H x = none → H dx = none → dx ≠ x → Q (.ref x) (upd (upd H dx (.own x)) x (.ins c dx []))
/-- C() where there is no __init__ but object's -/
theorem pe_mko (C : ClsF X.K X.mg x c) (hi : PySem.W.findIn X.K (.ref c) "__init__" = some (some (.builtin "object.__init__"))) (hg : Gl X x) (hdb : (x == ("__debug__" : Str)) = false := by decide) : PE X (.Call (.Name x p) [] [] pos) (tMakeO c) := by
  refine ⟨fun pins s σ H Q I h => ?_⟩
  refine wpAny_Call_Name_kw (ld_glob I hg C.g ?_ hdb)
  refine PySem.W.callWith_K0 I.kIn C.kc ?_
  have hq := h (s.heap.objs.size + 1) s.heap.objs.size (I.hok.fresh (Nat.le_succ _)) (I.hok.fresh (Nat.le_refl _)) (Nat.ne_of_lt (Nat.lt_succ_self _))
  have I2 := Inv.made (C := c) I
  have Y := PySem.W.makes_of (M := model X.prog X.w) I.kIn C.mks
  refine wpAny_call (make_map0 I.kIn C.mks hi (fun self => PySem.W.Looks.of_pure (PySem.W.oi_bind self)) ?_)
  have hn : ((s.heap.push PySem.W.emptyDict).push (PySem.W.instObj c s.heap.objs.size)).get? (s.heap.objs.size + 1) = some (PySem.W.instObj c s.heap.objs.size) := by
    have z := Heap.get?_push_size (s.heap.push PySem.W.emptyDict) (o := PySem.W.instObj c s.heap.objs.size) rfl
    rw [Heap.size_push] at z
    exact z
  have t1 : PySem.W.Looks (model X.prog X.w) ((s.heap.push PySem.W.emptyDict).push (PySem.W.instObj c s.heap.objs.size)) (typeOf (.ref (s.heap.objs.size + 1))) (.ref c) := (PySem.W.Looks.ld hn).andThen .now
  have t2 : PySem.W.Looks (model X.prog X.w) ((s.heap.push PySem.W.emptyDict).push (PySem.W.instObj c s.heap.objs.size)) (isInstance (.ref (s.heap.objs.size + 1)) (.type "object")) true := t1.andThen (Y.top.keeps fun b o e => Heap.get?_push_of_some _ (Heap.get?_push_of_some _ e))
  refine codeAny_call_builtin PySem.W.oi_plain PySem.W.entry_oi (@PySem.W.check_slot (model X.prog X.w) _ _ _ "object.__init__" "object" "__init__" (.ref (s.heap.objs.size + 1)) [] [] _ PySem.W.oi_kind PySem.W.oi_split t2 (PySem.W.oi_args (.ref (s.heap.objs.size + 1))) ?_)
  rw [PySem.W.oi_run]
  exact wpAny_pure (And.intro rfl ⟨.ref (s.heap.objs.size + 1), _, I2, rfl, hq⟩)
end
section
variable {K : PySem.W.Frag} {σ : L2.St} {H H' : Hp} {ta tb tc te tx : TE} {t u : TT} {x y z v : V} {r r' : R2} {D : Ends} {tu tw tz : TS} {g : TG} {p q : Addr} {ns ms : List Int} {xs ys : List V}
/-- [e for i, x in enumerate(xs) if t] -/
theorem el_lcEnum {a : Addr} {ta : TA} {i j : Nat} {vs : List Nat} (f : Nat → Bool) (w : Nat → V) (h : EvA ta σ H [.ref a]) (hx : SqL K H a xs) (hz : xs.length ≤ 40000) (hw : ∀ x y, wipe (((wipe σ vs).set i (some x)).set j (some y)) vs = wipe σ vs)
    (ht : ∀ (n : Nat) (x : V) H1, Ex H H1 → xs[n]? = some x → EvT t (((wipe σ vs).set i (some (.int (n : Int)))).set j (some x)) H1 (f n)) (he : ∀ (n : Nat) (x : V) H1, Ex H H1 → xs[n]? = some x → f n = true → Ev te (((wipe σ vs).set i (some (.int (n : Int)))).set j (some x)) H1 (w n)) :
    EvL (tLc (iEnum K ta) (gTup K 2 (gCons (gName i) (gCons (gName j) gNil))) t te vs) σ H (given xs.length f w) := fun H0 e Q q => h H0 e _ fun H1 e1 => ⟨a, xs, rfl, ex_l (e.trans e1) hx, fun Dl hD => by
  refine ⟨fun n m H' => n + m = xs.length ∧ Cw H1 f w Dl n H', ⟨xs.length, by omega, hD, Ex.new hD, upd_same⟩, fun n m H' hW => ?_⟩
  obtain ⟨em, hp⟩ := hW
  have hS := ex_l ((e.trans e1).trans hp.2.1) hx
  by_cases hn : n < xs.length
  · have hxi : xs[n]? = some xs[n] := List.getElem?_eq_getElem hn
    refine .inr ⟨⟨xs, xs[n], hS, hxi⟩, fun H2 => Cw H1 f w Dl (n + 1) H2, fun H2 p => ⟨m - 1, by omega, by omega, p⟩, fun v H2 hy => ?_⟩
    obtain ⟨T, x, rfl, nT, rfl, fx⟩ := hy
    have ex : x = xs[n] := Option.some.inj ((fx _ hS).symm.trans hxi)
    subst ex
    have eT : Ex H' (upd H' T (.tup [.int (n : Nat), xs[n]])) := Ex.new nT
    refine ⟨T, [.int (n : Nat), xs[n]], rfl, .inl (.inl upd_same), rfl, _, _, rfl, _, [], rfl, rfl, ?_⟩
    exact ⟨hw _ _, cw_turn ⟨hp.1, hp.2.1.trans eT, eT _ _ hp.2.2⟩ (by omega) (ht n _ H1 (e.trans e1) hxi) (he n _ H1 (e.trans e1) hxi)⟩
  · have en : n = xs.length := by omega
    subst en
    exact .inl ⟨⟨xs, hS, Nat.le_refl _⟩, q Dl H' (fresh_back e1 hp.1) (e1.trans hp.2.1) hp.2.2⟩⟩
/-- [e for x, y in zip(xs, ys) if t], the two of one length -/
theorem el_lcZip {a b : Addr} {ta : TA} {i j : Nat} {vs : List Nat} (f : Nat → Bool) (w : Nat → V) (h : EvA ta σ H [.ref a, .ref b]) (hx : SqL K H a xs) (hy : SqL K H b ys) (hl : xs.length = ys.length) (hz : xs.length ≤ 40000) (hw : ∀ x y, wipe (((wipe σ vs).set i (some x)).set j (some y)) vs = wipe σ vs)
    (ht : ∀ (n : Nat) (x y : V) H1, Ex H H1 → xs[n]? = some x → ys[n]? = some y → EvT t (((wipe σ vs).set i (some x)).set j (some y)) H1 (f n)) (he : ∀ (n : Nat) (x y : V) H1, Ex H H1 → xs[n]? = some x → ys[n]? = some y → f n = true → Ev te (((wipe σ vs).set i (some x)).set j (some y)) H1 (w n)) :
    EvL (tLc (iZip K ta) (gTup K 2 (gCons (gName i) (gCons (gName j) gNil))) t te vs) σ H (given xs.length f w) := fun H0 e Q q => h H0 e _ fun H1 e1 => ⟨a, b, xs, ys, rfl, ex_l (e.trans e1) hx, ex_l (e.trans e1) hy, fun Dl hD => by
  refine ⟨fun n m H' => n + m = xs.length ∧ Cw H1 f w Dl n H', ⟨xs.length, by omega, hD, Ex.new hD, upd_same⟩, fun n m H' hW => ?_⟩
  obtain ⟨em, hp⟩ := hW
  have hS := ex_l ((e.trans e1).trans hp.2.1) hx
  have hT := ex_l ((e.trans e1).trans hp.2.1) hy
  by_cases hn : n < xs.length
  · have hxi : xs[n]? = some xs[n] := List.getElem?_eq_getElem hn
    have hn2 : n < ys.length := by omega
    have hyi : ys[n]? = some ys[n] := List.getElem?_eq_getElem hn2
    refine .inr ⟨⟨xs, ys, xs[n], ys[n], hS, hT, hxi, hyi⟩, fun H2 => Cw H1 f w Dl (n + 1) H2, fun H2 p => ⟨m - 1, by omega, by omega, p⟩, fun v H2 hv => ?_⟩
    obtain ⟨T, x, y, rfl, nT, rfl, fx, fy⟩ := hv
    have ex : x = xs[n] := Option.some.inj ((fx _ hS).symm.trans hxi)
    have ey : y = ys[n] := Option.some.inj ((fy _ hT).symm.trans hyi)
    subst ex
    subst ey
    have eT : Ex H' (upd H' T (.tup [xs[n], ys[n]])) := Ex.new nT
    refine ⟨T, [xs[n], ys[n]], rfl, .inl (.inl upd_same), rfl, _, _, rfl, _, [], rfl, rfl, ?_⟩
    exact ⟨hw _ _, cw_turn ⟨hp.1, hp.2.1.trans eT, eT _ _ hp.2.2⟩ (by omega) (ht n _ _ H1 (e.trans e1) hxi hyi) (he n _ _ H1 (e.trans e1) hxi hyi)⟩
  · have en : n = xs.length := by omega
    subst en
    exact .inl ⟨⟨xs, ys, hS, hT, .inl (Nat.le_refl _)⟩, q Dl H' (fresh_back e1 hp.1) (e1.trans hp.2.1) hp.2.2⟩⟩
theorem et_yes : EvT tYes σ H true := fun H1 _ _ q => q H1 (Ex.refl H1)
theorem given_all (n : Nat) (w : Nat → V) : given n (fun _ => true) w = (List.range n).map w := by
  unfold given
  rw [List.filter_eq_self.mpr (fun _ _ => rfl)]
/-- int(a truth) -/
theorem ev_intB {b : Bool} (h : Ev te σ H (.bl b)) : Ev (tCB (fun xs H Q => (∃ i, xs = [.int i] ∧ Q (.int i) H) ∨ ∃ k, xs = [.bl k] ∧ Q (.int (if k then 1 else 0)) H) (tCons te tNil)) σ H (.int (if b then 1 else 0)) :=
  ev_cb (ea_cons h ea_nil) fun H1 _ _ q => .inr ⟨b, rfl, q H1 (Ex.refl H1)⟩
/-- o.f -/
theorem ev_fld {C dx : Addr} {fs : List (Str × V)} {f : Str} (h : Ev ta σ H (.ref p)) (ho : H p = some (.ins C dx fs)) (hc : Cls K C) (hn : NoAttr K C f) (hl : fs.lookup f = some v) : Ev (tFld K ta f) σ H v := fun H1 e Q q =>
  h H1 e _ fun H2 e2 => ⟨p, C, dx, fs, v, rfl, (e.trans e2) _ _ ho, hc, hn, hl, q H2 e2⟩
/-- o.m(..) -/
theorem ev_meth {C dx : Addr} {fs : List (Str × V)} {m : Str} {sp : Sp} {E : XK} {ta' : TA} {vs : List V} (h : Ev ta σ H (.ref p)) (ho : H p = some (.ins C dx fs)) (hl : fs.lookup m = none) (ha : EvA ta' σ H vs) (hs : SpV sp (.ref p :: (vs ++ [])) H z) : Ev (tMeth C m sp [] E ta ta') σ H z := fun H1 e Q q =>
  h H1 e _ fun H2 e2 => ⟨p, dx, fs, rfl, (e.trans e2) _ _ ho, hl, ha H2 (e.trans e2) _ fun H3 e3 => hs H3 ((e.trans e2).trans e3) Q (fun H4 e4 => q H4 ((e2.trans e3).trans e4)) E⟩
/-- a new instance without fields: C().m(..) -/
theorem ev_methO {C : Addr} {m : Str} {sp : Sp} {E : XK} {ta' : TA} {vs : List V} (ha : EvA ta' σ H vs) (hs : ∀ p dx H1, Ex H H1 → H1 p = some (.ins C dx []) → SpV sp (.ref p :: (vs ++ [])) H1 z) : Ev (tMeth C m sp [] E (tMakeO C) ta') σ H z := fun H1 e Q q =>
  fun x dx nx nd ne => by
    have e2 : Ex H1 (upd (upd H1 dx (.own x)) x (.ins C dx [])) := fun b o hb => by
      rw [upd_ne (ne_of_none hb nx), upd_ne (ne_of_none hb nd)]
      exact hb
    refine ⟨x, dx, [], rfl, upd_same, rfl, ha _ (e.trans e2) _ fun H3 e3 => hs x dx H3 ((e.trans e2).trans e3) (e3 _ _ upd_same) H3 (Ex.refl _) Q (fun H4 e4 => q H4 ((e2.trans e3).trans e4)) E⟩
theorem PE_or_l {t u : TE} (h : Ev t σ H v) : Ev (fun σ H Q => t σ H Q ∨ u σ H Q) σ H v := fun H1 e Q q => .inl (h H1 e Q q)
theorem PE_or_r {t u : TE} (h : Ev u σ H v) : Ev (fun σ H Q => t σ H Q ∨ u σ H Q) σ H v := fun H1 e Q q => .inr (h H1 e Q q)
/-! ### written-out arguments some of which are new lists -/
def EvAR (K : PySem.W.Frag) (ta : TA) (σ : L2.St) (H : Hp) (nss : List (List Int)) : Prop := ∀ H1, Ex H H1 → ∀ Q : List V → Hp → Prop, (∀ vs H2, Ex H1 H2 → Rows K H2 vs nss → Q vs H2) → ta σ H1 Q
theorem ear_nil : EvAR K tNil σ H [] := fun H1 _ _ q => q [] H1 (Ex.refl H1) .nil
theorem ear_consL {tr : TA} {nss : List (List Int)} (h : EvL te σ H (ns.map V.int)) (hr : EvAR K tr σ H nss) : EvAR K (tCons te tr) σ H (ns :: nss) := fun H1 e _ q =>
  h H1 e _ fun p H2 hp e2 h2 => hr H2 (e.trans e2) _ fun vs H3 e3 r => q _ H3 (e2.trans e3) (.cons ⟨p, rfl, sq_of (e3 _ _ h2)⟩ r)
theorem ear_consS {tr : TA} {nss : List (List Int)} (h : Ev te σ H (.ref p)) (hp : SqL K H p (ns.map V.int)) (hr : EvAR K tr σ H nss) : EvAR K (tCons te tr) σ H (ns :: nss) := fun H1 e _ q =>
  h H1 e _ fun H2 e2 => hr H2 (e.trans e2) _ fun vs H3 e3 r => q _ H3 (e2.trans e3) (.cons ⟨p, rfl, ex_l ((e.trans e2).trans e3) hp⟩ r)
/-- for x in (a list, a list, ..): the heap grows -/
theorem s_forTR {nss : List (List Int)} {ta : TA} {j : Nat} (h : EvAR K ta σ H nss) (hz : nss.length ≤ 1000) (k : ∀ p xs H1, H p = none → Ex H H1 → H1 p = some (.tup xs) → Rows K H1 xs nss → ∃ Pv : Nat → L2.St → Hp → Prop, Pv 0 σ H1 ∧ (∀ i σ' H', Pv i σ' H' → Ex H1 H') ∧
    (∀ i a ns σ' H', nss[i]? = some ns → SqL K H' a (ns.map V.int) → Pv i σ' H' → tu { D with nx := Pv (i + 1), ct := Pv (i + 1), bk := D.nx } (σ'.set j (some (.ref a))) H') ∧ ∀ σ' H', Pv nss.length σ' H' → D.nx σ' H') : tFor (iTup K (tTup ta)) (gName j) tu D σ H :=
  h H (Ex.refl H) _ fun vs H1 e r => ⟨by rw [r.len]; exact Nat.le_trans hz (by decide), fun p hp => by
    obtain ⟨Pv, h0, hl, hs, hd⟩ := k p vs _ (fresh_back e hp) (e.trans (Ex.new hp)) upd_same (r.mono (Ex.new hp))
    refine ⟨p, rfl, ⟨vs, st_of upd_same⟩, for_tup Pv h0 (fun i σ' H' _ q => st_of (hl i σ' H' q p _ upd_same)) (fun i x σ' H' hx q => ?_) (fun σ' H' q => hd σ' H' (by rw [← r.len]; exact q))⟩
    obtain ⟨a, ns, rfl, hn, ha⟩ := (r.mono ((Ex.new hp).trans (hl i σ' H' q))).get hx
    exact hs i a ns σ' H' hn ha q⟩
theorem q_forTR {nss : List (List Int)} {ta : TA} {j : Nat} (h : EvAR K ta σ H nss) (hz : nss.length ≤ 1000) (k : ∀ p xs H1, H p = none → Ex H H1 → H1 p = some (.tup xs) → Rows K H1 xs nss → ∃ Pv : Nat → L2.St → Hp → Prop, Pv 0 σ H1 ∧ (∀ i σ' H', Pv i σ' H' → Ex H1 H') ∧
    (∀ i a ns σ' H', nss[i]? = some ns → SqL K H' a (ns.map V.int) → Pv i σ' H' → tu { D with nx := Pv (i + 1), ct := Pv (i + 1), bk := tz D } (σ'.set j (some (.ref a))) H') ∧ ∀ σ' H', Pv nss.length σ' H' → tz D σ' H') : tSeq (tFor (iTup K (tTup ta)) (gName j) tu) tz D σ H := s_forTR (D := { D with nx := tz D }) h hz k
/-- a, b = e1, e2 -/
theorem q_par {ta : TA} {i j : Nat} {w : V} (h : EvA ta σ H [v, w]) (k : ∀ H1, Ex H H1 → tz D ((σ.set i (some v)).set j (some w)) H1) : tSeq (tPar i j ta) tz D σ H := h H (Ex.refl H) _ fun H1 e => ⟨v, w, rfl, k H1 e⟩
/-- f(a new list, b, c) -/
theorem el_callL3 {sp : Sp} {E : XK} {zs : List V} (ha : EvL ta σ H xs) (hb : Ev tb σ H x) (hc : Ev tc σ H y) (hs : ∀ p H1, H1 p = some (.lst xs) → Ex H H1 → SpL sp [.ref p, x, y] H1 zs) : EvL (tCall sp [] E (tCons ta (tCons tb (tCons tc tNil)))) σ H zs := fun H1 e Q k =>
  ha H1 e _ fun p H2 hp e2 h2 => hb H2 (e.trans e2) _ fun H3 e3 => hc H3 ((e.trans e2).trans e3) _ fun H4 e4 => hs p H4 (e4 _ _ (e3 _ _ h2)) (((e.trans e2).trans e3).trans e4) H4 (Ex.refl H4) Q (fun l H5 hl e5 h5 => k l H5 (fresh_back ((e2.trans e3).trans e4) hl) (((e2.trans e3).trans e4).trans e5) h5) E
end
/-! ### classes and defs as values; isinstance of own ones -/
theorem pe_gv {X : Cx} {x : Str} {a : Addr} {pos : PySem.Pos} (hm : X.mg x = some (.ref a)) (hg : Gl X x) (hd : (x == ("__debug__" : Str)) = false := by decide) : PE X (.Name x pos) (tC (.ref a)) := pe_glob hg hm rfl hd
/-- what isinstance asks of an own class of an object -/
structure InsF (K : PySem.W.Frag) (C : Addr) : Prop where
  ha : PySem.W.findIn K (.ref C) "__class__" = some (some (.builtin "object.__class__"))
  hn : PySem.W.specialIn K (.builtin "object.__class__") "__get__" = some (some (.builtin "getset_descriptor.__get__"))
  ht : PySem.W.takesIn K (.builtin "object.__class__") = some true
  hm : PySem.W.mroIn K C (.type "object") = some true
theorem cls_some {K : PySem.W.Frag} {C : Addr} (h : PySem.W.isClsIn K C = true) : (PySem.W.clsIn K C).isSome = true := by
  first
  | exact h
  | (unfold PySem.W.isClsIn at h; exact h)
  | (unfold PySem.W.isClsIn at h; cases e : PySem.W.clsIn K C with | none => rw [e] at h; cases h | some x => rfl)
theorem kit_ref {K : PySem.W.Frag} {t : Value} {C : Addr} {b : Bool} (h1 : PySem.W.isClsIn K C = true) (h2 : PySem.W.typeIn K (.ref C) = some (.type "type")) (h3 : PySem.W.subIn K (.ref C) (.ref C) = some true) (h4 : PySem.W.subIn K t (.ref C) = some b) : PySem.W.kitOne K t (.ref C) = some b := by
  unfold PySem.W.kitOne
  by_cases e : t = .ref C
  · subst e
    rw [h3] at h4
    cases h4
    rw [if_pos (beq_self_eq_true _)]
  · rw [if_neg (fun z => e (eq_of_beq z))]
    show (if ((PySem.W.clsIn K C).isSome && PySem.W.typeIn K (.ref C) == some (.type "type")) = true then PySem.W.subIn K t (.ref C) else none) = some b
    rw [if_pos (by rw [cls_some h1, h2, Bool.true_and]; exact beq_self_eq_true _)]
    exact h4
theorem kit_typ {K : PySem.W.Frag} {A : Addr} {T : String} {b : Bool} (hm : PySem.W.kitMeta T = true) (h : PySem.W.subIn K (.ref A) (.type T) = some b) : PySem.W.kitOne K (.ref A) (.type T) = some b := by
  have ne : ¬ (Value.ref A == Value.type T) = true := fun z => by
    have := eq_of_beq z
    cases this
  unfold PySem.W.kitOne
  rw [if_neg ne]
  show (if PySem.W.kitMeta T = true then PySem.W.subIn K (.ref A) (.type T) else none) = some b
  rw [if_pos hm]
  exact h
section
variable {K : PySem.W.Frag} {H : Hp}
theorem rc_isC {a D B dx : Addr} {fs : List (Str × V)} {b : Bool} (h : H a = some (.ins D dx fs)) (c : Cls K D) (F : InsF K D) (e : PySem.W.kitOne K (.ref D) (.ref B) = some b) : RC (rIsi K) [.ref a, .ref B] H (.bl b) :=
  fun H1 e1 _ q => ⟨.ref a, .ref B, _, _, b, rfl, .own B, .base (.ins (e1 _ _ h) c F.ha F.hn F.ht F.hm), e, q H1 (Ex.refl H1)⟩
end
/-! ### isinstance of a caught error -/
def rIsX (K : PySem.W.Frag) (a : Addr) (cls : Value) (d : Option Addr) : List V → Hp → VK → Prop := fun xs H Q => ∃ (D : Addr) (c : V) (cv : Value) (b : Bool), cls = .ref D ∧ d = none ∧ ExcC K D ∧ xs = [.ref a, c] ∧ ClsV c cv ∧ PySem.W.kitOne K (.ref D) cv = some b ∧ Q (.bl b) H
theorem call_isX {X : Cx} {K : PySem.W.Frag} {a : Addr} {oe : Obj} {cls : Value} {d : Option Addr} {pn : List (Addr × Obj)} (hK : X.K = K) (hz : Zc cls d oe) (hf : ∃ vs, oe.data = .fields vs) : CallR (X.suite a ((a, oe) :: pn)) (.builtin "isinstance") (rIsX K a cls d) := by
  intro pins s σ H xs us Q I r h
  obtain ⟨D, c, cv, b, rfl, rfl, C, rfl, hc, e, q⟩ := h
  subst hK
  exact call_isE C hz hf pins s σ H _ us Q I r ⟨c, cv, b, rfl, fun u ru => hc.eq ru, e, q⟩
/-! ### any, all where an exception is handled -/
section
variable {prog : Program} {w : World} {A : Around} {E : Value → Shared → Prop} {s : Shared}
theorem list_end_hot {it l x1 : Addr} {i : Nat} {items : Array Value} {Q : Option Value → Shared → Prop} (hot : HotX.HotAt A x1 s.heap) (hne : x1 ≠ it)
    (hit : s.heap.IsListIter it l i) (hl : s.heap.IsList l items) (hx : items[i]? = none)
    (hQ : ∀ h', Heap.ExtBut it s.heap h' → Q none { s with heap := h' }) : wpAny (model prog w) A (pyNext (.ref it)) Q E s := by
  obtain ⟨hh, o1, vs1, h1, d1, c1⟩ := hot
  obtain ⟨o, ho, hc, hd⟩ := id hit
  obtain ⟨ol, hol, _, nl, hdl⟩ := hl
  unfold pyNext
  refine wpAny_bind (wpAny_attempt (wpAny_callSpecial?_slot (name := Str.ofString "__next__") hit.typeIs slot_listiter_next
    (wpAny_call_entry slot_listiter_next hit.typeIs entry_listiter_next ?_ (args_listiter_next _))))
  show wpAny _ _ (field (.ref it) 0 >>= _) _ _ s
  refine wpAny_bind (wpAny_field ho hd (x := .ref l) rfl ?_)
  show wpAny _ _ (if (Value.ref l == Value.none) = true then _ else _) _ _ s
  rw [if_neg (show ¬ ((Value.ref l == Value.none) = true) from Bool.false_ne_true)]
  show wpAny _ _ (field (.ref it) 1 >>= _) _ _ s
  refine wpAny_bind (wpAny_field ho hd (x := .int i 0) rfl ?_)
  show wpAny _ _ (seqItems? (.ref l) >>= _) _ _ s
  refine wpAny_bind (wpAny_seqItems hol hdl ?_)
  simp only [Int.toNat_natCast, hx]
  refine wpAny_bind (wpAny_rule (wpAny_bind (wpAny_setField ho hd (by simp) ?_)))
  show wpAny _ _ (newExc (.type "StopIteration") [] >>= _) _ _ _
  refine wpAny_bind ?_
  simp only [newExc, newTuple]
  refine wpAny_bind (wpAny_newObj_type ?_ (by size_fits))
  refine wpAny_bind (m := firstArgMember _ _) (wpAny_of_eq (a := Value.none) (by first | rfl | (simp only [firstArgMember]; rfl)) ?_)
  refine wpAny_newObj_type ?_ (by size_fits)
  refine HotX.raiseNew_hot ⟨hh, o1, vs1, Heap.get?_push_of_some _ (Heap.get?_push_of_some _ ((Heap.get?_update_other _ _ hne.symm).trans h1)), d1, c1⟩ (Nat.ne_of_lt (Heap.lt_size (Heap.get?_push_of_some _ ((Heap.get?_update_other _ _ hne.symm).trans h1)))) (Heap.get?_push_size _ rfl) rfl (by first | (simp; done) | (simp; omega) | (simp only [Array.size_append]; simp; omega)) ?_
  refine wpAny_bind (wpAny_isInstance (T := "StopIteration") (b := true) ⟨_, Heap.get?_update_self _ (Heap.get?_push_size _ rfl) rfl, rfl⟩ isSubtype_stop ?_)
  refine wpAny_pure (hQ _ fun b o hb e => ?_)
  have e0 := (Heap.get?_update_other s.heap (Obj.mapFields (·.setIfInBounds 0 .none)) (Ne.symm hb)).trans e
  rw [Heap.get?_update_other _ _ (Nat.ne_of_gt (Heap.lt_size (Heap.get?_push_of_some _ e0)))]
  exact Heap.get?_push_of_some _ (Heap.get?_push_of_some _ e0)
theorem HotX_keep {x1 : Addr} {h h' : Heap} (hot : HotX.HotAt A x1 h) (k : ∀ o, h.get? x1 = some o → h'.get? x1 = some o) : HotX.HotAt A x1 h' := by
  obtain ⟨hh, o1, vs1, h1, d1, c1⟩ := hot
  exact ⟨hh, o1, vs1, k _ h1, d1, c1⟩
theorem walks_listH {x1 : Addr} (I ax : Addr) (hne : ax ≠ I) (hx1 : x1 ≠ I) (items : Array Value) :
    Walks prog w A I [I, ax, x1] [I] items.size (fun i v => items[i]? = some v) (fun i h => (h.IsListIter I ax i ∧ h.IsList ax items) ∧ HotX.HotAt A x1 h) where
  sub := fun b hb => by simp at hb; simp [hb]
  frame := fun _ _ _ st hk => ⟨⟨st.1.1.at fun o e => hk I (by simp) o e, st.1.2.at fun o e => hk ax (by simp) o e⟩, HotX_keep st.2 fun o e => hk x1 (by simp) o e⟩
  item := fun i s Q E hi st hQ => by
    refine wpAny_pyNext_list_item st.1.1 st.1.2 (x := items[i]) (by simp [hi]) fun h' hit' hs' => ?_
    exact hQ _ h' s.toks (by simp [hi]) ⟨⟨hit', st.1.2.extBut hs'.extBut hne⟩, HotX_keep st.2 fun o e => hs'.extBut x1 o hx1 e⟩ fun b o hb e => hs'.extBut b o (fun h => hb (by simp [h])) e
  done := fun s Q E st hQ => list_end_hot st.2 hx1 st.1.1 st.1.2 (by simp) fun h' he' => hQ h' s.toks fun b o hb e => he' b o (fun h => hb (by simp [h])) e
  self := fun _ _ _ _ st hQ => wpAny_pyIter_listiter st.1.1 hQ
end
section
variable {X : Cx} {K : PySem.W.Frag}
theorem cr_anyH (hK : X.K = K) (hc : L2H.HotC X) : CallR X (.builtin "any") (rAny K) := by
  intro pins s σ H vs us Q I r h
  obtain ⟨a, bs, rfl, hs, q⟩ := h
  subst hK
  obtain ⟨its, rv, hl, _⟩ := I.list hs
  obtain ⟨x1, hot⟩ := hc.at I
  rw [Vals.ref1 r]
  have hb := rv.bls
  refine call_any_walk (iter_any hl.isList fun s₂ e2 st hne => ?_)
  subst e2
  have nx : x1 ≠ s.heap.objs.size := by
    obtain ⟨_, o1, _, h1, _, _⟩ := hot
    exact Nat.ne_of_lt (Heap.lt_size h1)
  refine ⟨_, _, _, _, _, _, _, rfl, walks_listH (A := X.A.in1) (x1 := x1) _ a hne nx its.toArray, ⟨st, HotX_keep (A := X.A.in1) hot fun o e => Heap.get?_push_of_some _ e⟩, truth_bools hb, fun h' tk hk => ?_⟩
  refine ⟨.bl _, H, I.kept fun b o eo => hk b o (fun hmem => ?_) (Heap.get?_push_of_some _ eo), ?_, q⟩
  · rcases List.mem_cons.mp hmem with e1 | hmem
    · exact absurd (e1 ▸ Heap.lt_size eo) (Nat.lt_irrefl _)
    · cases hmem
  · show Value.bool _ = Value.bool _
    rw [← L2.any_range, hb, List.size_toArray, List.length_map]
theorem cr_allH (hK : X.K = K) (hc : L2H.HotC X) : CallR X (.builtin "all") (rAll K) := by
  intro pins s σ H vs us Q I r h
  obtain ⟨a, bs, rfl, hs, q⟩ := h
  subst hK
  obtain ⟨its, rv, hl, _⟩ := I.list hs
  obtain ⟨x1, hot⟩ := hc.at I
  rw [Vals.ref1 r]
  have hb := rv.bls
  refine call_all_walk (iter_any hl.isList fun s₂ e2 st hne => ?_)
  subst e2
  have nx : x1 ≠ s.heap.objs.size := by
    obtain ⟨_, o1, _, h1, _, _⟩ := hot
    exact Nat.ne_of_lt (Heap.lt_size h1)
  refine ⟨_, _, _, _, _, _, _, rfl, walks_listH (A := X.A.in1) (x1 := x1) _ a hne nx its.toArray, ⟨st, HotX_keep (A := X.A.in1) hot fun o e => Heap.get?_push_of_some _ e⟩, truth_bools hb, fun h' tk hk => ?_⟩
  refine ⟨.bl _, H, I.kept fun b o eo => hk b o (fun hmem => ?_) (Heap.get?_push_of_some _ eo), ?_, q⟩
  · rcases List.mem_cons.mp hmem with e1 | hmem
    · exact absurd (e1 ▸ Heap.lt_size eo) (Nat.lt_irrefl _)
    · cases hmem
  · show Value.bool _ = Value.bool _
    rw [← L2.all_range, hb, List.size_toArray, List.length_map]
theorem hot_suite {a : Addr} {oe : Obj} {cls : Value} {d : Option Addr} {pn : List (Addr × Obj)} (hz : L2N.Zn cls d oe) (hf : ∃ vs, oe.data = .fields vs) : L2H.HotC (X.suite a ((a, oe) :: pn)) := by
  obtain ⟨vs, h⟩ := hf
  exact ⟨(a, oe), ⟨rfl, vs, h, hz.2.2 vs h⟩, List.mem_cons_self⟩
end
/-! ### a list of truths: how many -/
def rCntB (K : PySem.W.Frag) : V → List V → Hp → VK → Prop := fun x xs H Q => ∃ (p : Addr) (ns : List Bool) (k : Bool), x = .ref p ∧ xs = [.bl k] ∧ SqL K H p (ns.map V.bl) ∧ Q (.int (ns.countP (· == k) : Nat)) H
def eqb (k : Bool) (v : Value) : Bool := match v with
  | .bool n => n == k
  | _ => false
theorem mt_lcountB {X : Cx} {K : PySem.W.Frag} (hK : X.K = K) : MtR X "list.count" (rCntB K) := by
  intro pins s σ H x xs v us Q I rx rxs h
  obtain ⟨p, ns, k, rfl, rfl, hs, q⟩ := h
  subst hK
  cases rx
  obtain ⟨u, rfl, ru⟩ := rxs.one
  cases (show u = Value.bool k from ru)
  obtain ⟨its, rv, ⟨⟨cls, dd, data, sl⟩, n, ho, hc, hdn, hd⟩, hlen⟩ := I.list hs
  simp only at hc hd
  subst hc hd
  have hi := Vals.bls rv
  subst hi
  refine call_meets PySem.F.slot_list_count ⟨_, ho, rfl⟩ PySem.F.entry_list_count (PySem.F.args_list_count_2 _ _)
    (SeqAt.list_countAt p (ns.map Value.bool).toArray n dd sl (.bool k) (eqb k)) ⟨ho, fun y hy => ?_, ?_⟩
  · have hy2 : y ∈ ns.map Value.bool := by simpa using hy
    obtain ⟨b, _, rfl⟩ := List.mem_map.mp hy2
    exact SeqAt.EqAt.bool_bool b k
  have ec : (ns.map Value.bool).toArray.toList.countP (eqb k) = ns.countP (· == k) := by
    show (ns.map Value.bool).countP (eqb k) = _
    rw [List.countP_map]
    rfl
  refine ⟨.int (ns.countP (· == k) : Nat), H, I.tok _, ⟨s.toks, ?_⟩, q⟩
  show Value.int (((ns.map Value.bool).toArray.toList.countP (eqb k) : Nat) : Int) s.toks = Value.int ((ns.countP (· == k) : Nat) : Int) s.toks
  rw [ec]
/-! ### a call of a local name that holds a def -/
def tCallLS (i : Nat) (f : Addr) (sp : Sp) (E : L2.St → XK) (t : TA) : TE := fun σ H Q => σ[i]? = some (some (.ref f)) ∧ t σ H fun vs H1 => sp vs H1 Q (E σ)
theorem pe_callLS {X : Cx} {CX : CXT} {k i : Nat} {f : Addr} {ps : List Str} {sp : Sp} {E : L2.St → XK} {g x : Str} {p pos : PySem.Pos} {e : Expr} {es : List Expr} {t : TA} (C : Cl X.prog X.w X.K X.mg X.base CX k g ps sp) (hm : X.mg g = some (.ref f)) (hr : Room k X.A) (hN : X.N[i]? = some x) (hv : Vis X.env.scope x)
    (hx : ∀ σ, PassesAt CX X σ (E σ)) (ha : PA X (e :: es) t)
    (hdb : (x == ("__debug__" : Str)) = false := by decide) (hcd : (x == ("__classdict__" : Str)) = false := by decide)
    (he : starEach (e :: es) X.env = (false, eval e X.env) :: starEach es X.env := by rfl) (hpl : (backTo pos (starEach es X.env)).any (·.1) = false := by rfl) : PE X (.Call (.Name x p) (e :: es) [] pos) (tCallLS i f sp E t) := by
  obtain ⟨f', fd, F, m, kp, b⟩ := C.ex
  have ef : f' = f := by
    rw [hm] at m
    cases m
    rfl
  subst ef
  refine ⟨fun pins s σ H Q I h => ?_⟩
  obtain ⟨hs, ht⟩ := h
  refine wpAny_Call_Name_kw (thn ((pe_var (pos := p) hN hv hdb hcd).run pins s σ H (fun v H1 => v = .ref f' ∧ H1 = H) I ⟨.ref f', hs, rfl, rfl⟩) fun u s1 ⟨v, H1, I1, r1, q1⟩ => ?_)
  obtain ⟨rfl, rfl⟩ := q1
  cases r1
  refine PySem.W.callWith_K (h₀ := X.base) I.ok.mod.kin kp (thn (ha.run pos pins s1 σ _ _ I1 ht) fun us s2 ⟨vs, H2, I2, r, q⟩ => ⟨I2.kIn, ?_⟩) he hpl
  exact run_fnS F hr b (hx σ) I2 r q
theorem pass_no {X : Cx} {E : L2.St → XK} (σ : L2.St) : PassesAt CX0 X σ (E σ) := fun _ _ _ _ _ _ z => z.elim
/-- a call of a def by its own name, within a try -/
theorem pe_clS {X : Cx} {CX : CXT} {k : Nat} {ps : List Str} {sp : Sp} {E : L2.St → XK} {x : Str} {p pos : PySem.Pos} {e : Expr} {es : List Expr} {t : TA} (C : Cl X.prog X.w X.K X.mg X.base CX k x ps sp) (hr : Room k X.A) (hg : Gl X x) (hx : ∀ σ, PassesAt CX X σ (E σ)) (ha : PA X (e :: es) t)
    (hdb : (x == ("__debug__" : Str)) = false := by decide) (he : starEach (e :: es) X.env = (false, eval e X.env) :: starEach es X.env := by rfl) (hpl : (backTo pos (starEach es X.env)).any (·.1) = false := by rfl) :
    PE X (.Call (.Name x p) (e :: es) [] pos) (tCallS sp E t) := by
  obtain ⟨f, fd, F, m, kp, b⟩ := C.ex
  exact pe_callS F hr hg m kp b hx ha hdb he hpl
theorem pe_gi {X : Cx} {x : Str} {i : Int} {pos : PySem.Pos} (hm : ∃ t, X.mg x = some (.int i t)) (hg : Gl X x) (hd : (x == ("__debug__" : Str)) = false := by decide) : PE X (.Name x pos) (tC (.int i)) := by
  obtain ⟨t, e⟩ := hm
  exact pe_glob hg e ⟨t, rfl⟩ hd
theorem pe_gs {X : Cx} {x : Str} {i : Str} {pos : PySem.Pos} (hm : ∃ t, X.mg x = some (.str i t)) (hg : Gl X x) (hd : (x == ("__debug__" : Str)) = false := by decide) : PE X (.Name x pos) (tC (.str i)) := by
  obtain ⟨t, e⟩ := hm
  exact pe_glob hg e ⟨t, rfl⟩ hd
/-- text * int -/
theorem op_repS {X : Cx} : OpR X (binaryOp .Mult) (fun x y H Q => ∃ (a : Str) (n : Int), x = .str a ∧ y = .int n ∧ MulOk a n ∧ Q (.str (Txt.mul a n)) H) := by
  intro pins s σ H x y v u Q I rx ry h
  obtain ⟨a, n, rfl, rfl, ok, q⟩ := h
  obtain ⟨t, rfl⟩ := rx
  obtain ⟨t', rfl⟩ := ry
  exact SB.mul ok fun t' k => ⟨.str _, H, I.tok _, ⟨_, rfl⟩, q⟩
/-! ### a def called where an exception is handled: its promise knows the handled one -/
theorem roomP {k : Nat} {A : Around} {hd : Option Value} (r : Room k A) : L2H.RoomH k (A.mark hd) := ⟨r.dp, r.un⟩
structure FnP (P : Program) (w : World) (K : PySem.W.Frag) (mg : Str → Option Value) (base : Heap) (k : Nat) (f : Addr) (fd : FuncData) (ps : List Str) (sp : Addr → Value → Option Addr → Sp) : Prop where
  len : ∀ a c d vs H Q E, sp a c d vs H Q E → vs.length = ps.length
  run : ∀ (A : Around) (outer : List Env) (s : Shared) (H : Hp) (args : Args) (us : List Value) (vs : List V) (Q : VK) (E : XK) (p : Addr × Obj) (cls : Value) (d : Option Addr), Zc cls d p.2 → (∃ vs, p.2.data = .fields vs) → L2H.RoomH k A → L2H.Hot1 A p → L2H.PinOk outer H s p → Env0 P w K mg base A outer s H → BindsTo s fd args (ps.zip us) → Vals vs us → sp p.1 cls d vs H Q E →
    codeAny (model P w) A (.call (.ref f) args) (CR CX0 outer P w H s Q E) s
structure ClP (P : Program) (w : World) (K : PySem.W.Frag) (mg : Str → Option Value) (base : Heap) (k : Nat) (x : Str) (ps : List Str) (sp : Addr → Value → Option Addr → Sp) : Prop where
  ex : ∃ f fd, FnP P w K mg base k f fd ps sp ∧ mg x = some (.ref f) ∧ PySem.W.keepIn K (.ref f) = true ∧ Binds K fd ps []
section
variable {P : Program} {w : World} {K : PySem.W.Frag} {mg : Str → Option Value} {base : Heap}
theorem clP {x : Str} {st : Stmt} {N ps : List Str} {k : Nat} {sp : Addr → Value → Option Addr → Sp} (D : Df K mg x ps st) (S : FnScope N ps (defScope st)) (len : ∀ a c d vs H Q E, sp a c d vs H Q E → vs.length = ps.length)
    (hbody : ∀ (f : Addr) (cdv : Value) (A : Around) (outer : List Env) (s : Shared) (H : Hp) (vs : List V) (Q : VK) (E : XK) (p : Addr × Obj) (cls : Value) (d : Option Addr), Zc cls d p.2 → (∃ vs, p.2.data = .fields vs) → L2H.Hot1 A p → L2H.RoomH k (A.deeper (envOfC x (defScope st) s.heap.objs.size f cdv)) → sp p.1 cls d vs H Q E →
      ∃ t, PSs (L2H.cxH CX0 P w K mg base N x (defScope st) f cdv A outer s H E p) (defBody st) t ∧ t { nx := fun _ H' => Q .non H', rt := Q } (L2.start N vs) H) : ClP P w K mg base (k + 1) x ps sp := by
  obtain ⟨f, fd, F, m, b⟩ := D.ex
  obtain ⟨oc, od, kV, doc, pm, an, cdv, ct, osl, rfl, lk, hcd⟩ := F.ex
  refine ⟨f, _, ⟨len, fun A outer s H args us vs Q E p cls d hz hf hr hot hpin e0 hb r hsp => ?_⟩, m, F.kp, b⟩
  have hl := len _ _ _ _ _ _ _ hsp
  have KX : K.In s.heap := e0.mod.kin.keeps fun b o e => (e0.bs b o e).1
  have lim : s.heap.NoLimit := e0.mod.nolimit.keeps fun b o e => (e0.bs b o e).1
  have hkind : ∀ y ∈ ps.zip us, (defScope st).names.lookup y.1 = some .local ∨ ((defScope st).names.lookup y.1 = some .cell ∧ ((cellsFrom (s.heap.objs.size + 1) (defScope st).names []).lookup y.1).isSome = true) := fun ⟨n, v⟩ hy => by
    rcases S.par n (List.of_mem_zip hy).1 with q | q
    · exact .inl q
    · exact .inr ⟨q, PySem.W.cellsFrom_some _ _ _ (.inl q)⟩
  refine codeAny_call_function hr.depth (KX _ _ lk) rfl S.co S.gen rfl (PySem.W.codeRec_of KX hcd) (hb _ _ _ _ ?_)
  refine wpAny_newFunctionEnv_cells S.kind hkind fun env he s1 x => ?_
  subst he
  refine ⟨lim.keeps x.toInCall.keep, codeAny_func ?_⟩
  obtain ⟨t, ht, hq⟩ := hbody f cdv A outer s H vs Q E p cls d hz hf hot (hr.deeper _) hsp
  have I := L2H.inv_startH (CX := CX0) (E := E) S hpin e0 hl r x
  refine wpAny_mono (ht.run [] s1 (L2.start N vs) H _ I hq) (fun fl s' hs => ?_) fun e s' hs => hs
  cases fl with
  | ret u =>
    obtain ⟨v, σ', H', J, rv, q⟩ := hs
    exact ⟨v, H', J.os, J.bare, J.base, J.hok, rv, q⟩
  | next =>
    obtain ⟨σ', H', J, q⟩ := hs
    exact ⟨V.non, H', J.os, J.bare, J.base, J.hok, rfl, q⟩
  | brk =>
    obtain ⟨_, _, _, q⟩ := hs
    exact False.elim q
  | cont =>
    obtain ⟨_, _, _, q⟩ := hs
    exact False.elim q
end
section
variable {X : Cx} {k : Nat} {ps : List Str} {x : Str} {q pos : PySem.Pos} {e : Expr} {es : List Expr} {t : TA}
theorem pe_clP {sp : Addr → Value → Option Addr → Sp} {a : Addr} {oe : Obj} {cls : Value} {d : Option Addr} (C : ClP X.prog X.w X.K X.mg X.base k x ps sp) (hr : L2H.RoomH k X.A) (hp : (a, oe) ∈ X.pn) (hot : L2H.Hot1 X.A (a, oe)) (hz : Zc cls d oe) (hf : ∃ vs, oe.data = .fields vs) (hg : Gl X x) (ha : PA X (e :: es) t)
    (hdb : (x == ("__debug__" : Str)) = false := by decide) (he : starEach (e :: es) X.env = (false, eval e X.env) :: starEach es X.env := by rfl) (hpl : (backTo pos (starEach es X.env)).any (·.1) = false := by rfl) :
    PE X (.Call (.Name x q) (e :: es) [] pos) (tCall (sp a cls d) [] E0 t) := by
  obtain ⟨f, fd, F, m, kp, b⟩ := C.ex
  refine ⟨fun pins s σ H Q I h => ?_⟩
  refine wpAny_Call_Name_kw (ld_glob I hg m ?_ hdb)
  refine PySem.W.callWith_K (h₀ := X.base) I.ok.mod.kin kp (thn (ha.run pos pins s σ H _ I h) fun us s1 ⟨vs, H1, I1, r, q1⟩ => ⟨I1.kIn, ?_⟩) he hpl
  have q2 : sp a cls d (vs ++ []) H1 Q E0 := q1
  rw [List.append_nil] at q2
  have hl : us.length = ps.length := by rw [← r.length]; exact F.len _ _ _ _ _ _ _ q2
  have b1 := b s1 us I1.kIn (by rw [List.append_nil]; exact hl)
  rw [List.append_nil] at b1
  have P1 := I1.pin (a, oe) (List.mem_append_left _ hp)
  have hpin : L2H.PinOk X.stack H1 s1 (a, oe) := ⟨P1.1, P1.2.1, fun hm => (List.mem_cons.mp (I1.stkSub a hm)).elim P1.2.2.1 P1.2.2.2.1, P1.2.2.2.2⟩
  refine wpAny_call (codeAny_mono (F.run X.A X.stack s1 H1 ⟨us, []⟩ us vs Q E0 (a, oe) cls d hz hf hr hot hpin I1.env0 b1 r q2) fun r s' hq => ?_)
  cases r with
  | error e => exact hq.elim
  | ok fl =>
    cases fl with
    | ret u => exact I1.after hq
    | next => exact False.elim hq
    | brk => exact False.elim hq
    | cont => exact False.elim hq
theorem hot1_suite {a : Addr} {oe : Obj} {cls : Value} {d : Option Addr} {A : Around} (hz : L2N.Zn cls d oe) (hf : ∃ vs, oe.data = .fields vs) : L2H.Hot1 (A.mark (some (.ref a))) (a, oe) := by
  obtain ⟨vs, h⟩ := hf
  exact ⟨rfl, vs, h, hz.2.2 vs h⟩
/-- isinstance of the handled one, wherever it is pinned -/
theorem call_isP {K : PySem.W.Frag} {p : Addr × Obj} {cls : Value} {d : Option Addr} (hK : X.K = K) (hp : p ∈ X.pn) (hz : Zc cls d p.2) (hf : ∃ vs, p.2.data = .fields vs) : CallR X (.builtin "isinstance") (rIsX K p.1 cls d) := by
  intro pins s σ H xs us Q I r h
  obtain ⟨D, c, cv, b, rfl, rfl, C, rfl, hc, e, q⟩ := h
  subst hK
  obtain ⟨u1, u2, rfl, r1, r2⟩ := vals2 r
  cases (show u1 = Value.ref p.1 from r1)
  have e2 := hc.eq r2
  subst e2
  obtain ⟨hget, _⟩ := I.pin p (List.mem_append_left _ hp)
  obtain ⟨vs, hv⟩ := hf
  obtain ⟨a, oe⟩ := p
  have J : PySem.W.InstAt s.heap a oe D none := by
    obtain ⟨oc, od, oda, osl⟩ := oe
    obtain ⟨h1, h2⟩ := hz
    dsimp only at h1 h2 hv
    subst h1 h2 hv
    exact ⟨hget, rfl, rfl, trivial⟩
  exact PySem.W.kia_one (PySem.W.handS_kitx_exc C.hg C.hk C.hs C.hd C.ha C.hn C.ht C.hm) I.kIn J e (fun z => nomatch z) fun tk => ⟨.bl b, H, I.kept (t' := tk) fun _ _ z => z, rfl, q⟩
end
/-! ### mixed values: each has a property that stays as the heap grows -/
section
variable {K : PySem.W.Frag} {P P' : Hp → V → Prop} {σ : L2.St} {H H' : Hp} {te : TE} {ta tr : TA} {v : V} {xs : List V} {n : Nat} {D : Ends} {tu tz : TS}
def EvP (P : Hp → V → Prop) (te : TE) (σ : L2.St) (H : Hp) : Prop := ∀ H1, Ex H H1 → ∀ Q : VK, (∀ v H2, Ex H1 H2 → P H2 v → Q v H2) → te σ H1 Q
def EvAP (P : Hp → V → Prop) (ta : TA) (σ : L2.St) (H : Hp) (n : Nat) : Prop := ∀ H1, Ex H H1 → ∀ Q : List V → Hp → Prop, (∀ vs H2, Ex H1 H2 → vs.length = n → (∀ v ∈ vs, P H2 v) → Q vs H2) → ta σ H1 Q
def Grows (P : Hp → V → Prop) : Prop := ∀ H H' v, Ex H H' → P H v → P H' v
theorem ep_val (h : Ev te σ H v) (hv : ∀ H1, Ex H H1 → P H1 v) : EvP P te σ H := fun H1 e Q q => h H1 e _ fun H2 e2 => q v H2 e2 (hv H2 (e.trans e2))
theorem ep_lst (h : EvL te σ H xs) (hv : ∀ p H1, Ex H H1 → H1 p = some (.lst xs) → P H1 (.ref p)) : EvP P te σ H := fun H1 e Q q => h H1 e _ fun p H2 _ e2 h2 => q _ H2 e2 (hv p H2 (e.trans e2) h2)
theorem ep_tup (h : EvU te σ H xs) (hv : ∀ p H1, Ex H H1 → H1 p = some (.tup xs) → P H1 (.ref p)) : EvP P te σ H := fun H1 e Q q => h H1 e _ fun p H2 _ e2 h2 => q _ H2 e2 (hv p H2 (e.trans e2) h2)
theorem eap_nil : EvAP P tNil σ H 0 := fun H1 _ _ q => q [] H1 (Ex.refl H1) rfl (fun _ hv => by cases hv)
theorem eap_cons (hm : Grows P) (h : EvP P te σ H) (hr : EvAP P tr σ H n) : EvAP P (tCons te tr) σ H (n + 1) := fun H1 e Q q =>
  h H1 e _ fun v H2 e2 hv => hr H2 (e.trans e2) _ fun vs H3 e3 hn hvs => q _ H3 (e2.trans e3) (by rw [List.length_cons, hn]) fun w hw => by
    rcases List.mem_cons.mp hw with rfl | hw
    · exact hm _ _ _ e3 hv
    · exact hvs w hw
theorem ep_nest (h : EvAP P' ta σ H n) (hg : Grows P') (hz : n ≤ 1000) (hv : ∀ p ys H1, Ex H H1 → H1 p = some (.lst ys) → ys.length = n → (∀ v ∈ ys, P' H1 v) → P H1 (.ref p)) : EvP P (tLst ta) σ H := fun H1 e Q q =>
  h H1 e _ fun vs H2 e2 hn hvs => ⟨by rw [hn]; exact Nat.le_trans hz (by decide), fun p hp => q _ _ (e2.trans (Ex.new hp)) (hv p vs _ ((e.trans e2).trans (Ex.new hp)) upd_same hn fun w hw => hg _ _ _ (Ex.new hp) (hvs w hw))⟩
theorem q_asgAP {i : Nat} (h : EvAP P ta σ H n) (hg : Grows P) (hz : n ≤ 1000) (k : ∀ p vs H1, H p = none → Ex H H1 → H1 p = some (.lst vs) → vs.length = n → (∀ v ∈ vs, P H1 v) → tz D (σ.set i (some (.ref p))) H1) : tSeq (tAsg (tLst ta) (gName i)) tz D σ H :=
  h H (Ex.refl H) _ fun vs H1 e hn hv => ⟨by rw [hn]; exact Nat.le_trans hz (by decide), fun p hp => k p vs _ (fresh_back e hp) (e.trans (Ex.new hp)) upd_same hn fun w hw => hg _ _ _ (Ex.new hp) (hv w hw)⟩
/-- .. the items' properties hold of the heap without the list itself, which may grow -/
theorem q_asgAPd {i : Nat} (h : EvAP P ta σ H n) (hz : n ≤ 1000) (k : ∀ p vs H1, H p = none → Ex H H1 → H1 p = some (.lst vs) → vs.length = n → (∀ v ∈ vs, P (delH H1 p) v) → tz D (σ.set i (some (.ref p))) H1) : tSeq (tAsg (tLst ta) (gName i)) tz D σ H :=
  h H (Ex.refl H) _ fun vs H1 e hn hv => ⟨by rw [hn]; exact Nat.le_trans hz (by decide), fun p hp => k p vs _ (fresh_back e hp) (e.trans (Ex.new hp)) upd_same hn (by rw [delH_new hp]; exact hv)⟩
theorem ex_del {p : Addr} (e : Ex H H') : Ex (delH H p) (delH H' p) := fun b o hb => by
  by_cases c : b = p
  · rw [c, delH_same] at hb
    cases hb
  · rw [delH_ne c] at hb ⊢
    exact e b o hb
theorem del_ex {p : Addr} : Ex (delH H p) H := fun b o hb => by
  by_cases c : b = p
  · rw [c, delH_same] at hb
    cases hb
  · rw [delH_ne c] at hb
    exact hb
theorem del_upd {p : Addr} {o : HO} : delH (upd H p o) p = delH H p := by
  funext b
  by_cases c : b = p
  · rw [c, delH_same, delH_same]
  · rw [delH_ne c, delH_ne c, upd_ne c]
theorem q_parL {i j : Nat} {tb : TE} {w : V} (ha : EvL te σ H xs) (hb : Ev tb σ H w) (k : ∀ p H1, H p = none → Ex H H1 → H1 p = some (.lst xs) → tz D ((σ.set i (some (.ref p))).set j (some w)) H1) : tSeq (tPar i j (tCons te (tCons tb tNil))) tz D σ H :=
  ha H (Ex.refl H) _ fun p H1 hp e1 h1 => hb H1 e1 _ fun H2 e2 => ⟨_, _, rfl, k p H2 hp (e1.trans e2) (e2 _ _ h1)⟩
theorem q_forTP {j : Nat} (h : EvAP P ta σ H n) (hg : Grows P) (hz : n ≤ 1000) (k : ∀ p H1, H p = none → Ex H H1 → ∃ Pv : Nat → L2.St → Hp → Prop, Pv 0 σ H1 ∧ (∀ i σ' H', Pv i σ' H' → Ex H1 H') ∧
    (∀ i x σ' H', P H' x → Pv i σ' H' → tu { D with nx := Pv (i + 1), ct := Pv (i + 1), bk := tz D } (σ'.set j (some x)) H') ∧ ∀ σ' H', Pv n σ' H' → tz D σ' H') : tSeq (tFor (iTup K (tTup ta)) (gName j) tu) tz D σ H :=
  h H (Ex.refl H) _ fun vs H1 e hn hv => ⟨by rw [hn]; exact Nat.le_trans hz (by decide), fun p hp => by
    obtain ⟨Pv, h0, hl, hs, hd⟩ := k p _ (fresh_back e hp) (e.trans (Ex.new hp))
    exact ⟨p, rfl, ⟨vs, st_of upd_same⟩, for_tup (D := { D with nx := tz D }) Pv h0 (fun i σ' H' _ q => st_of (hl i σ' H' q p _ upd_same)) (fun i x σ' H' hx q => hs i x σ' H' (hg _ _ _ ((Ex.new hp).trans (hl i σ' H' q)) (hv x (List.mem_of_getElem? hx))) q) (fun σ' H' q => hd σ' H' (by rw [← hn]; exact q))⟩⟩
end
section
variable {X : Cx} {pins : List (Addr × Obj)} {σ : L2.St} {H : Hp} {s s' : Shared}
/-- the state without a call's exception -/
theorem call_ground {H' : Hp} {a : Addr} {B : Heap} {Z : Obj → Prop} (I : Inv X pins σ H s) (fl : HandSPX.FlyingZ B X.stack a Z s'.heap) (hok : HOk X.prog X.w H' B) (ub : UB (frs X.stack) H H' s.heap B s'.heap) (os : s'.os = s.os) (ag : AllBare s'.gens) :
    ∃ sI : Shared, Inv X pins σ H' sI ∧ (∀ b o, sI.heap.get? b = some o → b ∉ frs X.stack → B.get? b = some o) ∧ sI.heap.UpToSlots s'.heap ∧ s'.os = sI.os := by
  obtain ⟨G, g1, g2⟩ := restrict s'.heap fun b => (B.get? b).isSome || decide (b ∈ frs X.stack)
  have gB : ∀ b o, B.get? b = some o → G.get? b = some o := fun b o e => by
    rw [g1 b (by rw [e]; rfl)]
    exact fl.1 b o e
  have gF : ∀ b, b ∈ frs X.stack → G.get? b = s'.heap.get? b := fun b hb => g1 b (by rw [decide_eq_true hb, Bool.or_true])
  have og : ∀ b o, G.get? b = some o → s'.heap.get? b = some o ∧ (B.get? b = some o ∨ b ∈ frs X.stack) := fun b o e => by
    cases q : ((B.get? b).isSome || decide (b ∈ frs X.stack)) with
    | false => rw [g2 b q] at e; cases e
    | true =>
      rw [g1 b q] at e
      refine ⟨e, ?_⟩
      rw [Bool.or_eq_true, decide_eq_true_iff] at q
      rcases q with q | q
      · obtain ⟨o', h⟩ := Option.isSome_iff_exists.mp q
        have z := fl.1 b o' h
        rw [e] at z
        cases z
        exact .inl h
      · exact .inr q
  refine ⟨{ s with heap := G, gens := s'.gens, drawn := s'.drawn, toks := s'.toks }, ?_, fun b o e hb => ?_, Heap.UpToSlots.of_keeps fun b o e => (og b o e).1, os⟩
  · refine I.call (ch := []) ⟨fun b o e n hb _ => gB b o (ub.keep b o e n hb), fun b o e n hb _ => ?_, fun b o e n _ => ub.free b o e n, fun b o e _ => ?_, ub.tups, ub.frzs, ub.tbls⟩ (hok.kept gB) ag (fun _ z => nomatch z)
    · obtain ⟨sl, q⟩ := ub.slot b o e hb
      exact ⟨sl, by rw [gF b hb]; exact q⟩
    · by_cases hb : b ∈ frs X.stack
      · obtain ⟨sl, q⟩ := ub.slot b o e hb
        exact ⟨_, by rw [gF b hb]; exact q⟩
      · obtain ⟨o', q⟩ := ub.there b o e hb
        exact ⟨o', gB b o' q⟩
  · rcases (og b o e).2 with h | h
    · exact h
    · exact absurd h hb
theorem funFrames_keep {base B h h' : Heap} : ∀ {l : List Env}, h.FunFrames base l → (∀ L ∈ frs l, B.get? L = none ∧ h'.get? L = h.get? L) → h'.FunFrames B l
  | [], _, _ => trivial
  | env :: l, hh, k => by
    obtain ⟨hk, ⟨L, o, hf, _, ho, hd⟩, hr⟩ := hh
    obtain ⟨q1, q2⟩ := k L (List.mem_filterMap.mpr ⟨env, List.mem_cons_self, hf⟩)
    exact ⟨hk, ⟨L, o, hf, q1, q2.trans ho, hd⟩, funFrames_keep hr fun b hb => by
      obtain ⟨e, he, q⟩ := List.mem_filterMap.mp hb
      exact k b (List.mem_filterMap.mpr ⟨e, List.mem_cons_of_mem _ he, q⟩)⟩
/-- what follows a comprehension's block: of an exception the frame is told -/
def postF (M : Model) (A : Around) (E : Value → Shared → Prop) (use : Option (Value → Sem Unit)) (Q : Value → Shared → Prop) (fr : Option Addr) (acc : Value) (C : Addr) (r : Result) (s' : Shared) : Prop :=
  match r with
  | .ok _ => compPost M A E use Q acc C r s'
  | .error x => ∃ m, s'.heap.Ns C m ∧ ∀ h', Heap.SameBut C s'.heap h' → ∀ cenv : Env, cenv.locals = C → cenv.frame = fr → wpAny M A (passOn "comprehension.variables-let-go" x cenv : Sem Value) (fun _ _ => False) E { s' with heap := h' }
theorem blk_lands {E : XK} {s3 sb : Shared} {H3 Hb : Hp} {scope : Scope} {ce : Env} {fp : List Addr} {pinsb : List (Addr × Obj)} {σb : L2.St} {e : Value} {use : Option (Value → Sem Unit)} {Qf : Value → Shared → Prop} {acc : Value} {E1 : Value → Shared → Prop}
    (hsk : X.stack = X.env :: X.outer) (hf : X.env.frame = some X.env.locals) (tk : L2N.Takes X (fun cls d _ H => E cls d H)) (I3 : Inv X pins σ H3 s3) (f3 : ∀ b ∈ fp, FpOk X pins H3 b) (hfr : ce.frame = X.env.frame) (hL : ce.locals = s3.heap.objs.size)
    (Ib : Inv (X.blk s3 H3 scope ce fp) pinsb σb Hb sb) (c : L2N.CX X.prog X.w X.stack Hb sb E e s') :
    wpAny (model X.prog X.w) X.A (noteFrame e ce) (fun _ s2 => postF (model X.prog X.w) X.A X.xe use Qf X.env.frame acc ce.locals (.error e) s2) E1 s' := by
  obtain ⟨a, B, H', cls, d, rfl, fl, hok, ub, na, os0, ag, hE⟩ := c
  obtain ⟨sI, Jb, nb, up, os⟩ := call_ground Ib fl hok ub os0 ag
  have kB := fun b o e n hb => ub.keep b o e n hb
  have hA : X.A.frames = some (X.env :: X.outer) := by rw [I3.ok.frames, hsk]
  have en : noteFrame (.ref a) ce = noteFrame (.ref a) X.env := by
    unfold noteFrame PySem.frameOf
    rw [hfr]
  rw [en]
  have fl' : HandSPX.FlyingZ B (X.env :: X.outer) a (L2N.Zn cls d) s'.heap := by
    rw [← hsk]
    exact fl
  refine PXN.looks_onZ L2N.Zn.steady hA hf fl' fun h1 hh up1 => ?_
  have frL : ∀ b ∈ frs X.stack, b ≠ ce.locals := fun b hb z => by
    obtain ⟨_, o, e, _⟩ := I3.stack.mem hb
    have := Heap.lt_size e
    rw [z, hL] at this
    exact absurd this (Nat.lt_irrefl _)
  obtain ⟨mb, ⟨oc, es, ep, hoc, rc⟩, _⟩ := Ib.loc
  have hBC : B.get? ce.locals = some oc := kB _ _ hoc Ib.free fun hm => frL _ hm rfl
  refine ⟨mb, ⟨oc, es, ep, hh.1 _ _ hBC, rc⟩, fun h2 sb2 ce2 hl2 hf2 => ?_⟩
  obtain ⟨k1, k2, k3, oe, vs, T, oT, ts, hea, hz, hd, hv1, hnT, hTe, hT, hdT, hv3⟩ := hh
  have aC : a ≠ ce.locals := fun z => by rw [z, hBC] at k2; cases k2
  have TC : T ≠ ce.locals := fun z => by rw [z, hBC] at hnT; cases hnT
  obtain ⟨B2, b1, b2⟩ := restrict B fun b => !decide (b = ce.locals)
  have hB2 : ∀ b o, B2.get? b = some o → b ≠ ce.locals ∧ B.get? b = some o := fun b o e => by
    by_cases z : b = ce.locals
    · rw [b2 b (by rw [decide_eq_true z]; rfl)] at e
      cases e
    · rw [b1 b (by rw [decide_eq_false z]; rfl)] at e
      exact ⟨z, e⟩
  have nB2 : ∀ b, B.get? b = none → B2.get? b = none := fun b e => by
    cases q : B2.get? b with
    | none => rfl
    | some o => rw [(hB2 b o q).2] at e; cases e
  have hh2 : HandSPX.HeldZ B2 (X.env :: X.outer) a (L2N.Zn cls d) X.env.locals h2 :=
    ⟨fun b o e => (sb2.2 b (hB2 b o e).1).trans (k1 b o (hB2 b o e).2), nB2 a k2, funFrames_keep k3 fun L hm => ⟨nB2 L (k3.mem hm).1, sb2.2 L (frL L (by rw [hsk]; exact hm))⟩,
      oe, vs, T, oT, ts, (sb2.2 a aC).trans hea, hz, hd, hv1, nB2 T hnT, hTe, (sb2.2 T TC).trans hT, hdT, hv3⟩
  have J : Inv X pins σ H' sI := I3.call' (ch := fp) Jb.os Jb.base Jb.hok Jb.bare fun b hb => ⟨(f3 b hb).2.2.2.1, (f3 b hb).2.1, (f3 b hb).2.2.2.2.1, (f3 b hb).2.2.2.2.2⟩
  have nC : H' ce.locals = none := Jb.free
  obtain ⟨c0, c1, c2, c3, c4, c5⟩ : FpOk X pins H' ce.locals := I3.fpOk (by rw [hL]; exact Nat.le_refl _) nC
  obtain ⟨G, g1, g2⟩ := restrict sI.heap fun b => !decide (b = ce.locals)
  have hG : ∀ b o, G.get? b = some o → b ≠ ce.locals ∧ sI.heap.get? b = some o := fun b o e => by
    by_cases z : b = ce.locals
    · rw [g2 b (by rw [decide_eq_true z]; rfl)] at e
      cases e
    · rw [g1 b (by rw [decide_eq_false z]; rfl)] at e
      exact ⟨z, e⟩
  have J2 : Inv X pins σ H' { sI with heap := G, toks := sI.toks } := J.turned (t' := sI.toks) (it := ce.locals) (fun b o hb e => by rw [g1 b (by rw [decide_eq_false hb]; rfl)]; exact e) c0 c1 c3 c4 c5
  unfold PySem.passOn
  refine wpAny_bind (wpAny_field ((sb2.2 a aC).trans hea) hd hv1 ?_)
  rw [if_neg (show ¬ ((Value.ref T == Value.none) = true) from by simp)]
  have fin : wpAny (model X.prog X.w) X.A (setFlight (.ref a) ce2.frame) (fun _ s4 => wpAny (model X.prog X.w) X.A (throw (.ref a) : Sem Value) (fun _ _ => False) X.xe s4) X.xe { s' with heap := h2 } := by
    rw [hf2, hf]
    refine HandSPX.setFlight_onZ hh2 fun h4 hh4 up4 => wpAny_throw (tk _ _ ?_)
    refine ⟨a, B2, _, pins, σ, H', cls, d, rfl, J2, fun b o e hb => ?_, fun b o e hnf => ?_, .inr (.inr (by rw [hsk]; exact hh4)), na, os, ag, hE⟩
    · obtain ⟨z, e⟩ := hG b o e
      rw [b1 b (by rw [decide_eq_false z]; rfl)]
      exact nb b o e hb
    · obtain ⟨z, e⟩ := hG b o e
      obtain ⟨sl, q⟩ := (up.trans up1) b o e hnf
      obtain ⟨sl2, q2⟩ := up4 b { o with slots := sl } ((sb2.2 b z).trans q) hnf
      exact ⟨sl2, q2⟩
  first
    | exact wpAny_bind (wpAny_pure (wpAny_bind fin))
    | exact wpAny_bind fin
end
section
variable {M : Model} {A : Around} {E : Value → Shared → Prop} {s : Shared} {env : Env}
theorem comp_freeF {e : Expr} {scope : Scope} {pos : PySem.Pos} {newAcc first : Sem Value} {g : Comprehension} {gs : List Comprehension} {cl : List (Str × Addr)} {use : Option (Value → Sem Unit)} {Q : Value → Shared → Prop}
    (hcl : clausesOf e = g :: gs) (hs : ∀ x, foldedSetIterable g.iter env x = pure x) (hclos : closureFor scope env = pure cl) (hkind : scope.kind = .function) (hnames : ∀ x ∈ scope.names, x.2 = .local → scope.names.lookup x.1 = some .local)
    (h : wpAny M A first (fun x s1 => wpAny M A (pyIter x) (fun it s2 => wpAny M A newAcc (fun acc s3 =>
      wpAny M A (newFunctionEnv scope env.globals cl [] env.qual none .none (some env)) (fun cenv s4 => codeAny M A (.compStart e 0 it acc { cenv with scope := relabel scope env }) (postF M A E use Q cenv.frame acc cenv.locals) s4) E s3) E s2) E s1) E s) :
    wpAny M A (comprehension e scope env pos newAcc false first use) Q E s := by
  unfold comprehension
  rw [hclos, hcl]
  have pass : ∀ {α : Type} {t : Sem α} {P P' : α → Shared → Prop} {s : Shared}, wpAny M A t P E s → (∀ a s, P a s → P' a s) → wpAny M A t P' E s := fun h hP => wpAny_mono h hP fun _ _ x => x
  refine wpAny_bind (pass h fun x s1 h1 => wpAny_bind (wpAny_standAt (wpAny_bind (wpAny_of_eq (hs x) (wpAny_bind (wpAny_holding (pass h1 fun it s2 h2 => wpAny_standIf (wpAny_bind (pass h2 fun acc s3 h3 => wpAny_bind (wpAny_pure (wpAny_bind (pass h3 fun cenv s4 h4 => ?_))))))))))))
  dsimp only
  have hv : ∀ x ∈ (scope.names.filter fun x => (x.2 == .local || x.2 == .cell) && x.1 != (".0" : Str)).reverse, x.2 = .local → Env.kindOf { cenv with scope := relabel scope env } x.1 = some .local := fun x hx hl =>
    lookup_relabel_local (hnames x (List.mem_filter.mp (List.mem_reverse.mp hx)).1 hl)
  refine wpAny_holding (wpAny_bind (wpAny_attempt (wpAny_holding (wpAny_run (codeAny_mono h4 fun r s5 hr => ?_)))))
  cases r with
  | ok f =>
    cases use with
    | none =>
      obtain ⟨m, hn, hr⟩ := hr
      exact wpAny_bind (wpAny_holding (wpAny_comp_letGo (cenv := { cenv with scope := relabel scope env }) hkind _ s5 m hv hn fun h6 m6 _ hs6 => wpAny_pure (hr h6 hs6)))
    | some u =>
      refine wpAny_bind (wpAny_rule (wpAny_bind (wpAny_holding (pass hr fun _ s6 hr6 => ?_))))
      obtain ⟨m, hn, hr6⟩ := hr6
      refine wpAny_bind (wpAny_comp_letGo (cenv := { cenv with scope := relabel scope env }) hkind _ s6 m (fun x hx hl => ?_) hn fun h7 m7 _ hs7 => wpAny_pure (hr6 h7 hs7))
      rcases List.mem_append.mp hx with h8 | h8
      · exact hv x (List.mem_of_mem_drop h8) hl
      · exact hv x (List.mem_of_mem_take h8) hl
  | error x =>
    obtain ⟨m, hn, hr⟩ := hr
    exact wpAny_bind (wpAny_holding (wpAny_comp_letGo (cenv := { cenv with scope := relabel scope env }) hkind _ s5 m hv hn fun h6 m6 _ hs6 => wpAny_mono (hr h6 hs6 { cenv with scope := relabel scope env } rfl rfl) (fun _ _ f => f.elim) fun _ _ y => y))
end
section
variable {X : Cx} {pins : List (Addr × Obj)} {σ : L2.St} {H : Hp} {s : Shared}
abbrev blkE (X : Cx) (s : Shared) (H : Hp) (scope : Scope) (ce : Env) (fp : List Addr) (xe : Value → Shared → Prop) : Cx := (X.blk s H scope ce fp).wish xe
theorem lc_raises {E : XK} {Q : VK} {elt tg iter : Expr} {scope : Scope} {own : List (Str × Nat)} {pos pos' : PySem.Pos} {wi : TI} {g : TG} {te : TE} {use : Option (Value → Sem Unit)} {Qf : Value → Shared → Prop}
    (hc : X.calm = true) (hsk : X.stack = X.env :: X.outer) (hf : X.env.frame = some X.env.locals) (tk : L2N.Takes X (fun cls d _ H => E cls d H)) (hN : X.N.Nodup) (I : Inv X pins σ H s) (hi : PI X tg iter wi) (ok : BlkOk X.N X.env.scope scope own)
    (hg : ∀ (s : Shared) (H : Hp) (C : Addr) (cl : List (Str × Addr)) (fp : List Addr), PG (X.blk s H scope (compEnvC scope cl C X.env) fp) tg g)
    (he : ∀ (s : Shared) (H : Hp) (C : Addr) (cl : List (Str × Addr)) (fp : List Addr) (xe : Value → Shared → Prop), Passes (L2N.CX X.prog X.w) (blkE X s H scope (compEnvC scope cl C X.env) fp xe) E → PE (blkE X s H scope (compEnvC scope cl C X.env) fp xe) elt te) (hs : ∀ x, foldedSetIterable iter X.env x = pure x)
    (h : tLc wi g tYes te (own.map (·.2)) σ H Q)
    (hRR : ∀ D C s' m H', Inv X pins σ H' s' → Q (.ref D) H' → s'.heap.Ns C m → FpOk X pins H' C → compPost (model X.prog X.w) X.A X.xe use Qf (.ref D) C (.ok .next) s') :
    wpAny (model X.prog X.w) X.A (comprehension (.ListComp elt [⟨tg, iter, [], 0⟩] scope pos) scope X.env pos' (newList []) false (eval iter X.env) use) Qf X.xe s := by
  have hfree : ∀ y ∈ scope.names, y.2 = .free → ∃ c, X.env.cells.lookup y.1 = some c := fun y hy e => (ok.free y hy e).elim (fun k => I.ok.has _ (.inl k)) (fun k => I.ok.has _ (.inr k))
  refine comp_freeF (use := use) rfl hs (closure_ok hfree) ok.kind (fun y hy e => by rw [ok.uniq y hy, e]) (thn (hi.run pins s σ H _ I h) fun xv s1 hx => thn hx fun itv s2 h2 => ?_)
  obtain ⟨it, fp, tn, J, H2, e, I2, T, st2, f2, q⟩ := h2
  subst e
  refine wpAny_newObj_type (newEnv_comp ?_) (by show 0 ≤ sizeLine; decide)
  generalize hD : s2.heap.objs.size = D
  obtain ⟨W, ⟨m0, w0⟩, turn⟩ := q D (I2.hok.fresh (Nat.le_of_eq hD))
  generalize hs3 : ({ s2 with heap := s2.heap.push { cls := .type "list", data := .seq ([] : List Value).toArray } } : Shared) = s3
  have h3 : s3.heap = s2.heap.push { cls := .type "list", data := .seq ([] : List Value).toArray } := by rw [← hs3]
  have old : ∀ b o, s2.heap.get? b = some o → s3.heap.get? b = some o := fun b o e => by rw [h3]; exact Heap.get?_push_of_some _ e
  have I3 : Inv X pins σ (upd H2 D (.lst [])) s3 := by
    rw [← hs3]
    refine I2.laid (t' := s2.toks) (fun b o e => Heap.get?_push_of_some _ e) (Nat.le_of_eq hD) ⟨Nat.zero_le _, [], 0, .nil, ?_⟩
    rw [← hD]
    exact Heap.get?_push_size _ rfl
  have f3 : ∀ b ∈ fp, FpOk X pins (upd H2 D (.lst [])) b ∧ b < s3.heap.objs.size := fun b hb => by
    obtain ⟨o, e, _⟩ := T.obj _ _ st2 b hb
    have hlt := Heap.lt_size e
    obtain ⟨n, r⟩ := f2 b hb
    exact ⟨⟨by rw [upd_ne (by rw [← hD]; exact Nat.ne_of_lt hlt)]; exact n, r⟩, Heap.lt_size (old b o e)⟩
  have st3 : tn 0 s3.heap := T.keep _ _ _ st2 fun b _ o e => old b o e
  have I4 := block_start I3 ok hN f3
  have pg := hg s3 (upd H2 D (.lst [])) s3.heap.objs.size (cellsFrom (s3.heap.objs.size + 1) scope.names (cloFrom X.env.cells scope.names [])) fp
  have pe := he s3 (upd H2 D (.lst [])) s3.heap.objs.size (cellsFrom (s3.heap.objs.size + 1) scope.names (cloFrom X.env.cells scope.names [])) fp
  show codeAny _ _ (.compStart (.ListComp elt [⟨tg, iter, [], 0⟩] scope pos) 0 (.ref it) (.ref D) (compEnvC scope (cellsFrom (s3.heap.objs.size + 1) scope.names (cloFrom X.env.cells scope.names [])) s3.heap.objs.size X.env))
    (postF (model X.prog X.w) X.A X.xe use Qf X.env.frame (.ref D) s3.heap.objs.size) { s3 with heap := pushCells (s3.heap.push { cls := .type "dict", data := .dict #[] }) scope.names }
  generalize hce : compEnvC scope (cellsFrom (s3.heap.objs.size + 1) scope.names (cloFrom X.env.cells scope.names [])) s3.heap.objs.size X.env = ce at I4 pg pe ⊢
  have cL : ce.locals = s3.heap.objs.size := by subst hce; rfl
  have cF : ce.frame = X.env.frame := by subst hce; rfl
  generalize hH3 : upd H2 D (.lst []) = H3 at I3 I4 pg pe w0 f3
  generalize hs4 : ({ s3 with heap := pushCells (s3.heap.push { cls := .type "dict", data := .dict #[] }) scope.names } : Shared) = s4 at I4 ⊢
  have st4 : tn 0 s4.heap := T.keep _ _ _ st3 fun b _ o e => by rw [← hs4]; exact pushCells_keeps _ _ _ _ (Heap.get?_push_of_some _ e)
  have stat : ∀ {σ' : L2.St} {H' : Hp} {s' : Shared}, Inv (X.blk s3 H3 scope ce fp) [] σ' H' s' → (∀ b ∈ fp, H' b = none) → ∀ b ∈ fp, FpOk (X.blk s3 H3 scope ce fp) [] H' b := fun {σ' H' s'} I' hn b hb =>
    ⟨hn b hb, (I'.ok.exf b hb).1, I'.ok.exfs b hb, .inl hb, fun x c e => (I'.ok.exf b hb).2 x c e, fun p hp => absurd (show p ∈ ([] : List (Addr × Obj)) ++ [] from hp) (by simp)⟩
  -- what an exception of an element finds
  have pe' := pe (fun e s' => ∃ pinsb σb Hb sb, Inv (X.blk s3 H3 scope ce fp) pinsb σb Hb sb ∧ L2N.CX X.prog X.w X.stack Hb sb E e s') (fun pinsb σb Hb sb e s' Ib c => ⟨pinsb, σb, Hb, sb, Ib.unwish, c⟩)
  have loop : codeAny (model X.prog X.w) X.A (.compLoop (.ListComp elt [⟨tg, iter, [], 0⟩] scope pos) 0 (.ref it) (.ref D) ce) (postF (model X.prog X.w) X.A X.xe use Qf X.env.frame (.ref D) s3.heap.objs.size) s4 := by
    refine compLoop_any (fun n s' => ∃ i H', Inv (X.blk s3 H3 scope ce fp) [] (wipe σ (own.map (·.2))) H' s' ∧ tn i s'.heap ∧ (∀ b ∈ fp, H' b = none) ∧ W i n H') ?_ m0 ⟨0, H3, I4, st4, fun b hb => (f3 b hb).1.1, w0⟩
    rintro n s5 ⟨i, H5, I5, st5, n5, w5⟩
    rcases turn i n H5 w5 with ⟨stop, qq⟩ | ⟨go, Nx, hNx, step⟩
    · refine thnF (T.done (X.blk s3 H3 scope ce fp) rfl rfl rfl hc i [] s5 _ H5 (fun _ _ => False) I5 (stat I5 n5) st5 stop) fun r s6 ⟨hr, I6⟩ => ?_
      subst hr
      have I7 : Inv X pins σ H5 s6 := I3.call' (ch := fp) I6.os I6.base I6.hok I6.bare fun b hb => ⟨(f3 b hb).1.2.2.2.1, (f3 b hb).1.2.1, (f3 b hb).1.2.2.2.2.1, (f3 b hb).1.2.2.2.2.2⟩
      have nC : H5 s3.heap.objs.size = none := by
        rw [← cL]
        exact I6.free
      obtain ⟨m, hn, _⟩ := I6.loc
      have hn : s6.heap.Ns ce.locals m := hn
      rw [cL] at hn
      exact hRR D s3.heap.objs.size s6 m H5 I7 qq hn (I3.fpOk (Nat.le_refl _) nC)
    · refine thnF (T.item (X.blk s3 H3 scope ce fp) rfl rfl rfl hc i [] s5 _ H5 (fun _ _ => False) I5 (stat I5 n5) st5 go) fun r s6 ⟨u, hr, h6⟩ => ?_
      subst hr
      refine thnF h6 fun _ s7 ⟨x, H7, I7, r7, y7, st7, n7⟩ => ?_
      have I7' := I7.pinned (stat I7 n7) (T.obj _ _ st7)
      refine thnF (pg.run _ s7 _ H7 x u _ I7' r7 (step x H7 y7)) fun _ s8 ⟨σ8, H8, I8, hw8, q8⟩ => ?_
      refine thnF ((pts_nil (X := X.blk s3 H3 scope ce fp)).run _ s8 σ8 H8 _ I8 q8) fun b s9 ⟨H9, I9, q9⟩ => ?_
      have fin : ∀ {s' : Shared} {H' : Hp}, Inv (X.blk s3 H3 scope ce fp) ([] ++ pinsAt fp s7.heap) σ8 H' s' → Nx H' → ∃ m, m < n ∧ ∃ i H', Inv (X.blk s3 H3 scope ce fp) [] (wipe σ (own.map (·.2))) H' s' ∧ tn i s'.heap ∧ (∀ b ∈ fp, H' b = none) ∧ W i m H' := fun {s' H'} I' nx => by
        obtain ⟨m', hm, w'⟩ := hNx H' nx
        have pin' : ∀ b ∈ fp, ∀ o, s7.heap.get? b = some o → s'.heap.get? b = some o ∧ H' b = none := fun b hb o e =>
          let z := I'.pin (b, o) (List.mem_append_right _ (List.mem_append_right _ (mem_pinsAt hb e)))
          ⟨z.1, z.2.1⟩
        refine ⟨m', hm, i + 1, H', (I'.unpinned (pins := [])).weak (by rw [← hw8, wipe_length]) (fun j v e => ?_), T.keep _ _ _ st7 fun b hb o e => (pin' b hb o e).1, fun b hb => ?_, w'⟩
        · rw [← hw8] at e
          exact (wipe_some e).1
        · obtain ⟨o, e, _⟩ := T.obj _ _ st7 b hb
          exact (pin' b hb o e).2
      cases b with
      | false =>
        simp only [Bool.false_eq_true, if_false] at q9 ⊢
        exact fin I9 q9
      | true =>
        simp only [if_true] at q9 ⊢
        refine wpAny_mono (pe'.run _ s9 σ8 H9 _ (I9.wish _) q9) (fun z s10 ⟨yv, H10, I10, r10, acc, hD10, hz10, nx⟩ => ?_) (fun e s' hx => ?_)
        · exact app_ok (X := X.blk s3 H3 scope ce fp) I10.unwish hD10 hz10 r10 fun s11 I11 => fin I11 nx
        · obtain ⟨pinsb, σb, Hb, sb, Ib, c⟩ := hx
          show wpAny (model X.prog X.w) X.A (noteFrame e ce) _ _ s'
          rw [← cL]
          exact blk_lands hsk hf tk I3 (fun b hb => (f3 b hb).1) cF cL Ib c
  exact codeAny_compStart_list loop (T.self X.A 0 _ _ _ st4 loop)
/-- name = [..] on one line, the name a local; an element may raise -/
theorem ps_setLcX {E : XK} {i : Nat} {y : Str} {py : PySem.Pos} {elt tg iter : Expr} {scope : Scope} {own : List (Str × Nat)} {pos spos : PySem.Pos} {wi : TI} {g : TG} {te : TE} (hc : X.calm = true) (hsk : X.stack = X.env :: X.outer) (hf : X.env.frame = some X.env.locals) (tk : L2N.Takes X (fun cls d _ H => E cls d H)) (hN : X.N.Nodup) (hy : X.N[i]? = some y) (hyl : X.env.scope.names.lookup y = some .local)
    (hsw : swapsWith (.ListComp elt [⟨tg, iter, [], 0⟩] scope pos) (some (.Name y py)) spos.line X.env = pure true) (hi : PI X tg iter wi) (ok : BlkOk X.N X.env.scope scope own)
    (hg : ∀ (s : Shared) (H : Hp) (C : Addr) (cl : List (Str × Addr)) (fp : List Addr), PG (X.blk s H scope (compEnvC scope cl C X.env) fp) tg g)
    (he : ∀ (s : Shared) (H : Hp) (C : Addr) (cl : List (Str × Addr)) (fp : List Addr) (xe : Value → Shared → Prop), Passes (L2N.CX X.prog X.w) (blkE X s H scope (compEnvC scope cl C X.env) fp xe) E → PE (blkE X s H scope (compEnvC scope cl C X.env) fp xe) elt te) (hs : ∀ x, foldedSetIterable iter X.env x = pure x := by intro _; rfl) :
    PS X (.Assign [.Name y py] (.ListComp elt [⟨tg, iter, [], 0⟩] scope pos) spos) (tAsg (tLc wi g tYes te (own.map (·.2))) (gName i)) := by
  refine ⟨fun pins s σ H D I h => ?_⟩
  rw [exec_Assign_Name_used _ _ _ _ hsw]
  refine wpAny_bind (wpAny_standAt (wpAny_bind ?_))
  show wpAny _ X.A (do let _ ← comprehension (.ListComp elt [⟨tg, iter, [], 0⟩] scope pos) scope X.env (firstIterPos [⟨tg, iter, [], 0⟩] pos) (newList []) false (eval iter X.env) (some (assign (.Name y py) X.env))) _ _ s
  have h : tLc wi g tYes te (own.map (·.2)) σ H (fun x H1 => gName i x σ H1 D.nx) := h
  refine wpAny_bind (thn (lc_raises (Qf := fun _ s' => SP X pins D .next s') hc hsk hf tk hN I hi ok hg he hs h fun L C s' m H' I' q hn f => ?_) fun _ s' hq => wpAny_pure (wpAny_pure hq))
  show wpAny _ _ (assign (.Name y py) X.env (.ref L)) _ _ _
  refine wpAny_assign_Name (store_ok2 (v := V.ref L) I' hN hy (.inl hyl) rfl (fun s2 I2 ⟨a, sb, ha⟩ => ?_) (.inr hyl))
  obtain ⟨f0, f1, f2, f3, f4, f5⟩ := f
  have haC : C ≠ a := by
    rcases ha with z | z
    · rw [z]; exact f1
    · exact fun e => f4 y a z e.symm
  exact ⟨m, hn.sameBut sb haC, fun h3 sb3 => ⟨_, H', I2.turned (t' := s2.toks) (fun b o hb e => (sb3.2 b hb).trans e) f0 f1 f3 f4 f5, q⟩⟩
end
/-! ### the handled exception has such a context -/
def HotAtM (A : Around) (x1 x0 : Addr) (h : Heap) : Prop := A.handled = some (.ref x1) ∧ ∃ (o1 : Obj) (vs1 : Array Value), h.get? x1 = some o1 ∧ o1.data = .fields vs1 ∧
  (vs1[2]? = some .none ∨ vs1[2]? = some (.ref x0) ∧ x0 ≠ x1 ∧ ∃ (o0 : Obj) (vs0 : Array Value), h.get? x0 = some o0 ∧ o0.data = .fields vs0 ∧ vs0[2]? = some .none)
theorem HotAtM.keep {A : Around} {x1 x0 : Addr} {h h' : Heap} (hot : HotAtM A x1 x0 h) (k1 : ∀ o, h.get? x1 = some o → h'.get? x1 = some o) (k0 : ∀ o, h.get? x0 = some o → h'.get? x0 = some o) : HotAtM A x1 x0 h' := by
  obtain ⟨hh, o1, vs1, h1, d1, c⟩ := hot
  refine ⟨hh, o1, vs1, k1 _ h1, d1, ?_⟩
  rcases c with c | ⟨c, n, o0, vs0, h0, d0, c0⟩
  · exact .inl c
  · exact .inr ⟨c, n, o0, vs0, k0 _ h0, d0, c0⟩
section
variable {prog : Program} {w : World} {A : Around} {E : Value → Shared → Prop} {s : Shared}
theorem unchainedM {x1 x0 a : Addr} {o1 o0 : Obj} {vs1 vs0 : Array Value} {Q : Value → Shared → Prop} (h1 : s.heap.get? x1 = some o1) (d1 : o1.data = .fields vs1) (c1 : vs1[2]? = some (.ref x0)) (n01 : x0 ≠ x1) (n0a : x0 ≠ a)
    (h0 : s.heap.get? x0 = some o0) (d0 : o0.data = .fields vs0) (c0 : vs0[2]? = some .none) (q : Q .none s) :
    wpAny (model prog w) A (holding [Value.ref a] (runValue (.builtin "proto.unchain" ⟨[.ref a, .ref x1, .ref x1, .bool false], []⟩))) Q E s := by
  refine wpAny_holding (wpAny_runValue (codeAny_builtin HotX.entry_unchain ?_))
  show wpAny _ _ (field (.ref x1) 2 >>= _) _ _ s
  refine wpAny_bind (wpAny_field h1 d1 c1 ?_)
  rw [if_neg (show ¬ ((Value.ref x0 == Value.none) = true) from by simp)]
  rw [if_neg (show ¬ ((Value.ref x0 == Value.ref a) = true) from by simp [n0a])]
  rw [if_neg (show ¬ ((Value.ref x0 == Value.ref x1) = true) from by simp [n01])]
  have fin : codeAny (model prog w) A (.builtin "proto.unchain" ⟨[.ref a, .ref x0, .ref x1, .bool true], []⟩) (fun r s' => match r with | .ok (.ret v) => Q v s' | .ok _ => False | .error e => E e s') s := by
    refine codeAny_builtin HotX.entry_unchain ?_
    show wpAny _ _ (field (.ref x0) 2 >>= _) _ _ s
    refine wpAny_bind (wpAny_field h0 d0 c0 ?_)
    rw [if_pos (show (Value.none == Value.none) = true from rfl)]
    first
    | exact wpAny_bind (wpAny_pure (wpAny_pure q))
    | exact wpAny_pure q
  first
  | exact wpAny_bind (wpAny_pure (wpAny_pure ⟨Code.quiet_builtin _ (by decide +kernel), fin⟩))
  | exact wpAny_pure ⟨Code.quiet_builtin _ (by decide +kernel), fin⟩
theorem raiseNewM {α : Type} {a x1 x0 : Addr} {oe : Obj} {vs : Array Value} {Q : α → Shared → Prop} (hot : HotAtM A x1 x0 s.heap) (hne : x1 ≠ a) (hn0 : x0 ≠ a) (ha : s.heap.get? a = some oe) (da : oe.data = .fields vs) (hi : 2 < vs.size)
    (hE : E (.ref a) { s with heap := s.heap.update a (Obj.mapFields (·.setIfInBounds 2 (.ref x1))) }) : wpAny (model prog w) A (raiseNew (.ref a) : Sem α) Q E s := by
  obtain ⟨hh, o1, vs1, h1, d1, c⟩ := hot
  rcases c with c | ⟨c, n, o0, vs0, h0, d0, c0⟩
  · exact HotX.raiseNew_hot ⟨hh, o1, vs1, h1, d1, c⟩ hne ha da hi hE
  unfold raiseNew
  refine wpAny_bind (wpAny_handled ?_)
  rw [hh]
  have hb : (Value.ref x1 != Value.ref a) = true := HotX.ref_bne hne
  first
  | (show wpAny _ _ (if (Value.ref x1 != Value.ref a) = true then _ else _) _ _ _
     rw [if_pos hb]
     first
     | exact wpAny_bind (unchainedM h1 d1 c n hn0 h0 d0 c0 (wpAny_bind (HotX.chained ha da hi (wpAny_throw hE))))
     | exact wpAny_bind (wpAny_bind (unchainedM h1 d1 c n hn0 h0 d0 c0 (HotX.chained ha da hi (wpAny_throw hE)))))
  | (refine wpAny_bind ?_
     show wpAny _ _ (if (Value.ref x1 != Value.ref a) = true then _ else _) _ _ _
     rw [if_pos hb]
     exact wpAny_bind (unchainedM h1 d1 c n hn0 h0 d0 c0 (HotX.chained ha da hi (wpAny_throw hE))))
theorem list_endM {it l x1 x0 : Addr} {i : Nat} {items : Array Value} {Q : Option Value → Shared → Prop} (hot : HotAtM A x1 x0 s.heap) (hne : x1 ≠ it) (hn0 : x0 ≠ it) (hl0 : x0 < s.heap.objs.size)
    (hit : s.heap.IsListIter it l i) (hl : s.heap.IsList l items) (hx : items[i]? = none)
    (hQ : ∀ h', Heap.ExtBut it s.heap h' → Q none { s with heap := h' }) : wpAny (model prog w) A (pyNext (.ref it)) Q E s := by
  obtain ⟨o, ho, hc, hd⟩ := id hit
  obtain ⟨ol, hol, _, nl, hdl⟩ := hl
  have hl1 : x1 < s.heap.objs.size := by
    obtain ⟨_, o1, _, h1, _⟩ := id hot
    exact Heap.lt_size h1
  unfold pyNext
  refine wpAny_bind (wpAny_attempt (wpAny_callSpecial?_slot (name := Str.ofString "__next__") hit.typeIs slot_listiter_next
    (wpAny_call_entry slot_listiter_next hit.typeIs entry_listiter_next ?_ (args_listiter_next _))))
  show wpAny _ _ (field (.ref it) 0 >>= _) _ _ s
  refine wpAny_bind (wpAny_field ho hd (x := .ref l) rfl ?_)
  show wpAny _ _ (if (Value.ref l == Value.none) = true then _ else _) _ _ s
  rw [if_neg (show ¬ ((Value.ref l == Value.none) = true) from Bool.false_ne_true)]
  show wpAny _ _ (field (.ref it) 1 >>= _) _ _ s
  refine wpAny_bind (wpAny_field ho hd (x := .int i 0) rfl ?_)
  show wpAny _ _ (seqItems? (.ref l) >>= _) _ _ s
  refine wpAny_bind (wpAny_seqItems hol hdl ?_)
  simp only [Int.toNat_natCast, hx]
  refine wpAny_bind (wpAny_rule (wpAny_bind (wpAny_setField ho hd (by simp) ?_)))
  show wpAny _ _ (newExc (.type "StopIteration") [] >>= _) _ _ _
  refine wpAny_bind ?_
  simp only [newExc, newTuple]
  refine wpAny_bind (wpAny_newObj_type ?_ (by size_fits))
  refine wpAny_bind (m := firstArgMember _ _) (wpAny_of_eq (a := Value.none) (by first | rfl | (simp only [firstArgMember]; rfl)) ?_)
  refine wpAny_newObj_type ?_ (by size_fits)
  have ku : ∀ b, b ≠ it → (s.heap.update it (Obj.mapFields (·.setIfInBounds 0 .none))).get? b = s.heap.get? b := fun b hb => Heap.get?_update_other _ _ (Ne.symm hb)
  have lt2 : ∀ b, b < s.heap.objs.size → b < ((s.heap.update it (Obj.mapFields (·.setIfInBounds 0 .none))).push { cls := .type "tuple", data := .seq ([] : List Value).toArray }).objs.size := fun b hb => by
    rw [Heap.size_push]
    refine Nat.lt_succ_of_lt ?_
    first
    | (rw [Heap.size_update]; exact hb)
    | (rw [Heap.update_size]; exact hb)
    | (simp; exact hb)
  refine raiseNewM (hot.keep (fun o e => Heap.get?_push_of_some _ (Heap.get?_push_of_some _ ((ku x1 hne).trans e))) (fun o e => Heap.get?_push_of_some _ (Heap.get?_push_of_some _ ((ku x0 hn0).trans e)))) (Nat.ne_of_lt (lt2 x1 hl1)) (Nat.ne_of_lt (lt2 x0 hl0)) (Heap.get?_push_size _ rfl) rfl (by first | (simp; done) | (simp; omega) | (simp only [Array.size_append]; simp; omega)) ?_
  refine wpAny_bind (wpAny_isInstance (T := "StopIteration") (b := true) ⟨_, Heap.get?_update_self _ (Heap.get?_push_size _ rfl) rfl, rfl⟩ isSubtype_stop ?_)
  refine wpAny_pure (hQ _ fun b o hb e => ?_)
  have e0 := (ku b hb).trans e
  rw [Heap.get?_update_other _ _ (Nat.ne_of_gt (Heap.lt_size (Heap.get?_push_of_some _ e0)))]
  exact Heap.get?_push_of_some _ (Heap.get?_push_of_some _ e0)
/-- a list walked; x1, x0 stand -/
theorem walks_listM {x1 x0 : Addr} {o1 o0 : Obj} (I ax : Addr) (hne : ax ≠ I) (hx1 : x1 ≠ I) (hx0 : x0 ≠ I) (items : Array Value) :
    Walks prog w A I [I, ax, x1, x0] [I] items.size (fun i v => items[i]? = some v) (fun i h => ((h.IsListIter I ax i ∧ h.IsList ax items) ∧ HotAtM A x1 x0 h) ∧ h.get? x0 = some o0) where
  sub := fun b hb => by simp at hb; simp [hb]
  frame := fun _ _ _ st hk => ⟨⟨⟨st.1.1.1.at fun o e => hk I (by simp) o e, st.1.1.2.at fun o e => hk ax (by simp) o e⟩, st.1.2.keep (fun o e => hk x1 (by simp) o e) fun o e => hk x0 (by simp) o e⟩, hk x0 (by simp) _ st.2⟩
  item := fun i s Q E hi st hQ => by
    refine wpAny_pyNext_list_item st.1.1.1 st.1.1.2 (x := items[i]) (by simp [hi]) fun h' hit' hs' => ?_
    exact hQ _ h' s.toks (by simp [hi]) ⟨⟨⟨hit', st.1.1.2.extBut hs'.extBut hne⟩, st.1.2.keep (fun o e => hs'.extBut x1 o hx1 e) fun o e => hs'.extBut x0 o hx0 e⟩, hs'.extBut x0 _ hx0 st.2⟩ fun b o hb e => hs'.extBut b o (fun h => hb (by simp [h])) e
  done := fun s Q E st hQ => list_endM st.1.2 hx1 hx0 (Heap.lt_size st.2) st.1.1.1 st.1.1.2 (by simp) fun h' he' => hQ h' s.toks fun b o hb e => he' b o (fun h => hb (by simp [h])) e
  self := fun _ _ _ _ st hQ => wpAny_pyIter_listiter st.1.1.1 hQ
end
/-- the context bears the handled exception, and its context -/
def HotCM (X : Cx) : Prop := ∃ (p p0 : Addr × Obj) (vs vs0 : Array Value), X.A.handled = some (.ref p.1) ∧ p ∈ X.pn ∧ p0 ∈ X.pn ∧ p.2.data = .fields vs ∧ (vs[2]? = some .none ∨ vs[2]? = some (.ref p0.1) ∧ p0.1 ≠ p.1 ∧ p0.2.data = .fields vs0 ∧ vs0[2]? = some .none)
theorem HotCM.at {X : Cx} {pins : List (Addr × Obj)} {σ : L2.St} {H : Hp} {s : Shared} (c : HotCM X) (I : Inv X pins σ H s) : ∃ x1 x0 o0, HotAtM X.A x1 x0 s.heap ∧ s.heap.get? x0 = some o0 := by
  obtain ⟨p, p0, vs, vs0, hh, h1, h2, d, c⟩ := c
  have g1 := (I.pin p (List.mem_append_left _ h1)).1
  have g2 := (I.pin p0 (List.mem_append_left _ h2)).1
  refine ⟨p.1, p0.1, p0.2, ⟨hh, p.2, vs, g1, d, ?_⟩, g2⟩
  rcases c with c | ⟨c, n, d0, c0⟩
  · exact .inl c
  · exact .inr ⟨c, n, p0.2, vs0, g2, d0, c0⟩
theorem cr_anyM {X : Cx} {K : PySem.W.Frag} (hK : X.K = K) (hc : HotCM X) : CallR X (.builtin "any") (rAny K) := by
  intro pins s σ H vs us Q I r h
  obtain ⟨a, bs, rfl, hs, q⟩ := h
  subst hK
  obtain ⟨its, rv, hl, _⟩ := I.list hs
  obtain ⟨x1, x0, o0, hot, h0⟩ := hc.at I
  rw [Vals.ref1 r]
  have hb := rv.bls
  refine call_any_walk (iter_any hl.isList fun s₂ e2 st hne => ?_)
  subst e2
  have nx : x1 ≠ s.heap.objs.size := by
    obtain ⟨_, o1, _, h1, _, _⟩ := hot
    exact Nat.ne_of_lt (Heap.lt_size h1)
  have nx0 : x0 ≠ s.heap.objs.size := Nat.ne_of_lt (Heap.lt_size h0)
  refine ⟨_, _, _, _, _, _, _, rfl, walks_listM (A := X.A.in1) (x1 := x1) (x0 := x0) (o0 := o0) (o1 := o0) _ a hne nx nx0 its.toArray, ⟨⟨st, HotAtM.keep (A := X.A.in1) hot (fun o e => Heap.get?_push_of_some _ e) fun o e => Heap.get?_push_of_some _ e⟩, Heap.get?_push_of_some _ h0⟩, truth_bools hb, fun h' tk hk => ?_⟩
  refine ⟨.bl _, H, I.kept fun b o eo => hk b o (fun hmem => ?_) (Heap.get?_push_of_some _ eo), ?_, q⟩
  · rcases List.mem_cons.mp hmem with e1 | hmem
    · exact absurd (e1 ▸ Heap.lt_size eo) (Nat.lt_irrefl _)
    · cases hmem
  · show Value.bool _ = Value.bool _
    rw [← L2.any_range, hb, List.size_toArray, List.length_map]
/-- its context is None, or stands on the ground and has none itself -/
def CtxM (B : Heap) (H : Hp) (o : Obj) : Prop := ∀ vs : Array Value, o.data = .fields vs → vs[2]? = some .none ∨ ∃ (x0 : Addr) (o0 : Obj) (vs0 : Array Value), vs[2]? = some (.ref x0) ∧ B.get? x0 = some o0 ∧ H x0 = none ∧ o0.data = .fields vs0 ∧ vs0[2]? = some .none
theorem steady_ctxM {B : Heap} {H : Hp} : PXN.Steady1 (CtxM B H) := fun o v h => by
  obtain ⟨c, d, dt, sl⟩ := o
  cases dt with
  | fields vs0 =>
    intro vs e
    have e2 : vs0.setIfInBounds 1 v = vs := Data.fields.inj e
    have e3 : (vs0.setIfInBounds 1 v)[2]? = vs0[2]? := by
      first
      | exact Array.getElem?_setIfInBounds_ne (by decide)
      | simp [Array.getElem?_setIfInBounds]
    rw [← e2, e3]
    exact h vs0 rfl
  | _ =>
    intro vs e
    first
    | exact Data.noConfusion e
    | cases e
def Zm (B : Heap) (H : Hp) (cls : Value) (d : Option Addr) : Obj → Prop := fun o => o.cls = cls ∧ o.dict = d ∧ CtxM B H o
theorem Zm.steady {B : Heap} {H : Hp} {cls : Value} {d : Option Addr} : PXN.Steady1 (Zm B H cls d) := fun o v h => ⟨PXN.steady_cls o v h.1, PXN.steady_dict o v h.2.1, steady_ctxM o v h.2.2⟩
theorem Zm.ofN {B : Heap} {H : Hp} {cls : Value} {d : Option Addr} {o : Obj} (h : L2N.Zn cls d o) : Zm B H cls d o := ⟨h.1, h.2.1, fun vs e => .inl (h.2.2 vs e)⟩
theorem sky_imp {B : Heap} {l : List Env} {a L : Addr} {Z Z' : Obj → Prop} {h : Heap} (z : ∀ o, Z o → Z' o) (x : Sky B l a Z L h) : Sky B l a Z' L h := by
  rcases x with ⟨hB, hn, hl, oe, vs, he, hz, hd, h1⟩ | fl | ⟨k1, k2, k3, k4⟩
  · exact .inl ⟨hB, hn, hl, oe, vs, he, z _ hz, hd, h1⟩
  · exact .inr (.inl (L2H.flyingZ_imp z fl))
  · exact .inr (.inr ⟨k1, k2, k3, L2H.tracedZ_imp z k4⟩)
def XEm (X : Cx) (W : WX) (u : Value) (s' : Shared) : Prop :=
  ∃ (a : Addr) (B : Heap) (sI : Shared) (pins : List (Addr × Obj)) (σ : L2.St) (H : Hp) (cls : Value) (d : Option Addr),
    u = .ref a ∧ Inv X pins σ H sI ∧ (∀ b o, sI.heap.get? b = some o → b ∉ frs X.stack → B.get? b = some o) ∧ sI.heap.UpToSlots s'.heap ∧
      Sky B X.stack a (Zm B H cls d) X.env.locals s'.heap ∧ H a = none ∧ s'.os = sI.os ∧ AllBare s'.gens ∧ W cls d σ H
def TakesM (X : Cx) (W : WX) : Prop := ∀ u s', XEm X W u s' → X.xe u s'
theorem TakesM.n {X : Cx} {W : WX} (t : TakesM X W) : L2N.Takes X W := fun u s' ⟨a, B, sI, pins, σ, H, cls, d, e, I, nb, up, sky, r⟩ => t u s' ⟨a, B, sI, pins, σ, H, cls, d, e, I, nb, up, sky_imp (fun _ => Zm.ofN) sky, r⟩
def CXm (P : Program) (w : World) (outer : List Env) (H : Hp) (s : Shared) (E : XK) (u : Value) (s' : Shared) : Prop :=
  ∃ (a : Addr) (B : Heap) (H' : Hp) (cls : Value) (d : Option Addr), u = .ref a ∧ HandSPX.FlyingZ B outer a (Zm B H' cls d) s'.heap ∧ HOk P w H' B ∧ UB (frs outer) H H' s.heap B s'.heap ∧ H' a = none ∧ s'.os = s.os ∧ AllBare s'.gens ∧ E cls d H'
section
variable {X : Cx} {pins : List (Addr × Obj)} {σ : L2.St} {H : Hp} {s s' : Shared} {W : WX} {E : XK}
theorem XEm.of_call (I : Inv X pins σ H s) (hW : ∀ cls d H', E cls d H' → W cls d σ H') {u : Value} (c : CXm X.prog X.w X.stack H s E u s') : XEm X W u s' := by
  obtain ⟨a, B, H', cls, d, rfl, fl, hok, ub, na, os0, ag, hE⟩ := c
  obtain ⟨sI, J, nb, up, os⟩ := call_ground I fl hok ub os0 ag
  exact ⟨a, B, sI, pins, σ, H', cls, d, rfl, J, nb, up, .inr (.inl fl), na, os, ag, hW _ _ _ hE⟩
/-- what a callee that may let such exceptions out asks -/
theorem passM (tk : TakesM X W) (hW : ∀ cls d σ H, E cls d H → W cls d σ H) : Passes (CXm X.prog X.w) X E := fun pins σ H s e s' I c => tk e s' (XEm.of_call I (fun cls d H' h => hW cls d σ H' h) c)
theorem passM0 : Passes (CXm X.prog X.w) X E0 := fun _ _ _ _ _ _ _ c => by
  obtain ⟨_, _, _, _, _, _, _, _, _, _, _, _, z⟩ := c
  exact z.elim
theorem XEm.leave (hs : X.stack = X.env :: X.outer) (hf : X.env.frame = some X.env.locals) (hex : X.ex = []) {E1 : Value → Shared → Prop} (hW : ∀ cls d σ H, W cls d σ H → E cls d H) {u : Value} (x : XEm X W u s') :
    wpAny (model X.prog X.w) X.A (leaving X.env u) (fun _ s2 => CXm X.prog X.w X.outer X.H_0 X.s_0 E u s2) E1 s' := by
  obtain ⟨a, B, sI, pins, σ, H, cls, d, rfl, I, nb, up, sky, na, os, ag, w⟩ := x
  have hfr : X.A.frames = some (X.env :: X.outer) := by rw [I.ok.frames, hs]
  have nst : ∀ b o, X.s_0.heap.get? b = some o → b ∉ X.fs → b ∉ frs X.stack := fun b o e hb hm => by
    rcases List.mem_cons.mp (I.stkSub b hm) with z | z
    · have h1 := Heap.lt_size e
      have h2 := I.ok.above
      rw [z] at h1
      exact absurd (Nat.lt_of_lt_of_le h1 h2) (Nat.lt_irrefl _)
    · exact hb z
  have hex' : ∀ b, b ∉ X.ex := fun b hb => by rw [hex] at hb; cases hb
  have fin : ∀ h', HandSPX.FlyingZ B X.outer a (Zm B H cls d) h' → s'.heap.UpToSlots h' → CXm X.prog X.w X.outer X.H_0 X.s_0 E (.ref a) { s' with heap := h' } := fun h' fl up' => by
    refine ⟨a, B, H, cls, d, rfl, fl, I.inGround nb, ⟨fun b o e n hb => nb b o (I.base.keep b o e n hb (hex' b)) (nst b o e hb), fun b o e hb => ?_, fun b o e n => I.base.free b o e n (hex' b), fun b o e hb => ?_, I.base.tups, I.base.frzs, I.base.tbls⟩,
      na, os.trans I.os, ag, hW _ _ _ _ w⟩
    · obtain ⟨_, o2, e2, hnf⟩ := I.ok.funs.mem hb
      rw [e] at e2; cases e2
      obtain ⟨sl, e1⟩ := I.base.slot b o e (I.ok.frf b hb) hb (hex' b)
      obtain ⟨sl2, e2⟩ := up b _ e1 hnf
      obtain ⟨sl3, e3⟩ := up' b _ e2 hnf
      exact ⟨sl3, e3⟩
    · obtain ⟨o', e1⟩ := I.base.there b o e (hex' b)
      exact ⟨o', nb b o' e1 (nst b o e hb)⟩
  rw [hs] at sky
  rcases sky with ⟨hB, hn, hl, oe, vs, he, hz, hd, h1⟩ | fl | hd
  · exact PXN.leaving_firstZ Zm.steady hfr hl hf he hB hn hd h1 hz fin
  · exact PXN.leaves_onZ Zm.steady hfr hf fl fin
  · exact HandSPX.leaves_heldZ hf hd fin
theorem takesM_of (hs : X.stack = X.env :: X.outer) (hf : X.env.frame = some X.env.locals) (hex : X.ex = []) {E1 : Value → Shared → Prop}
    (hx : X.xe = fun e s' => wpAny (model X.prog X.w) X.A (leaving X.env e) (fun _ s2 => CXm X.prog X.w X.outer X.H_0 X.s_0 E e s2) E1 s') : TakesM X (fun cls d _ H => E cls d H) := fun u s' x => by
  rw [hx]
  exact XEm.leave (W := fun cls d _ H => E cls d H) (E := E) hs hf hex (fun _ _ _ _ h => h) x
end
/-- raise where an exception is handled whose context is None -/
theorem ps_raiseM {X : Cx} {W : WX} {e : Expr} {t : L2.St → Hp → XK → Prop} {pos : PySem.Pos} (hc : L2H.HotC X) (tk : TakesM X W) (he : L2N.PMk X e t) : PS X (.Raise (some e) none pos) (fun _ σ H => t σ H fun cls d H' => W cls d σ H') := by
  refine ⟨fun pins s σ H D I h => ?_⟩
  obtain ⟨p, ⟨hh, v1, e1, c1⟩, hp⟩ := hc
  show wpAny _ _ (do standAt pos; raiseStmt X.env (some (do let v ← eval e X.env; standAt pos; pure v)) none) _ _ _
  refine wpAny_bind (wpAny_standAt (HotX.raise_made_hot (x1 := p.1) (wpAny_bind (wpAny_mono (he pins s σ H _ I h) (fun u s1 hu => wpAny_bind (wpAny_standAt (wpAny_pure ?_))) fun _ _ x => x))))
  obtain ⟨a, oe, vs, sI, H', cls, d, rfl, J, k, hne, ha, hz, hd, h1, na, os, ag, r, q⟩ := hu
  obtain ⟨r1, r2⟩ := r (model X.prog X.w) s1.heap (J.kIn.keeps k)
  obtain ⟨P1, P2, P3, P4, _⟩ := J.pin p (List.mem_append_left _ hp)
  have nap : p.1 ≠ a := fun z => by
    rw [z, hne] at P1
    cases P1
  have hi : 2 < vs.size := (Array.getElem?_eq_some_iff.mp (hz.2.2 vs hd)).1
  have h1' : (vs.setIfInBounds 2 (Value.ref p.1))[1]? = some Value.none := by
    have e3 : (vs.setIfInBounds 2 (Value.ref p.1))[1]? = vs[1]? := by
      first
      | exact Array.getElem?_setIfInBounds_ne (by decide)
      | simp [Array.getElem?_setIfInBounds]
    rw [e3]
    exact h1
  have h2' : (vs.setIfInBounds 2 (Value.ref p.1))[2]? = some (.ref p.1) := by
    first
    | (simp [Array.getElem?_setIfInBounds, hi]; done)
    | simp [hi]
  have k' : ∀ b o, sI.heap.get? b = some o → (s1.heap.update a (Obj.mapFields (·.setIfInBounds 2 (.ref p.1)))).get? b = some o := fun b o z => by
    rw [Heap.get?_update_other _ _ (fun y => by rw [← y, hne] at z; cases z)]
    exact k b o z
  have hd' : (oe.mapFields (·.setIfInBounds 2 (.ref p.1))).data = .fields (vs.setIfInBounds 2 (Value.ref p.1)) := Obj.data_mapFields hd _
  refine ⟨a, oe, vs, cls, rfl, ha, hz.1, hd, h1, hi, nap, ⟨hh, p.2, v1, k _ _ P1, e1, c1⟩, r1, r2, tk _ _ ?_⟩
  refine ⟨a, PySem.W.hideAll sI.heap (frs X.stack), sI, pins, σ, H', cls, d, rfl, J, fun b o e hb => PySem.W.hideAll_get _ e hb, Heap.UpToSlots.of_keeps k',
    .inl ⟨fun b o e => k' b o (PySem.W.of_hideAll _ e), ?_, Heap.FunFrames.of_keeps (fun b o e _ => ⟨o, k' b o e, rfl⟩) (funFrames_none J.stack fun b hb => PySem.W.hideAll_none _ hb), _, _, Heap.get?_update_self _ ha (Obj.isFreed_of_fields hd'), ⟨(Obj.cls_mapFields ..).trans hz.1, (HandSPX.dict_mapFields ..).trans hz.2.1, fun vs2 e2 => ?_⟩, hd', h1'⟩, na, os, ag, q⟩
  · cases q : (PySem.W.hideAll sI.heap (frs X.stack)).get? a with
    | none => rfl
    | some o =>
      have z := PySem.W.of_hideAll _ q
      rw [hne] at z; cases z
  · rw [hd'] at e2
    cases e2
    exact .inr ⟨p.1, p.2, v1, h2', PySem.W.hideAll_get _ P1 (fun hm => (List.mem_cons.mp (J.stkSub p.1 hm)).elim P3 P4), P2, e1, c1⟩
/-! ### a clause of two classes whose suite may raise -/
theorem flying_push {B h : Heap} {l : List Env} {a : Addr} {Z : Obj → Prop} {o : Obj} (x : HandSPX.FlyingZ B l a Z h) : HandSPX.FlyingZ B l a Z (h.push o) := by
  obtain ⟨k1, k2, k3, oe, vs, T, oT, ts, hea, hz, hd, hv1, hnT, hTe, hT, hdT, hv3⟩ := x
  exact ⟨fun b u e => Heap.get?_push_of_some _ (k1 b u e), k2, k3.of_keeps fun b u e _ => ⟨u, Heap.get?_push_of_some _ e, rfl⟩, oe, vs, T, oT, ts, Heap.get?_push_of_some _ hea, hz, hd, hv1, hnT, hTe, Heap.get?_push_of_some _ hT, hdT, hv3⟩
def wTwo (K : PySem.W.Frag) (c1 c2 : Value) (ts : Addr → Value → Option Addr → TS) (D : Ends) : WX := fun cls d σ H => PySem.W.exmAny K cls [c1, c2] = some true ∧ ∀ a, H a = none → ts a cls d D σ H
section
variable {X : Cx} {x1 x2 : Str} {c1 c2 : Value} {body suite : List Stmt} {b0 : Stmt} {p1 p2 tpos pos pos' : PySem.Pos} {kk : Nat} {tb : WX → TS} {ts : Addr → Value → Option Addr → TS} {Wout : WX}
theorem ps_try_two (hs : X.stack = X.env :: X.outer) (hf : X.env.frame = some X.env.locals) (hc1 : Names X x1 c1) (hc2 : Names X x2 c2) (hpa : ∀ hd : Option Value, PassesOwnAt (model X.prog X.w) (X.A.mark hd) X.A X.env X.xe) (tk : TakesM X Wout)
    (hb : ∀ (W : WX) (pn : List (Addr × Obj)) (xe : Value → Shared → Prop), L2N.Takes (X.tr pn xe) W → PassesOwn (model X.prog X.w) X.A X.env xe → PSs (X.tr pn xe) body (tb W))
    (hsu : ∀ (a : Addr) (oe : Obj) (cls : Value) (d : Option Addr) (pn : List (Addr × Obj)), L2N.Zn cls d oe → (∃ vs, oe.data = .fields vs) → TakesM (L2H.suiteX X a ((a, oe) :: pn)) Wout → L2H.HotC (L2H.suiteX X a ((a, oe) :: pn)) →
      PSs (L2H.suiteX X a ((a, oe) :: pn)) (b0 :: suite) (ts a cls d))
    (he2 : starEach [.Name x1 p1, .Name x2 p2] X.env = (false, eval (.Name x1 p1) X.env) :: starEach [.Name x2 p2] X.env := by rfl) (he1 : starEach [.Name x2 p2] X.env = (false, eval (.Name x2 p2) X.env) :: starEach [] X.env := by rfl) :
    PS X (.Try body [.ExceptHandler (some (.Tuple [.Name x1 p1, .Name x2 p2] kk tpos)) none (b0 :: suite) pos'] [] [] pos) (fun D σ H => tb (wTwo X.K c1 c2 ts D) D σ H) := by
  refine ⟨fun pins s σ H D I h => ?_⟩
  have ok := I.ok
  have hfr : X.A.frames = some (X.env :: X.outer) := by rw [ok.frames, hs]
  refine wpAny_Try_except ?_
  refine wpAny_mono ((hb (wTwo X.K c1 c2 ts D) (X.pn ++ pins) (fun e s1 => wpAny (model X.prog X.w) X.A (noteFrame e X.env) (fun _ s2 => wpAny (model X.prog X.w) X.A (setFlight e none) (fun _ s3 =>
    wpAny (model X.prog X.w) X.A (handleBy e X.env [.ExceptHandler (some (.Tuple [.Name x1 p1, .Name x2 p2] kk tpos)) none (b0 :: suite) pos']) (SP X pins D) X.xe s3) X.xe s2) X.xe s1) (fun u s' xx => ?_) PassesOwn.looking).run [] s σ H D (I.toTry _) h) (fun f s1 hsp => ?_) (fun e s1 he => he)
  · obtain ⟨a, B, sI, pins', σ', H', cls, d, rfl, J', nb, up, sky, na, os, ag, hb1, hyes⟩ := xx
    have J : Inv X pins σ' H' sI := J'.ofTry ok
    have sky' : Sky B (X.env :: X.outer) a (L2N.Zn cls d) X.env.locals s'.heap := by rw [← hs]; exact sky
    show wpAny (model X.prog X.w) X.A (noteFrame (.ref a) X.env) _ _ _
    refine L2N.Sky.land L2N.Zn.steady hfr hf sky' fun h3 fl3 up3 => ?_
    have J3 : Inv X pins σ' H' { s' with heap := h3 } := J.landed nb fl3.1 (up.trans up3) os ag
    obtain ⟨oe3, vs3, he3, hz3, hd3⟩ := fl3.there
    have nfr : a ∉ frs (X.env :: X.outer) := fun hm => by
      obtain ⟨_, o', e', hnf⟩ := fl3.2.2.1.mem hm
      rw [he3] at e'; cases e'
      exact hnf _ hd3
    have nL : a ≠ X.env.locals := fun z => nfr (List.mem_filterMap.mpr ⟨X.env, List.mem_cons_self, by rw [hf, z]⟩)
    have nF : a ∉ X.fs := fun hm => by
      obtain ⟨e, he, q⟩ := List.mem_filterMap.mp hm
      exact nfr (List.mem_filterMap.mpr ⟨e, List.mem_cons_of_mem _ he, q⟩)
    have S3 := J3.suite he3 hd3 na nL nF
    refine wpAny_handleBy_cons (codeAny_handlers_test ?_) (by intro q; cases q)
    have LT : PySem.W.Looks (model X.prog X.w) h3 (typeOf (.ref a)) cls := fun A Q E s k q => wpAny_typeOf_ref (k _ _ he3) (by rw [hz3.1]; exact q)
    have test : ∀ {x : Str} {c : Value} {np : PySem.Pos} (_ : Names X x c) {Q : Value → Shared → Prop} {E : Value → Shared → Prop}, Q c { s' with heap := h3 } → wpAny (model X.prog X.w) (X.A.mark (some (.ref a))) (eval (.Name x np) X.env) Q E { s' with heap := h3 } := fun {x c np} hc {Q E} q => by
      obtain ⟨hg, hdbg, hm | ⟨hm, hv, hnn⟩⟩ := hc
      · exact ld_glob (X := X.suite a ((a, oe3) :: (X.pn ++ pins))) S3 hg hm q hdbg
      · exact ld_blt (X := X.suite a ((a, oe3) :: (X.pn ++ pins))) S3 hg hm hv q hnn hdbg
    refine Tuple_ (spliced_more (test hc1 (spliced_more (test hc2 (spliced_none ?_)) he1)) he2)
    refine wpAny_newObj_type ?_ (by first | decide | (show 2 ≤ sizeLine; decide))
    have fl5 := flying_push (o := { cls := .type "tuple", data := .seq [c1, c2].toArray }) fl3
    have up5 : s'.heap.UpToSlots (h3.push { cls := .type "tuple", data := .seq [c1, c2].toArray }) := fun b o e hnf => by
      obtain ⟨sl, q⟩ := up3 b o e hnf
      exact ⟨sl, Heap.get?_push_of_some _ q⟩
    have KI : X.K.In (h3.push { cls := .type "tuple", data := .seq [c1, c2].toArray }) := J3.kIn.keeps fun b o e => Heap.get?_push_of_some _ e
    refine (PySem.W.exm_tup2 (M := model X.prog X.w) KI (LT.keeps fun b o e => Heap.get?_push_of_some _ e) (Heap.get?_push_size _ rfl) hb1).here ?_
    refine codeAny_handlers_suite ?_
    refine HandSPX.lands_againZ fl5 fun h4 fl4 up4 => ?_
    have J4 : Inv X pins σ' H' { s' with heap := h4 } := J.landed nb fl4.1 ((up.trans up5).trans up4) os ag
    obtain ⟨oe4, vs4, he4, hz4, hd4⟩ := fl4.there
    have S4 := J4.suite he4 hd4 na nL nF
    have tkS : TakesM (L2H.suiteX X a ((a, oe4) :: (X.pn ++ pins))) Wout := fun u2 s2 x2 => by
      obtain ⟨a2, B2, sI2, pn2, σ2, H2, cls2, d2, e2, I2, nb2, up2, sky2, na2, os2, ag2, w2⟩ := x2
      exact tk u2 s2 ⟨a2, B2, sI2, pins, σ2, H2, cls2, d2, e2, L2H.unsuiteX I2 ok, nb2, up2, sky2, na2, os2, ag2, w2⟩
    have hot : L2H.HotC (L2H.suiteX X a ((a, oe4) :: (X.pn ++ pins))) := ⟨(a, oe4), ⟨rfl, vs4, hd4, hz4.2.2 vs4 hd4⟩, List.mem_cons_self⟩
    refine wpAny_mono ((hsu a oe4 cls d (X.pn ++ pins) hz4 ⟨_, hd4⟩ tkS hot).run [] _ _ H' _ (L2H.suiteX_of S4) (hyes a na)) (fun f s6 hsp => ?_) (fun e6 s6 z => hpa (some (.ref a)) e6 s6 z)
    cases f with
    | next =>
      obtain ⟨σ6, H6, S6, q6⟩ := hsp
      exact ⟨_, _, L2H.unsuiteX S6 ok, q6⟩
    | brk =>
      obtain ⟨σ6, H6, S6, q6⟩ := hsp
      exact ⟨_, _, L2H.unsuiteX S6 ok, q6⟩
    | cont =>
      obtain ⟨σ6, H6, S6, q6⟩ := hsp
      exact ⟨_, _, L2H.unsuiteX S6 ok, q6⟩
    | ret u =>
      obtain ⟨v6, σ6, H6, S6, r6, q6⟩ := hsp
      exact ⟨_, _, _, L2H.unsuiteX S6 ok, r6, q6⟩
  · cases f with
    | next =>
      obtain ⟨σ', H', J', q⟩ := hsp
      exact wpAny_execs_nil ⟨σ', H', J'.ofTry ok, q⟩
    | brk =>
      obtain ⟨σ', H', J', q⟩ := hsp
      exact ⟨σ', H', J'.ofTry ok, q⟩
    | cont =>
      obtain ⟨σ', H', J', q⟩ := hsp
      exact ⟨σ', H', J'.ofTry ok, q⟩
    | ret u =>
      obtain ⟨v, σ', H', J', r, q⟩ := hsp
      exact ⟨v, σ', H', J'.ofTry ok, r, q⟩
end
/-! ### try .. except C as e, the exception's context None or one of its own kind -/
theorem Inv.unpinR {X : Cx} {pins pn : List (Addr × Obj)} {σ : L2.St} {H : Hp} {s : Shared} (I : Inv X (pins ++ pn) σ H s) : Inv X pins σ H s :=
  ⟨I.ok, I.os, I.bare, I.base, I.loc, I.cell, I.free, I.freeC, fun p hp => I.pin p (by
    rw [← List.append_assoc]
    exact List.mem_append_left _ hp), I.hok, I.len⟩
theorem Inv.pinR {X : Cx} {pins : List (Addr × Obj)} {σ : L2.St} {H : Hp} {s : Shared} {p : Addr × Obj} (I : Inv X pins σ H s) (h : s.heap.get? p.1 = some p.2 ∧ H p.1 = none ∧ p.1 ≠ X.env.locals ∧ p.1 ∉ X.fs ∧ ∀ v, p.2.data ≠ .cell v) : Inv X (pins ++ [p]) σ H s :=
  ⟨I.ok, I.os, I.bare, I.base, I.loc, I.cell, I.free, I.freeC, fun q hq => (by
    rw [← List.append_assoc] at hq
    rcases List.mem_append.mp hq with hq | hq
    · exact I.pin q hq
    · have e : q = p := by simpa using hq
      rw [e]
      exact h), I.hok, I.len⟩
def wAsM (K : PySem.W.Frag) (c : Value) (i : Nat) (ts : Addr → Value → Option Addr → TS) (D : Ends) : WX := wAs K c i ts (fun _ _ _ _ => False) D
section
variable {X : Cx} {x n : Str} {c : Value} {i : Nat} {body suite : List Stmt} {b0 : Stmt} {np pos pos' : PySem.Pos} {tb : WX → TS} {ts : Addr → Value → Option Addr → TS}
theorem ps_try_asM (hs : X.stack = X.env :: X.outer) (hf : X.env.frame = some X.env.locals) (hN : X.N.Nodup) (hi : X.N[i]? = some n) (hln : X.env.kindOf n = some .local) (hc : Names X x c)
    (hb : ∀ (W : WX) (pn : List (Addr × Obj)) (xe : Value → Shared → Prop), TakesM (X.tr pn xe) W → PassesOwn (model X.prog X.w) X.A X.env xe → PSs (X.tr pn xe) body (tb W))
    (hsu : ∀ (a : Addr) (oe : Obj) (cls : Value) (d : Option Addr) (pn : List (Addr × Obj)), Zc cls d oe → (∃ vs, oe.data = .fields vs) → HotCM (X.suite a ((a, oe) :: pn)) → PSs (X.suite a ((a, oe) :: pn)) (b0 :: suite) (ts a cls d)) :
    PS X (.Try body [.ExceptHandler (some (.Name x np)) (some n) (b0 :: suite) pos'] [] [] pos) (fun D σ H => tb (wAsM X.K c i ts D) D σ H) := by
  refine ⟨fun pins s σ H D I h => ?_⟩
  have ok := I.ok
  have hfr : X.A.frames = some (X.env :: X.outer) := by rw [ok.frames, hs]
  have hloc : Loc X.env.scope n := .inl hln
  refine wpAny_Try_except ?_
  refine wpAny_mono ((hb (wAsM X.K c i ts D) (X.pn ++ pins) (fun e s1 => wpAny (model X.prog X.w) X.A (noteFrame e X.env) (fun _ s2 => wpAny (model X.prog X.w) X.A (setFlight e none) (fun _ s3 =>
    wpAny (model X.prog X.w) X.A (handleBy e X.env [.ExceptHandler (some (.Name x np)) (some n) (b0 :: suite) pos']) (SP X pins D) X.xe s3) X.xe s2) X.xe s1) (fun u s' xx => ?_) PassesOwn.looking).run [] s σ H D (I.toTry _) h) (fun f s1 hsp => ?_) (fun e s1 he => he)
  · obtain ⟨a, B, sI, pins', σ', H', cls, d, rfl, J', nb, up, sky, na, os, ag, b, hb1, hyes, hno⟩ := xx
    have J : Inv X pins σ' H' sI := J'.ofTry ok
    have sky' : Sky B (X.env :: X.outer) a (Zm B H' cls d) X.env.locals s'.heap := by rw [← hs]; exact sky
    show wpAny (model X.prog X.w) X.A (noteFrame (.ref a) X.env) _ _ _
    refine L2N.Sky.land Zm.steady hfr hf sky' fun h3 fl3 up3 => ?_
    have J3 : Inv X pins σ' H' { s' with heap := h3 } := J.landed nb fl3.1 (up.trans up3) os ag
    obtain ⟨oe3, vs3, he3, hz3, hd3⟩ := fl3.there
    have nfr : a ∉ frs (X.env :: X.outer) := fun hm => by
      obtain ⟨_, o', e', hnf⟩ := fl3.2.2.1.mem hm
      rw [he3] at e'; cases e'
      exact hnf _ hd3
    have inFr : ∀ {y : Addr}, y ∉ frs (X.env :: X.outer) → y ≠ X.env.locals ∧ y ∉ X.fs := fun {y} h => ⟨fun z => h (List.mem_filterMap.mpr ⟨X.env, List.mem_cons_self, by rw [hf, z]⟩), fun hm => by
      obtain ⟨e, he, q⟩ := List.mem_filterMap.mp hm
      exact h (List.mem_filterMap.mpr ⟨e, List.mem_cons_of_mem _ he, q⟩)⟩
    obtain ⟨nL, nF⟩ := inFr nfr
    have S3 := J3.suite he3 hd3 na nL nF
    refine wpAny_handleBy_cons (codeAny_handlers_test ?_) (by intro q; cases q)
    have LT : PySem.W.Looks (model X.prog X.w) h3 (typeOf (.ref a)) cls := fun A Q E s k q => wpAny_typeOf_ref (k _ _ he3) (by rw [hz3.1]; exact q)
    have LM := PySem.W.exm_one (M := model X.prog X.w) (J3.kIn) LT hb1
    have test : ∀ {Q : Value → Shared → Prop} {E : Value → Shared → Prop}, Q c { s' with heap := h3 } → wpAny (model X.prog X.w) (X.A.mark (some (.ref a))) (eval (.Name x np) X.env) Q E { s' with heap := h3 } := fun {Q E} q => by
      obtain ⟨hg, hdbg, hm | ⟨hm, hv, hnn⟩⟩ := hc
      · exact ld_glob (X := X.suite a ((a, oe3) :: (X.pn ++ pins))) S3 hg hm q hdbg
      · exact ld_blt (X := X.suite a ((a, oe3) :: (X.pn ++ pins))) S3 hg hm hv q hnn hdbg
    refine test (LM.here ?_)
    cases b with
    | false => exact (hno rfl).elim
    | true =>
      refine codeAny_handlers_suite_as ?_
      refine HandSPX.lands_againZ fl3 fun h4 fl4 up4 => ?_
      have J4 : Inv X pins σ' H' { s' with heap := h4 } := J.landed nb fl4.1 ((up.trans up3).trans up4) os ag
      obtain ⟨oe4, vs4, he4, hz4, hd4⟩ := fl4.there
      obtain ⟨pn, J5, hot⟩ : ∃ pn : List (Addr × Obj), Inv X (pins ++ pn) σ' H' { s' with heap := h4 } ∧ HotCM (X.suite a ((a, oe4) :: (X.pn ++ (pins ++ pn)))) := by
        rcases hz4.2.2 vs4 hd4 with hn | ⟨x0, o0, vs0, hx, hB, hH, hd0, hn0⟩
        · exact ⟨[], (by rw [List.append_nil]; exact J4), (a, oe4), (a, oe4), vs4, vs4, rfl, List.mem_cons_self, List.mem_cons_self, hd4, .inl hn⟩
        · have nfr0 : x0 ∉ frs (X.env :: X.outer) := fun hm => by
            have z := (fl4.2.2.1.mem hm).1
            rw [hB] at z; cases z
          obtain ⟨nL0, nF0⟩ := inFr nfr0
          have n0a : x0 ≠ a := fun z => by
            have k2 := fl4.2.1
            rw [← z, hB] at k2; cases k2
          exact ⟨[(x0, o0)], Inv.pinR J4 ⟨fl4.1 _ _ hB, hH, nL0, nF0, fun v z => by
            have z' : o0.data = .cell v := z
            rw [hd0] at z'; cases z'⟩, (a, oe4), (x0, o0), vs4, vs0, rfl, List.mem_cons_self, List.mem_cons_of_mem _ (List.mem_append_right _ (List.mem_append_right _ List.mem_cons_self)), hd4, .inr ⟨hx, n0a, hd0, hn0⟩⟩
      have S4 := J5.suite he4 hd4 na nL nF
      refine store_ok (X := X.suite a ((a, oe4) :: (X.pn ++ (pins ++ pn)))) (v := .ref a) S4 hN hi hloc rfl (fun s5 S5 => ?_) (.inr hln)
      refine wpAny_mono ((hsu a oe4 cls d (X.pn ++ (pins ++ pn)) ⟨hz4.1, hz4.2.1⟩ ⟨_, hd4⟩ hot).run [] s5 _ H' _ S5 (hyes rfl a na)) (fun f s6 hsp => ?_) (fun _ _ z => False.elim z)
      have end_ : ∀ {σ6 : L2.St} {H6 : Hp} {Q : Shared → Prop}, Inv (X.suite a ((a, oe4) :: (X.pn ++ (pins ++ pn)))) [] σ6 H6 s6 → (∀ s7, Inv X pins (σ6.set i none) H6 s7 → Q s7) →
          wpAny (model X.prog X.w) X.A (do bindName X.env n .none; unbindBehindTheSuite X.env n pos') (fun _ s7 => Q s7) X.xe s6 := fun {σ6 H6 Q} S6 hq => gone_ok (Inv.unpinR (pn := pn) (S6.unsuite ok)) hN hi hln hq
      cases f with
      | next =>
        obtain ⟨σ6, H6, S6, q6⟩ := hsp
        exact end_ S6 fun s7 J7 => ⟨_, _, J7, q6⟩
      | brk =>
        obtain ⟨σ6, H6, S6, q6⟩ := hsp
        exact end_ S6 fun s7 J7 => ⟨_, _, J7, q6⟩
      | cont =>
        obtain ⟨σ6, H6, S6, q6⟩ := hsp
        exact end_ S6 fun s7 J7 => ⟨_, _, J7, q6⟩
      | ret u =>
        obtain ⟨v6, σ6, H6, S6, r6, q6⟩ := hsp
        exact end_ S6 fun s7 J7 => ⟨_, _, _, J7, r6, q6⟩
  · cases f with
    | next =>
      obtain ⟨σ', H', J', q⟩ := hsp
      exact wpAny_execs_nil ⟨σ', H', J'.ofTry ok, q⟩
    | brk =>
      obtain ⟨σ', H', J', q⟩ := hsp
      exact ⟨σ', H', J'.ofTry ok, q⟩
    | cont =>
      obtain ⟨σ', H', J', q⟩ := hsp
      exact ⟨σ', H', J'.ofTry ok, q⟩
    | ret u =>
      obtain ⟨v, σ', H', J', r, q⟩ := hsp
      exact ⟨v, σ', H', J'.ofTry ok, r, q⟩
end
/-! ### a def that may let such exceptions out -/
section
variable {P : Program} {w : World} {K : PySem.W.Frag} {mg : Str → Option Value} {base : Heap}
theorem clM {x : Str} {st : Stmt} {N ps : List Str} {k : Nat} {sp : Sp} (D : Df K mg x ps st) (S : FnScope N ps (defScope st)) (len : ∀ vs H Q E, sp vs H Q E → vs.length = ps.length)
    (hbody : ∀ (f : Addr) (cdv : Value) (A : Around) (outer : List Env) (s : Shared) (H : Hp) (vs : List V) (Q : VK) (E : XK), Room k (A.deeper (envOfC x (defScope st) s.heap.objs.size f cdv)) → sp vs H Q E →
      ∃ t, PSs (cxOf (CXm P w) P w K mg base N x (defScope st) f cdv A outer s H E) (defBody st) t ∧ t { nx := fun _ H' => Q .non H', rt := Q } (start N vs) H) : Cl P w K mg base (CXm P w) (k + 1) x ps sp := by
  obtain ⟨f, fd, F, m, b⟩ := D.ex
  obtain ⟨oc, od, kV, doc, pm, an, cdv, ct, osl, rfl, lk, hcd⟩ := F.ex
  exact ⟨f, _, fn_of lk hcd S len fun A outer s H vs Q E hr hsp => hbody f cdv A outer s H vs Q E hr hsp, m, F.kp, b⟩
end
theorem passAtM {X : Cx} {W : WX} (tk : TakesM X W) (σ : L2.St) : PassesAt (CXm X.prog X.w) X σ (WE W σ) := fun _ _ _ e s' I c => tk e s' (XEm.of_call I (fun _ _ _ h => h) c)
/-- xs.append(..) in any context -/
theorem pe_lapp {X : Cx} {K : PySem.W.Frag} {o e : Expr} {es : List Expr} {to : TE} {t : TA} {apos cpos : PySem.Pos} (eK : X.K = K) (ho : PE X o to) (ha : PA X (e :: es) t)
    (hbase : attributeBase o "append" X.env (eval o X.env) = eval o X.env := by rfl)
    (hfew : ((backTo cpos (starEach (e :: es) X.env)).all (fun x => !x.1) && (backToKw cpos (keywordEach [] X.env)).all (fun x => x.1.isSome)
      && decide ((e :: es).length + ([] : List Keyword).length + (if ([] : List Keyword).isEmpty then 0 else 1) < 30)) = true := by rfl)
    (hline : (apos.endLine == cpos.line) = true := by rfl) (hs : starEach (e :: es) X.env = (false, eval e X.env) :: starEach es X.env := by rfl) (hplain : (backTo cpos (starEach es X.env)).any (·.1) = false := by rfl) :
    PE X (.Call (.Attribute o "append" apos) (e :: es) [] cpos) (tBM K "list" rAppend to t) :=
  eK ▸ pe_bm PySem.F.plainAttrs_list PySem.F.slot_list_append PySem.F.type_list_append mt_append ho ha hbase hfew hline hs hplain
section
open TL
theorem pre1 (s c : Nat) (r : List Nat) : pre [s] (c :: r) = decide (c = s) := by
  unfold pre
  by_cases h : c = s
  · subst h
    simp
  · rw [decide_eq_false h]
    simp [h]
theorem spl1 (s c : Nat) (acc r : List Nat) : spl [s] 0 acc (c :: r) = if c = s then acc :: spl [s] 0 [] r else spl [s] 0 (acc ++ [c]) r := by
  by_cases h : c = s
  · rw [if_pos h, spl_hit (by rw [pre1, decide_eq_true h])]
    rfl
  · rw [if_neg h, spl_miss (by rw [pre1, decide_eq_false h])]
theorem par1 (s c : Nat) (acc r : List Nat) : par [s] acc (c :: r) = if c = s then some (acc, r) else par [s] (acc ++ [c]) r := by
  by_cases h : c = s
  · rw [if_pos h, par_hit (by rw [pre1, decide_eq_true h])]
    rfl
  · rw [if_neg h, par_miss (by rw [pre1, decide_eq_false h])]
theorem spl_ne (s : Nat) : ∀ (l acc : List Nat), ∃ p ps, spl [s] 0 acc l = p :: ps
  | [], acc => ⟨acc, [], spl_nil ..⟩
  | c :: r, acc => by
    rw [spl1]
    split
    · exact ⟨_, _, rfl⟩
    · exact spl_ne s r _
theorem join_spl (s : Nat) : ∀ (l acc : List Nat), joinL [s] (spl [s] 0 acc l) = acc ++ l
  | [], acc => by
    rw [spl_nil, List.append_nil]
    rfl
  | c :: r, acc => by
    rw [spl1]
    split
    · rename_i h
      obtain ⟨p, ps, e⟩ := spl_ne s r []
      have ih := join_spl s r []
      rw [e] at ih ⊢
      show acc ++ ([s] ++ joinL [s] (p :: ps)) = _
      rw [ih, h]
      rfl
    · rw [join_spl s r, List.append_assoc]
      rfl
theorem spl_len (s : Nat) : ∀ (l acc : List Nat), (spl [s] 0 acc l).length = l.count s + 1
  | [], acc => by rw [spl_nil]; rfl
  | c :: r, acc => by
    rw [spl1]
    by_cases h : c = s
    · rw [if_pos h, List.length_cons, spl_len s r, h, List.count_cons_self]
    · rw [if_neg h, spl_len s r, List.count_cons_of_ne h]
theorem spl_piece (s : Nat) : ∀ (l acc : List Nat), ∀ p ∈ spl [s] 0 acc l, p.length ≤ acc.length + l.length
  | [], acc, p, hp => by
    rw [spl_nil] at hp
    rcases List.mem_cons.mp hp with rfl | hp
    · omega
    · cases hp
  | c :: r, acc, p, hp => by
    rw [spl1] at hp
    by_cases h : c = s
    · rw [if_pos h] at hp
      rcases List.mem_cons.mp hp with rfl | hp
      · omega
      · have := spl_piece s r [] p hp
        rw [List.length_cons]
        simp at this
        omega
    · rw [if_neg h] at hp
      have := spl_piece s r _ p hp
      rw [List.length_append] at this
      rw [List.length_cons]
      simp at this
      omega
theorem mem_join {s c : Nat} (h : c ≠ s) : ∀ {ps : List (List Nat)}, c ∈ joinL [s] ps → ∃ p ∈ ps, c ∈ p
  | [], hc => by cases hc
  | [p], hc => ⟨p, List.mem_cons_self, hc⟩
  | p :: q :: r, hc => by
    have hc' : c ∈ p ++ ([s] ++ joinL [s] (q :: r)) := hc
    rcases List.mem_append.mp hc' with hc' | hc'
    · exact ⟨p, List.mem_cons_self, hc'⟩
    · rcases List.mem_append.mp hc' with hc' | hc'
      · exact absurd (List.mem_singleton.mp hc') h
      · obtain ⟨z, hz, hz'⟩ := mem_join h hc'
        exact ⟨z, List.mem_cons_of_mem _ hz, hz'⟩
/-- a text with s in it, cut at the first one -/
theorem first_of {s : Nat} : ∀ {l : List Nat}, s ∈ l → ∃ a b, l = a ++ s :: b ∧ s ∉ a
  | c :: r, h => by
    by_cases e : c = s
    · exact ⟨[], r, by rw [e]; rfl, by simp⟩
    · rcases List.mem_cons.mp h with h | h
      · exact absurd h.symm e
      · obtain ⟨a, b, e1, h1⟩ := first_of h
        exact ⟨c :: a, b, by rw [e1]; rfl, fun hm => (List.mem_cons.mp hm).elim (fun z => e z.symm) h1⟩
theorem par_at1 {s : Nat} {a b : List Nat} (h : s ∉ a) : par [s] [] (a ++ s :: b) = some (a, b) := by
  have := par_part1 (s := s) (S := []) (p := a) (rest := b) (acc := []) h
  rw [List.nil_append] at this
  exact this
theorem spl_at2 {s : Nat} {a b : List Nat} (ha : s ∉ a) (hb : s ∉ b) : spl [s] 0 [] (a ++ s :: b) = [a, b] := by
  have := spl_part1 (s := s) (S := []) (p := a) (rest := b) (acc := []) ha
  rw [List.nil_append] at this
  refine this.trans ?_
  rw [spl_last1 hb, List.nil_append]
/-! ### numbers -/
def isD (c : Nat) : Bool := decide (48 ≤ c) && decide (c ≤ 57)
def goodW (l : List Nat) : Bool := !decide (l = []) && (decide (l.length ≤ 60) && (l.all isD && !(decide (l.head? = some 48) && !decide (l = [48]))))
def valW (l : List Nat) : Int := ((NumText.digitsVal l : Nat) : Int)
def numW (l : List Nat) : Option Int := if goodW l = true then some (valW l) else none
theorem isD_iff {c : Nat} : isD c = true ↔ 48 ≤ c ∧ c ≤ 57 := by
  unfold isD
  rw [Bool.and_eq_true, decide_eq_true_iff, decide_eq_true_iff]
theorem goodW_iff {l : List Nat} : goodW l = true ↔ l ≠ [] ∧ l.length ≤ 60 ∧ (∀ c ∈ l, isD c = true) ∧ (l.head? = some 48 → l = [48]) := by
  unfold goodW
  rw [Bool.and_eq_true, Bool.and_eq_true, Bool.and_eq_true, List.all_eq_true, decide_eq_true_iff]
  constructor
  · rintro ⟨a, b, c, d⟩
    refine ⟨fun z => (by rw [decide_eq_true z] at a; cases a), b, c, fun z => ?_⟩
    rw [decide_eq_true z, Bool.true_and, Bool.not_not] at d
    exact of_decide_eq_true d
  · rintro ⟨a, b, c, d⟩
    refine ⟨by rw [decide_eq_false a]; rfl, b, c, ?_⟩
    by_cases z : l.head? = some 48
    · rw [decide_eq_true (d z)]
      simp
    · rw [decide_eq_false z]
      rfl
theorem all_digits {l : List Nat} (h : ∀ c ∈ l, isD c = true) : NumText.AllDigits l := fun c hc => isD_iff.mp (h c hc)
theorem toNat_of {c : Nat} (h : 48 ≤ c ∧ c ≤ 57) : (Char.ofNat c).toNat = c := by
  obtain ⟨h1, h2⟩ := h
  have : ∀ d : Nat, d < 58 → (Char.ofNat d).toNat = d := by decide
  exact this c (by omega)
/-- a word that tells a number is how the number is written -/
theorem numL_of {l : List Nat} (h : goodW l = true) : numL (NumText.digitsVal l) = l := by
  obtain ⟨h1, h2, h3, h4⟩ := goodW_iff.mp h
  have ad := all_digits h3
  obtain ⟨n, hn⟩ : ∃ n, l.length = n + 1 := ⟨l.length - 1, by
    have : l.length ≠ 0 := fun z => h1 (List.length_eq_zero_iff.mp z)
    omega⟩
  have key := NumText.toDigits_digitsVal n l hn ad (by
    match l, h1, h4, ad, hn with
    | c :: r, _, h4, ad, hn =>
      by_cases z : c = 48
      · have := h4 (by rw [z]; rfl)
        rw [this] at hn
        simp at hn
        exact .inl (by omega)
      · have := ad c List.mem_cons_self
        exact .inr ⟨c, r, rfl, by omega⟩)
  show (Nat.toDigits 10 (NumText.digitsVal l)).map Char.toNat = l
  rw [key, List.map_map]
  have : ∀ m : List Nat, (∀ c ∈ m, 48 ≤ c ∧ c ≤ 57) → m.map (Char.toNat ∘ Char.ofNat) = m := fun m => by
    induction m with
    | nil => intro _; rfl
    | cons c r ih =>
      intro hm
      rw [List.map_cons, ih fun d hd => hm d (List.mem_cons_of_mem _ hd)]
      show (Char.ofNat c).toNat :: r = c :: r
      rw [toNat_of (hm c List.mem_cons_self)]
  exact this l ad
theorem val_lt : ∀ (l : List Nat) (a : Nat), NumText.AllDigits l → l.foldl (fun acc c => acc * 10 + (c - 48)) a < (a + 1) * 10 ^ l.length
  | [], a, _ => by simp
  | c :: r, a, h => by
    have hc := h.head
    have ih := val_lt r (a * 10 + (c - 48)) h.tail
    rw [List.foldl_cons, List.length_cons, Nat.pow_succ]
    refine Nat.lt_of_lt_of_le ih ?_
    have : a * 10 + (c - 48) + 1 ≤ (a + 1) * 10 := by omega
    calc (a * 10 + (c - 48) + 1) * 10 ^ r.length ≤ ((a + 1) * 10) * 10 ^ r.length := Nat.mul_le_mul_right _ this
      _ = (a + 1) * (10 ^ r.length * 10) := by rw [Nat.mul_assoc, Nat.mul_comm 10]
theorem numW_bd {l : List Nat} {n : Int} (h : numW l = some n) : 0 ≤ n ∧ n < 10 ^ 60 := by
  unfold numW at h
  split at h
  · rename_i g
    cases h
    obtain ⟨_, h2, h3, _⟩ := goodW_iff.mp g
    have := val_lt l 0 (all_digits h3)
    rw [Nat.zero_add, Nat.one_mul] at this
    have p : (10 : Nat) ^ l.length ≤ 10 ^ 60 := Nat.pow_le_pow_right (by decide) h2
    have q : NumText.digitsVal l < 10 ^ 60 := Nat.lt_of_lt_of_le this p
    exact ⟨Int.natCast_nonneg _, by unfold valW; exact_mod_cast q⟩
  · cases h
theorem numW_back {l : List Nat} {n : Int} (h : numW l = some n) : numL n.toNat = l := by
  unfold numW at h
  split at h
  · rename_i g
    cases h
    unfold valW
    rw [Int.toNat_natCast]
    exact numL_of g
  · cases h
theorem numW_no {l : List Nat} {c : Nat} (hc : c ∈ l) (h : c < 48 ∨ 57 < c) : numW l = none := by
  unfold numW
  rw [if_neg (fun g => ?_)]
  have := isD_iff.mp ((goodW_iff.mp g).2.2.1 c hc)
  omega
def numsW : List (List Nat) → Option (List Int)
  | [] => some []
  | l :: r => match numW l, numsW r with
    | some n, some ns => some (n :: ns)
    | _, _ => none
theorem numsW_cons {l : List Nat} {r : List (List Nat)} {ns : List Int} (h : numsW (l :: r) = some ns) : ∃ n ms, numW l = some n ∧ numsW r = some ms ∧ ns = n :: ms := by
  unfold numsW at h
  cases h1 : numW l with
  | none => rw [h1] at h; cases h
  | some n =>
    cases h2 : numsW r with
    | none => rw [h1, h2] at h; cases h
    | some ms => rw [h1, h2] at h; cases h; exact ⟨n, ms, rfl, rfl, rfl⟩
theorem numsW_len : ∀ {ls : List (List Nat)} {ns : List Int}, numsW ls = some ns → ns.length = ls.length
  | [], ns, h => by cases h; rfl
  | l :: r, ns, h => by
    obtain ⟨n, ms, _, h2, rfl⟩ := numsW_cons h
    rw [List.length_cons, List.length_cons, numsW_len h2]
theorem numsW_bd : ∀ {ls : List (List Nat)} {ns : List Int}, numsW ls = some ns → ∀ n ∈ ns, 0 ≤ n ∧ n < 10 ^ 60
  | [], ns, h, n, hn => by cases h; cases hn
  | l :: r, ns, h, n, hn => by
    obtain ⟨m, ms, h1, h2, rfl⟩ := numsW_cons h
    rcases List.mem_cons.mp hn with rfl | hn
    · exact numW_bd h1
    · exact numsW_bd h2 n hn
theorem numsW_back : ∀ {ls : List (List Nat)} {ns : List Int}, numsW ls = some ns → ns.map (fun n => numL n.toNat) = ls
  | [], ns, h => by cases h; rfl
  | l :: r, ns, h => by
    obtain ⟨m, ms, h1, h2, rfl⟩ := numsW_cons h
    rw [List.map_cons, numsW_back h2, numW_back h1]
theorem numsW_no : ∀ {ls : List (List Nat)} {l : List Nat}, l ∈ ls → numW l = none → numsW ls = none
  | m :: r, l, hl, h => by
    unfold numsW
    rcases List.mem_cons.mp hl with rfl | hl
    · rw [h]
    · rw [numsW_no hl h]
      cases numW m <;> rfl
theorem numsW_some : ∀ {ls : List (List Nat)}, (∀ l ∈ ls, numW l ≠ none) → ∃ ns, numsW ls = some ns
  | [], _ => ⟨[], rfl⟩
  | l :: r, h => by
    obtain ⟨ns, e⟩ := numsW_some fun z hz => h z (List.mem_cons_of_mem _ hz)
    cases q : numW l with
    | none => exact absurd q (h l List.mem_cons_self)
    | some n => exact ⟨n :: ns, by unfold numsW; rw [q, e]⟩
/-! ### the whole text -/
def posB (ws : List Int) : Bool := ws.all fun w => decide (1 ≤ w)
def inB : List Int → List Int → Bool
  | [], [] => true
  | w :: ws, s :: ss => (decide (0 ≤ s) && decide (s < w)) && inB ws ss
  | _, _ => false
/-- what stands behind the colon's words -/
def restL (h : List Nat) (words : List (List Nat)) : Option (List Int × List Int) :=
  match words with
  | [] :: ns => match numsW (spl [32] 0 [] h), numsW ns with
    | some ws, some ss => if (posB ws && inB ws ss) = true then some (ws, ss) else none
    | _, _ => none
  | _ => none
def readL (t : List Nat) : Option (List Int × List Int) :=
  if t = [58] then some ([], []) else match par [58] [] t with
  | none => none
  | some (h, r) => restL h (spl [32] 0 [] r)
theorem restL_some {h : List Nat} {words : List (List Nat)} {ws ss : List Int} (e : restL h words = some (ws, ss)) : ∃ ns, words = [] :: ns ∧ numsW (spl [32] 0 [] h) = some ws ∧ numsW ns = some ss ∧ posB ws = true ∧ inB ws ss = true := by
  unfold restL at e
  split at e
  · rename_i ns
    split at e
    · rename_i ws' ss' h1 h2
      split at e
      · rename_i g
        cases e
        rw [Bool.and_eq_true] at g
        exact ⟨ns, rfl, h1, h2, g.1, g.2⟩
      · cases e
    · cases e
  · cases e
theorem restL_no {h : List Nat} {words : List (List Nat)} {c : Nat} {p : List Nat} (hp : p ∈ words) (hc : c ∈ p) (hd : c < 48 ∨ 57 < c) : restL h words = none := by
  cases e : restL h words with
  | none => rfl
  | some q =>
    obtain ⟨ws, ss⟩ := q
    obtain ⟨ns, rfl, _, h2, _⟩ := restL_some e
    rcases List.mem_cons.mp hp with rfl | hp
    · cases hc
    · rw [numsW_no hp (numW_no hc hd)] at h2
      cases h2
/-- more than one colon, or none -/
theorem readL_colons {t : List Nat} (h1 : t ≠ [58]) (h : t.count 58 ≠ 1) : readL t = none := by
  unfold readL
  rw [if_neg h1]
  by_cases hm : 58 ∈ t
  · obtain ⟨a, b, rfl, ha⟩ := first_of hm
    rw [par_at1 ha]
    show restL a (spl [32] 0 [] b) = none
    have hb : 58 ∈ b := by
      rw [List.count_append, List.count_cons_self, List.count_eq_zero_of_not_mem ha] at h
      exact Decidable.byContradiction fun z => h (by rw [List.count_eq_zero_of_not_mem z])
    rw [← List.nil_append b, ← join_spl 32 b []] at hb
    obtain ⟨p, hp, hc⟩ := mem_join (by decide) hb
    exact restL_no hp hc (by decide)
  · rw [par_none1 hm]
/-- just one -/
theorem readL_one {t : List Nat} (h1 : t ≠ [58]) (h : t.count 58 = 1) : ∃ a b, t = a ++ 58 :: b ∧ spl [58] 0 [] t = [a, b] ∧ readL t = restL a (spl [32] 0 [] b) := by
  have hm : 58 ∈ t := List.count_pos_iff.mp (by omega)
  obtain ⟨a, b, rfl, ha⟩ := first_of hm
  have hb : 58 ∉ b := by
    rw [List.count_append, List.count_cons_self, List.count_eq_zero_of_not_mem ha] at h
    exact List.count_eq_zero.mp (by omega)
  refine ⟨a, b, rfl, spl_at2 ha hb, ?_⟩
  unfold readL
  rw [if_neg h1, par_at1 ha]
/-- how wheels and a setting are written, sign by sign -/
def wrL (ws ss : List Int) : List Nat := joinL [32] (ws.map fun n => numL n.toNat) ++ 58 :: (ss.map fun n => 32 :: numL n.toNat).flatten
theorem join_flat : ∀ (ns : List (List Nat)), joinL [32] ([] :: ns) = (ns.map fun p => 32 :: p).flatten
  | [] => rfl
  | p :: ns => by
    show ([] : List Nat) ++ ([32] ++ joinL [32] (p :: ns)) = (32 :: p) ++ (ns.map fun p => 32 :: p).flatten
    rw [← join_flat ns]
    cases ns with
    | nil => simp [joinL]
    | cons q r => rfl
theorem par_sound : ∀ {t acc h r : List Nat}, par [58] acc t = some (h, r) → acc ++ t = h ++ 58 :: r
  | [], acc, h, r, e => by cases e
  | c :: t, acc, h, r, e => by
    rw [par1] at e
    split at e
    · rename_i z
      cases e
      rw [z]
    · have := par_sound e
      rw [← this, List.append_assoc]
      rfl
/-- READ AND WRITTEN AGAIN -/
theorem readL_back {t : List Nat} {ws ss : List Int} (e : readL t = some (ws, ss)) : t = wrL ws ss := by
  unfold readL at e
  split at e
  · rename_i z
    cases e
    rw [z]
    rfl
  · split at e
    · cases e
    · rename_i h r hp
      obtain ⟨ns, hw, h1, h2, _⟩ := restL_some e
      have t1 := par_sound hp
      rw [List.nil_append] at t1
      rw [t1]
      unfold wrL
      rw [numsW_back h1, join_spl, List.nil_append]
      have j := join_spl 32 r []
      rw [hw, List.nil_append, join_flat] at j
      rw [← j]
      have e2 : (ss.map fun n => 32 :: numL n.toNat) = ns.map fun p => 32 :: p := by
        rw [← numsW_back h2, List.map_map]
        rfl
      rw [e2]
theorem posB_iff {ws : List Int} : posB ws = true ↔ Pos ws := by
  unfold posB
  rw [List.all_eq_true]
  exact ⟨fun h w hw => of_decide_eq_true (h w hw), fun h w hw => decide_eq_true (h w hw)⟩
theorem inB_iff : ∀ {ws ss : List Int}, inB ws ss = true ↔ InS ws ss
  | [], [] => ⟨fun _ => trivial, fun _ => rfl⟩
  | w :: ws, s :: ss => by
    show ((decide (0 ≤ s) && decide (s < w)) && inB ws ss) = true ↔ (0 ≤ s ∧ s < w) ∧ InS ws ss
    rw [Bool.and_eq_true, Bool.and_eq_true, decide_eq_true_iff, decide_eq_true_iff, inB_iff]
  | [], _ :: _ => ⟨fun h => (nomatch h), fun h => False.elim h⟩
  | _ :: _, [] => ⟨fun h => (nomatch h), fun h => False.elim h⟩
/-- what is known of what is read -/
theorem readL_ok {t : List Nat} {ws ss : List Int} (e : readL t = some (ws, ss)) : Pos ws ∧ InS ws ss ∧ (∀ w ∈ ws, w < 10 ^ 60) ∧ ws.length ≤ t.count 32 + 1 := by
  have tb := readL_back e
  unfold readL at e
  split at e
  · cases e
    exact ⟨fun w hw => (by cases hw), trivial, fun w hw => (by cases hw), Nat.zero_le _⟩
  · split at e
    · cases e
    · rename_i h r hp
      obtain ⟨ns, hw, h1, h2, hpos, hin⟩ := restL_some e
      refine ⟨posB_iff.mp hpos, inB_iff.mp hin, fun w hw => (numsW_bd h1 w hw).2, ?_⟩
      rw [numsW_len h1, spl_len]
      have t1 := par_sound hp
      rw [List.nil_append] at t1
      rw [t1, List.count_append]
      omega
end
section
open TL
theorem takeWhile_lt {p : Nat → Bool} : ∀ {l : List Nat} {c : Nat}, c ∈ l → p c = false → (l.takeWhile p).length < l.length
  | d :: r, c, hc, h => by
    rw [List.takeWhile_cons]
    by_cases z : p d = true
    · rw [if_pos z]
      rcases List.mem_cons.mp hc with rfl | hc
      · rw [h] at z; cases z
      · have := takeWhile_lt hc h
        rw [List.length_cons, List.length_cons]
        omega
    · rw [if_neg z, List.length_cons]
      exact Nat.succ_pos _
theorem takeWhile_whole {p : Nat → Bool} : ∀ {l : List Nat}, (∀ c ∈ l, p c = true) → l.takeWhile p = l
  | [], _ => rfl
  | d :: r, h => by
    rw [List.takeWhile_cons, if_pos (h d List.mem_cons_self), takeWhile_whole fun c hc => h c (List.mem_cons_of_mem _ hc)]
theorem mem_drop_tw {p : Nat → Bool} : ∀ {l : List Nat} {c : Nat}, c ∈ l → p c = false → c ∈ l.drop (l.takeWhile p).length
  | d :: r, c, hc, h => by
    rw [List.takeWhile_cons]
    by_cases z : p d = true
    · rw [if_pos z, List.length_cons, List.drop_succ_cons]
      rcases List.mem_cons.mp hc with rfl | hc
      · rw [h] at z; cases z
      · exact mem_drop_tw hc h
    · rw [if_neg z]
      exact hc
theorem strip_nil_iff (p : Nat → Bool) (x : Str) : tl (Txt.stripBy p true true x) = [] ↔ ∀ c ∈ tl x, p c = true := by
  have hx := len_tl x
  unfold Txt.stripBy
  constructor
  · intro h c hc
    cases z : p c with
    | true => rfl
    | false =>
      exfalso
      have h1 := takeWhile_lt hc z
      have h2 := mem_drop_tw hc z
      have h3 := takeWhile_lt (l := ((tl x).drop ((tl x).takeWhile p).length).reverse) (List.mem_reverse.mpr h2) z
      rw [List.length_reverse, List.length_drop] at h3
      split at h
      · rw [h] at hc; cases hc
      · have e : (tl (PySem.stripped p true true x)).length = 0 := by rw [h]; rfl
        unfold PySem.stripped PySem.stripHi PySem.stripLo at e
        rw [if_pos rfl, if_pos rfl, tl_strSub, List.length_take, List.length_drop] at e
        have e2 : x.cps.toList = tl x := rfl
        rw [e2] at e
        omega
  · intro h
    have t := takeWhile_whole h
    split
    · rename_i g
      unfold PySem.stripSame PySem.stripLo at g
      rw [if_pos rfl, Bool.and_eq_true] at g
      have e2 : x.cps.toList = tl x := rfl
      rw [e2, t] at g
      have := beq_iff_eq.mp g.1
      exact List.length_eq_zero_iff.mp this
    · unfold PySem.stripped PySem.stripLo
      rw [if_pos rfl, tl_strSub]
      have e2 : x.cps.toList = tl x := rfl
      rw [e2, t, List.drop_length, List.take_nil]
theorem figs_eq : (Str.ofString "0123456789").cps = #[48, 49, 50, 51, 52, 53, 54, 55, 56, 57] := by decide +kernel
theorem figs (c : Nat) : (Str.ofString "0123456789").cps.contains c = isD c := by
  rw [figs_eq]
  cases h : isD c with
  | true =>
    have := isD_iff.mp h
    have : c = 48 ∨ c = 49 ∨ c = 50 ∨ c = 51 ∨ c = 52 ∨ c = 53 ∨ c = 54 ∨ c = 55 ∨ c = 56 ∨ c = 57 := by omega
    rcases this with rfl | rfl | rfl | rfl | rfl | rfl | rfl | rfl | rfl | rfl <;> decide +kernel
  | false =>
    cases z : (#[48, 49, 50, 51, 52, 53, 54, 55, 56, 57] : Array Nat).contains c with
    | false => rfl
    | true =>
      have m : c ∈ ([48, 49, 50, 51, 52, 53, 54, 55, 56, 57] : List Nat) := by
        have := Array.contains_iff.mp z
        simpa using this
      have : isD c = true := by
        rw [isD_iff]
        simp only [List.mem_cons, List.not_mem_nil, or_false] at m
        omega
      rw [this] at h
      cases h
theorem empty_tl (x : Str) : (x = Str.ofString "") ↔ tl x = [] := by
  constructor
  · rintro rfl
    decide +kernel
  · intro h
    exact ext_tl (h.trans (by decide +kernel))
theorem strip_figs (x : Str) : decide (Txt.stripChars x (Str.ofString "0123456789") = Str.ofString "") = (tl x).all isD := by
  have e : Txt.stripChars x (Str.ofString "0123456789") = Txt.stripBy isD true true x := by
    unfold Txt.stripChars
    congr 1
    funext c
    exact figs c
  rw [e]
  by_cases h : (tl x).all isD = true
  · rw [h]
    exact decide_eq_true ((empty_tl _).mpr ((strip_nil_iff isD x).mpr (List.all_eq_true.mp h)))
  · rw [Bool.eq_false_iff.mpr h]
    exact decide_eq_false fun z => h (List.all_eq_true.mpr ((strip_nil_iff isD x).mp ((empty_tl _).mp z)))
theorem colon_eq : Str.ofString ":" = ⟨#[58]⟩ := by decide +kernel
theorem space_eq : Str.ofString " " = ⟨#[32]⟩ := by decide +kernel
theorem tl_colon : tl (Str.ofString ":") = [58] := by decide +kernel
theorem tl_space : tl (Str.ofString " ") = [32] := by decide +kernel
theorem cnt_is (c : Nat) : ∀ l : List Nat, PyProof.Rows.cnt c l = (l.count c : Int)
  | [] => rfl
  | n :: r => by
    rw [PyProof.Rows.cnt_cons, cnt_is c r]
    by_cases h : n = c
    · rw [if_pos h, h, List.count_cons_self]
      omega
    · rw [if_neg h, List.count_cons_of_ne h]
      omega
theorem count_colon (x : Str) : Txt.count x (Str.ofString ":") = ((tl x).count 58 : Int) := by
  rw [colon_eq, PyProof.Rows.count_is]
  exact cnt_is 58 _
theorem split_space (x : Str) : (Txt.split x (Str.ofString " ")).map tl = spl [32] 0 [] (tl x) := by
  rw [split_spl x (Str.ofString " ") (by rw [tl_space]; simp) (kind_ok (by decide +kernel)), tl_space]
theorem split_colon (x : Str) : (Txt.split x (Str.ofString ":")).map tl = spl [58] 0 [] (tl x) := by
  rw [split_spl x (Str.ofString ":") (by rw [tl_colon]; simp) (kind_ok (by decide +kernel)), tl_colon]
theorem part_colon (x : Str) : Txt.partition x (Str.ofString ":") = (match par [58] [] (tl x) with | some (a, b) => (⟨a.toArray⟩, Str.ofString ":", ⟨b.toArray⟩) | none => (x, Str.empty, Str.empty)) := by
  rw [partition_par x (Str.ofString ":") (by rw [tl_colon]; simp), tl_colon] <;> rfl
theorem int_word {w : Str} (h : goodW (tl w) = true) : intText? w = some (valW (tl w)) ∧ w.length ≤ 640 := by
  obtain ⟨h1, h2, h3, _⟩ := goodW_iff.mp h
  have hl := len_tl w
  exact ⟨intText_digits (all_digits h3) h1 (by omega), by omega⟩
section
variable {K : PySem.W.Frag} {σ : L2.St} {H : Hp} {D : Ends} {ta te to : TE} {tz : TS} {a b w : Str} {p : Addr} {z : V}
theorem ev_strip (ho : Ev to σ H (.str a)) (he : Ev te σ H (.str b)) (hl : a.length ≤ 100000) : Ev (tM1 (fun x xs H Q => ∃ a b, x = .str a ∧ xs = [.str b] ∧ a.length ≤ sizeLine ∧ Q (.str (Txt.stripChars a b)) H) to te) σ H (.str (Txt.stripChars a b)) := fun H1 e Q q =>
  ho H1 e _ fun H2 e2 => ⟨⟨a, rfl⟩, he H2 (e.trans e2) _ fun H3 e3 => ⟨a, b, rfl, rfl, sz_of hl, q H3 (e2.trans e3)⟩⟩
theorem ev_countS (ho : Ev to σ H (.str a)) (he : Ev te σ H (.str b)) : Ev (tM1 (fun x xs H Q => ∃ a b, x = .str a ∧ xs = [.str b] ∧ Q (.int (Txt.count a b)) H) to te) σ H (.int (Txt.count a b)) := fun H1 e Q q =>
  ho H1 e _ fun H2 e2 => ⟨⟨a, rfl⟩, he H2 (e.trans e2) _ fun H3 e3 => ⟨a, b, rfl, rfl, q H3 (e2.trans e3)⟩⟩
theorem el_split (ho : Ev to σ H (.str a)) (he : Ev te σ H (.str b)) (hl : a.length ≤ 100000) (hb : (b.length == 0) = false) : EvL (tM1 (fun x xs H Q => ∃ a b, x = .str a ∧ xs = [.str b] ∧ (b.length == 0) = false ∧ a.length + 2 ≤ sizeLine ∧ rNewStrs (Txt.split a b) H Q) to te) σ H ((Txt.split a b).map V.str) := fun H1 e Q q =>
  ho H1 e _ fun H2 e2 => ⟨⟨a, rfl⟩, he H2 (e.trans e2) _ fun H3 e3 => ⟨a, b, rfl, rfl, hb, Nat.le_trans (Nat.add_le_add_right hl 2) (by decide), fun p hp => q p _ (fresh_back (e2.trans e3) hp) ((e2.trans e3).trans (Ex.new hp)) upd_same⟩⟩
theorem ev_lenStr (h : Ev te σ H (.str a)) (hl : a.length ≤ 100000) : Ev (tCB (fun xs H Q => ∃ z, xs = [.str z] ∧ z.length ≤ sizeLine ∧ Q (.int z.length) H) (tCons te tNil)) σ H (.int (a.length : Int)) :=
  ev_cb (ea_cons h ea_nil) fun H1 _ _ q => ⟨a, rfl, sz_of hl, q H1 (Ex.refl H1)⟩
theorem ev_intW (h : Ev te σ H (.str w)) (hg : goodW (tl w) = true) : Ev (tCB (fun xs H Q => ∃ a n, xs = [.str a] ∧ PySem.intText? a = some n ∧ a.length ≤ 640 ∧ Q (.int n) H) (tCons te tNil)) σ H (.int (valW (tl w))) :=
  ev_cb (ea_cons h ea_nil) fun H1 _ _ q => ⟨w, _, rfl, (int_word hg).1, (int_word hg).2, q H1 (Ex.refl H1)⟩
/-- a, b, c = text.partition(sep) -/
theorem q_part {i j k : Nat} (ho : Ev to σ H (.str a)) (he : Ev te σ H (.str b)) (hl : a.length ≤ 100000) (hb : (b.length == 0) = false)
    (kk : ∀ H1, Ex H H1 → tz D (((σ.set i (some (.str (Txt.partition a b).1))).set j (some (.str (Txt.partition a b).2.1))).set k (some (.str (Txt.partition a b).2.2))) H1) :
    tSeq (tAsg (tM1 (fun x xs H Q => ∃ a b, x = .str a ∧ xs = [.str b] ∧ (b.length == 0) = false ∧ a.length ≤ sizeLine ∧ ∀ p, H p = none → Q (.ref p) (upd H p (.tup [.str (Txt.partition a b).1, .str (Txt.partition a b).2.1, .str (Txt.partition a b).2.2]))) to te) (gTup K 3 (gCons (gName i) (gCons (gName j) (gCons (gName k) gNil))))) tz D σ H :=
  ho H (Ex.refl H) _ fun H2 e2 => ⟨⟨a, rfl⟩, he H2 e2 _ fun H3 e3 => ⟨a, b, rfl, rfl, hb, sz_of hl, fun p hp => ⟨p, _, rfl, .inl (.inl upd_same), rfl, _, _, rfl, _, _, rfl, _, [], rfl, rfl, kk _ ((e2.trans e3).trans (Ex.new hp))⟩⟩⟩
/-- a, b = a new list of two -/
theorem q_unl2 {i j : Nat} {x y : V} (h : EvL te σ H [x, y]) (kk : ∀ H1, Ex H H1 → tz D ((σ.set i (some x)).set j (some y)) H1) : tSeq (tAsg te (gUnl K 2 (gCons (gName i) (gCons (gName j) gNil)))) tz D σ H :=
  h H (Ex.refl H) _ fun p H1 hp e1 h1 => ⟨p, _, rfl, sq_of h1, rfl, _, _, rfl, _, [], rfl, rfl, kk H1 e1⟩
theorem pg_unlK {X : Cx} {es : List Expr} {k : Nat} {pos : PySem.Pos} {t : TGs} {n : Nat} (e : X.K = K) (hc : X.calm = true) (h : PGs X es t)
    (hn : (assignEach es X.env).length = n := by rfl) (hst : (assignEach es X.env).findIdx? (·.1) = none := by rfl) : PG X (.Tuple es k pos) (gUnl K n t) := e ▸ pg_unl hc h hn hst
end
end
/-! ### the mathematics of neighbours -/
/-- the neighbours by the wheel at k -/
def nbAt (ws ss : List Int) (k : Nat) : List (List Int) :=
  (if 0 < ss.getD k 0 then [ss.set k (ss.getD k 0 - 1)] else []) ++ (if ss.getD k 0 + 1 < ws.getD k 0 then [ss.set k (ss.getD k 0 + 1)] else [])
def nbUp (ws ss : List Int) : Nat → List (List Int)
  | 0 => []
  | k + 1 => nbUp ws ss k ++ nbAt ws ss k
def nbs (ws ss : List Int) : List (List Int) := nbUp ws ss ss.length
theorem nbAt_len (ws ss : List Int) (k : Nat) : (nbAt ws ss k).length ≤ 2 := by
  unfold nbAt
  split <;> split <;> simp
theorem nbUp_len (ws ss : List Int) : ∀ k, (nbUp ws ss k).length ≤ 2 * k
  | 0 => Nat.le_refl _
  | k + 1 => by
    have := nbUp_len ws ss k
    have := nbAt_len ws ss k
    show (nbUp ws ss k ++ nbAt ws ss k).length ≤ _
    rw [List.length_append]
    omega
theorem mem_nbUp {ws ss t : List Int} : ∀ {n : Nat}, t ∈ nbUp ws ss n → ∃ k, k < n ∧ t ∈ nbAt ws ss k
  | 0, h => by cases h
  | n + 1, h => by
    rcases List.mem_append.mp h with h | h
    · obtain ⟨k, hk, h⟩ := mem_nbUp h
      exact ⟨k, by omega, h⟩
    · exact ⟨n, by omega, h⟩
theorem nbUp_mem {ws ss t : List Int} {n k : Nat} (hk : k < n) (h : t ∈ nbAt ws ss k) : t ∈ nbUp ws ss n := by
  induction n with
  | zero => omega
  | succ n ih =>
    by_cases e : k = n
    · subst e
      exact List.mem_append_right _ h
    · exact List.mem_append_left _ (ih (by omega))
theorem mem_nbAt {ws ss t : List Int} {k : Nat} : t ∈ nbAt ws ss k ↔ (0 < ss.getD k 0 ∧ t = ss.set k (ss.getD k 0 - 1)) ∨ (ss.getD k 0 + 1 < ws.getD k 0 ∧ t = ss.set k (ss.getD k 0 + 1)) := by
  unfold nbAt
  rw [List.mem_append]
  constructor
  · intro h
    rcases h with h | h
    · left
      split at h
      · rename_i c
        exact ⟨c, List.mem_singleton.mp h⟩
      · cases h
    · right
      split at h
      · rename_i c
        exact ⟨c, List.mem_singleton.mp h⟩
      · cases h
  · intro h
    rcases h with ⟨c, e⟩ | ⟨c, e⟩
    · left
      rw [if_pos c, e]
      exact List.mem_singleton.mpr rfl
    · right
      rw [if_pos c, e]
      exact List.mem_singleton.mpr rfl
theorem getD_cons_zero' (a : Int) (l : List Int) : (a :: l).getD 0 0 = a := rfl
theorem getD_cons_succ' (a : Int) (l : List Int) (k : Nat) : (a :: l).getD (k + 1) 0 = l.getD k 0 := rfl
/-- a number set within its bounds -/
theorem InS.set : ∀ {ws ss : List Int} {k : Nat} {x : Int}, InS ws ss → k < ss.length → 0 ≤ x → x < ws.getD k 0 → InS ws (ss.set k x)
  | w :: ws, s :: ss, 0, x, h, _, h0, h1 => ⟨⟨h0, h1⟩, h.2⟩
  | w :: ws, s :: ss, k + 1, x, h, hk, h0, h1 => ⟨h.1, InS.set h.2 (by simpa using hk) h0 (by simpa using h1)⟩
  | [], [], _, _, _, hk, _, _ => by simp at hk
  | [], _ :: _, _, _, h, _, _, _ => False.elim h
  | _ :: _, [], _, _, h, _, _, _ => False.elim h
theorem InS.get : ∀ {ws ss : List Int} {k : Nat}, InS ws ss → k < ss.length → 0 ≤ ss.getD k 0 ∧ ss.getD k 0 < ws.getD k 0
  | w :: ws, s :: ss, 0, h, _ => h.1
  | w :: ws, s :: ss, k + 1, h, hk => InS.get (ws := ws) (ss := ss) (k := k) h.2 (by simpa using hk)
  | [], [], _, _, hk => by simp at hk
  | [], _ :: _, _, h, _ => False.elim h
  | _ :: _, [], _, h, _ => False.elim h
theorem nb_in {ws ss t : List Int} (h : InS ws ss) (ht : t ∈ nbs ws ss) : InS ws t := by
  obtain ⟨k, hk, h2⟩ := mem_nbUp ht
  have hg := h.get hk
  rcases mem_nbAt.mp h2 with ⟨c, rfl⟩ | ⟨c, rfl⟩
  · exact h.set hk (by omega) (by omega)
  · exact h.set hk (by omega) c
theorem iabs_nn (i : Int) : 0 ≤ iabs i := by
  unfold iabs
  split <;> omega
theorem dist_nn : ∀ a b : List Int, 0 ≤ dist a b
  | [], [] => Int.le_refl _
  | [], _ :: _ => Int.le_refl _
  | _ :: _, [] => Int.le_refl _
  | x :: a, y :: b => by
    have h1 := iabs_nn (x - y)
    have h2 := dist_nn a b
    show 0 ≤ iabs (x - y) + dist a b
    omega
theorem dist_set : ∀ {a b : List Int} {k : Nat} (x : Int), a.length = b.length → k < a.length → dist (a.set k x) b = dist a b - iabs (a.getD k 0 - b.getD k 0) + iabs (x - b.getD k 0)
  | y :: a, z :: b, 0, x, h, _ => by
    show iabs (x - z) + dist a b = iabs (y - z) + dist a b - iabs (y - z) + iabs (x - z)
    omega
  | y :: a, z :: b, k + 1, x, h, hk => by
    have ih := dist_set (a := a) (b := b) (k := k) x (by simpa using h) (by simpa using hk)
    show iabs (y - z) + dist (a.set k x) b = iabs (y - z) + dist a b - iabs (a.getD k 0 - b.getD k 0) + iabs (x - b.getD k 0)
    omega
  | [], _, _, _, _, hk => by simp at hk
  | _ :: _, [], _, _, h, _ => by simp at h
theorem nb_dist {ws ss ts t : List Int} (h : ss.length = ts.length) (ht : t ∈ nbs ws ss) : iabs (dist t ts - dist ss ts) = 1 := by
  obtain ⟨k, hk, h2⟩ := mem_nbUp ht
  rcases mem_nbAt.mp h2 with ⟨c, rfl⟩ | ⟨c, rfl⟩
  · rw [dist_set _ h hk]
    unfold iabs
    split <;> split <;> split <;> omega
  · rw [dist_set _ h hk]
    unfold iabs
    split <;> split <;> split <;> omega
/-- where two settings differ at all, they differ at a wheel -/
theorem dist_pos : ∀ {a b : List Int}, a.length = b.length → 0 < dist a b → ∃ k, k < a.length ∧ a.getD k 0 ≠ b.getD k 0
  | [], [], _, h => by
    have : (0 : Int) < 0 := h
    omega
  | x :: a, y :: b, hl, h => by
    by_cases e : x = y
    · subst e
      have h' : 0 < iabs (x - x) + dist a b := h
      rw [iabs_self] at h'
      obtain ⟨k, hk, hne⟩ := dist_pos (a := a) (b := b) (by simpa using hl) (by omega)
      exact ⟨k + 1, by simpa using hk, hne⟩
    · exact ⟨0, by simp, e⟩
  | [], _ :: _, h, _ => by simp at h
  | _ :: _, [], h, _ => by simp at h
theorem nb_nearer {ws ss ts : List Int} (hs : InS ws ss) (ht : InS ws ts) (h : 0 < dist ss ts) : ∃ t, t ∈ nbs ws ss ∧ dist t ts - dist ss ts = -1 := by
  have hl : ss.length = ts.length := by rw [hs.len, ht.len]
  obtain ⟨k, hk, hne⟩ := dist_pos hl h
  have g1 := hs.get hk
  have g2 := ht.get (by rw [← hl]; exact hk)
  by_cases c : ts.getD k 0 < ss.getD k 0
  · refine ⟨ss.set k (ss.getD k 0 - 1), nbUp_mem hk (mem_nbAt.mpr (.inl ⟨by omega, rfl⟩)), ?_⟩
    rw [dist_set _ hl hk]
    unfold iabs
    split <;> split <;> omega
  · refine ⟨ss.set k (ss.getD k 0 + 1), nbUp_mem hk (mem_nbAt.mpr (.inr ⟨by omega, rfl⟩)), ?_⟩
    rw [dist_set _ hl hk]
    unfold iabs
    split <;> split <;> omega
/-- a number put in at a place -/
theorem set_cut {ss : List Int} {k : Nat} (x : Int) (h : k < ss.length) : ss.take k ++ [x] ++ ss.drop (k + 1) = ss.set k x := by
  rw [List.set_eq_take_append_cons_drop, if_pos h, List.append_assoc]
  rfl
/-- the neighbours as the law lists them: by each number one less and one more that lies within -/
theorem nbAt_law {ws ss : List Int} {k : Nat} (h : InS ws ss) (hk : k < ss.length) :
    nbAt ws ss k = (if 0 ≤ ss.getD k 0 - 1 ∧ ss.getD k 0 - 1 < ws.getD k 0 then [ss.set k (ss.getD k 0 - 1)] else []) ++ (if 0 ≤ ss.getD k 0 + 1 ∧ ss.getD k 0 + 1 < ws.getD k 0 then [ss.set k (ss.getD k 0 + 1)] else []) := by
  have g := h.get hk
  unfold nbAt
  congr 1
  · by_cases c : 0 < ss.getD k 0
    · rw [if_pos c, if_pos (by omega)]
    · rw [if_neg c, if_neg (by omega)]
  · by_cases c : ss.getD k 0 + 1 < ws.getD k 0
    · rw [if_pos c, if_pos (by omega)]
    · rw [if_neg c, if_neg (by omega)]
/-! ### the text by places -/
def topS (i : Nat) : Stmt := PySem.Challenge.pw_wheelways_k05_written.main.body.getD i (.Pass ⟨0, 0, 0, 0⟩)
abbrev S_is_whole : Stmt := topS 8
theorem sc_is_whole : FnScope ["thing"] ["thing"] (defScope S_is_whole) := ⟨rfl, rfl, rfl, by decide +kernel, rfl, by decide +kernel, by decide +kernel⟩
abbrev S_check_wheels : Stmt := topS 9
theorem sc_check_wheels : FnScope ["wheels", "size"] ["wheels"] (defScope S_check_wheels) := ⟨rfl, rfl, rfl, by decide +kernel, rfl, by decide +kernel, by decide +kernel⟩
abbrev S_is_setting : Stmt := topS 10
theorem sc_is_setting : FnScope ["wheels", "setting", "k"] ["wheels", "setting"] (defScope S_is_setting) := ⟨rfl, rfl, rfl, by decide +kernel, rfl, by decide +kernel, by decide +kernel⟩
abbrev S_check_setting : Stmt := topS 11
theorem sc_check_setting : FnScope ["wheels", "setting"] ["wheels", "setting"] (defScope S_check_setting) := ⟨rfl, rfl, rfl, by decide +kernel, rfl, by decide +kernel, by decide +kernel⟩
abbrev S_written : Stmt := topS 15
theorem sc_written : FnScope ["wheels", "setting", "sizes", "size", "number"] ["wheels", "setting"] (defScope S_written) := ⟨rfl, rfl, rfl, by decide +kernel, rfl, by decide +kernel, by decide +kernel⟩
abbrev S_number_in : Stmt := topS 16
theorem sc_number_in : FnScope ["word"] ["word"] (defScope S_number_in) := ⟨rfl, rfl, rfl, by decide +kernel, rfl, by decide +kernel, by decide +kernel⟩
abbrev S_read : Stmt := topS 17
theorem sc_read : FnScope ["text", "head", "colon", "tail", "words", "wheels", "setting", "word"] ["text"] (defScope S_read) := ⟨rfl, rfl, rfl, by decide +kernel, rfl, by decide +kernel, by decide +kernel⟩
abbrev S_law_cell_at : Stmt := topS 19
theorem sc_law_cell_at : FnScope ["_law_script", "_law_k"] ["_law_script", "_law_k"] (defScope S_law_cell_at) := ⟨rfl, rfl, rfl, by decide +kernel, rfl, by decide +kernel, by decide +kernel⟩
abbrev S_law_draw : Stmt := topS 20
theorem sc_law_draw : FnScope ["_law_cell", "_law_k", "_law_many", "_law_primes"] ["_law_cell", "_law_k", "_law_many"] (defScope S_law_draw) := ⟨rfl, rfl, rfl, by decide +kernel, rfl, by decide +kernel, by decide +kernel⟩
abbrev S_law_wheels : Stmt := topS 21
theorem sc_law_wheels : FnScope ["_law_script", "_law_kind", "_law_found", "_law_k", "_law_size"] ["_law_script"] (defScope S_law_wheels) := ⟨rfl, rfl, rfl, by decide +kernel, rfl, by decide +kernel, by decide +kernel⟩
abbrev S_law_setting : Stmt := topS 23
theorem sc_law_setting : FnScope ["_law_script", "_law_wheels_here", "_law_by", "_law_kind", "_law_found", "_law_k", "_law_size", "_law_number_here"] ["_law_script", "_law_wheels_here", "_law_by"] (defScope S_law_setting) := ⟨rfl, rfl, rfl, by decide +kernel, rfl, by decide +kernel, by decide +kernel⟩
abbrev S_law_is_setting : Stmt := topS 25
theorem sc_law_is_setting : FnScope ["_law_wheels_here", "_law_found", "_law_one", "_law_k"] ["_law_wheels_here", "_law_found"] (defScope S_law_is_setting) := ⟨rfl, rfl, rfl, by decide +kernel, rfl, by decide +kernel, by decide +kernel⟩
abbrev S_law_number : Stmt := topS 28
theorem sc_law_number : FnScope ["_law_text"] ["_law_text"] (defScope S_law_number) := ⟨rfl, rfl, rfl, by decide +kernel, rfl, by decide +kernel, by decide +kernel⟩
abbrev S_law_in : Stmt := topS 29
theorem sc_law_in : FnScope ["_law_text", "_law_first", "_law_second", "_law_words", "_law_sizes", "_law_numbers", "_law_word"] ["_law_text"] (defScope S_law_in) := ⟨rfl, rfl, rfl, by decide +kernel, rfl, by decide +kernel, by decide +kernel⟩
abbrev S_law_refused : Stmt := topS 30
theorem sc_law_refused : FnScope ["_law_text", "error", "_law_others"] ["_law_text"] (defScope S_law_refused) := ⟨rfl, rfl, rfl, by decide +kernel, rfl, by decide +kernel, by decide +kernel⟩
abbrev S_law_right : Stmt := topS 31
theorem sc_law_right : FnScope ["_law_text", "_law_due", "_law_found"] ["_law_text"] (defScope S_law_right) := ⟨rfl, rfl, rfl, by decide +kernel, rfl, by decide +kernel, by decide +kernel⟩
abbrev S_law_few : Stmt := topS 32
theorem sc_law_few : FnScope ["_law_some"] [] (defScope S_law_few) := ⟨rfl, rfl, rfl, by decide +kernel, rfl, by decide +kernel, by decide +kernel⟩
abbrev S_law : Stmt := topS 33
theorem sc_law : FnScope ["_law_script", "_law_wheels_here", "_law_setting_here", "_law_text", "_law_handed", "_law_cell", "_law_k", "_law_at", "_law_sign", "_law_thing", "_law_number_here", "_law_other", "_law_size"] ["_law_script"] (defScope S_law) := ⟨rfl, rfl, rfl, by decide +kernel, rfl, by decide +kernel, by decide +kernel⟩
/-- where the classes stand -/
structure Cs where
  WheelError : Addr
  BadWheels : Addr
  BadSetting : Addr
  BadNumber : Addr
  NoRing : Addr
  BadText : Addr
  Answer : Addr
  Around : Addr
  Dead : Addr
  Odd : Addr
  a_around : Addr
  a_ring_setting : Addr
  a_ring_number : Addr
  a__law_with_wheels : Addr
  a__law_with_number : Addr
/-- what the top has written -/
structure Txt (K : PySem.W.Frag) (mg : Str → Option Value) (C : Cs) : Prop where
  d_is_whole : Df K mg "is_whole" ["thing"] S_is_whole
  d_check_wheels : Df K mg "check_wheels" ["wheels"] S_check_wheels
  d_is_setting : Df K mg "is_setting" ["wheels", "setting"] S_is_setting
  d_check_setting : Df K mg "check_setting" ["wheels", "setting"] S_check_setting
  d_written : Df K mg "written" ["wheels", "setting"] S_written
  d_number_in : Df K mg "number_in" ["word"] S_number_in
  d_read : Df K mg "read" ["text"] S_read
  d_law_cell_at : Df K mg "_law_cell_at" ["_law_script", "_law_k"] S_law_cell_at
  d_law_draw : Df K mg "_law_draw" ["_law_cell", "_law_k", "_law_many"] S_law_draw
  d_law_wheels : Df K mg "_law_wheels" ["_law_script"] S_law_wheels
  d_law_setting : Df K mg "_law_setting" ["_law_script", "_law_wheels_here", "_law_by"] S_law_setting
  d_law_is_setting : Df K mg "_law_is_setting" ["_law_wheels_here", "_law_found"] S_law_is_setting
  d_law_number : Df K mg "_law_number" ["_law_text"] S_law_number
  d_law_in : Df K mg "_law_in" ["_law_text"] S_law_in
  d_law_refused : Df K mg "_law_refused" ["_law_text"] S_law_refused
  d_law_right : Df K mg "_law_right" ["_law_text"] S_law_right
  d_law_few : Df K mg "_law_few" [] S_law_few
  d_law : Df K mg "law" ["_law_script"] S_law
  b_ValueError : mg "ValueError" = none
  b_all : mg "all" = none
  b_any : mg "any" = none
  b_bool : mg "bool" = none
  b_enumerate : mg "enumerate" = none
  b_int : mg "int" = none
  b_isinstance : mg "isinstance" = none
  b_len : mg "len" = none
  b_list : mg "list" = none
  b_min : mg "min" = none
  b_range : mg "range" = none
  b_str : mg "str" = none
  b_tuple : mg "tuple" = none
  e_BadSetting : ExcF K mg "BadSetting" C.BadSetting
  e_BadText : ExcF K mg "BadText" C.BadText
  e_BadWheels : ExcF K mg "BadWheels" C.BadWheels
  g_BadNumber : mg "BadNumber" = some (.ref C.BadNumber)
  g_BadSetting : mg "BadSetting" = some (.ref C.BadSetting)
  g_BadText : mg "BadText" = some (.ref C.BadText)
  g_BadWheels : mg "BadWheels" = some (.ref C.BadWheels)
  g_NoRing : mg "NoRing" = some (.ref C.NoRing)
  g_WheelError : mg "WheelError" = some (.ref C.WheelError)
  k_FIGURES : ∃ t, mg "FIGURES" = some (.str "0123456789" t)
  k_MOST : ∃ t, mg "MOST" = some (.int (10 ^ 60) t)
  exc_BadText : ExcC K C.BadText
  isx_BadText_BadNumber : PySem.W.kitOne K (.ref C.BadText) (.ref C.BadNumber) = some false
  isx_BadText_BadSetting : PySem.W.kitOne K (.ref C.BadText) (.ref C.BadSetting) = some false
  isx_BadText_BadText : PySem.W.kitOne K (.ref C.BadText) (.ref C.BadText) = some true
  isx_BadText_BadWheels : PySem.W.kitOne K (.ref C.BadText) (.ref C.BadWheels) = some false
  isx_BadText_NoRing : PySem.W.kitOne K (.ref C.BadText) (.ref C.NoRing) = some false
  isx_BadText_ValueError : PySem.W.kitOne K (.ref C.BadText) (.type "ValueError") = some true
  exm_BadText_WheelError : PySem.W.exmOne K (.ref C.BadText) (.ref C.WheelError) = some true
  exm_BadWheels_BadWheels : PySem.W.exmOne K (.ref C.BadWheels) (.ref C.BadWheels) = some true
  exm_BadWheels_BadSetting : PySem.W.exmOne K (.ref C.BadWheels) (.ref C.BadSetting) = some false
  exm_BadSetting_BadWheels : PySem.W.exmOne K (.ref C.BadSetting) (.ref C.BadWheels) = some false
  exm_BadSetting_BadSetting : PySem.W.exmOne K (.ref C.BadSetting) (.ref C.BadSetting) = some true
/-! ### is_whole, check_wheels -/
def sp_is_whole (K : PySem.W.Frag) (_ : Cs) : Sp := fun vs H Q _ => ∃ (v : V) (kd : Kd), vs = [v] ∧ Thg K H v kd ∧ RetV (.bl kd.whole) H Q
theorem whole_eq (kd : Kd) : (kd.isInt && !kd.isBool) = kd.whole := by cases kd <;> rfl
theorem spv_whole {K : PySem.W.Frag} {C : Cs} {H : Hp} {v : V} {kd : Kd} (h : Thg K H v kd) : SpV (sp_is_whole K C) [v] H (.bl kd.whole) := fun H1 e Q q E => ⟨v, kd, rfl, h.mono e, q⟩
theorem ok_is_whole {P : Program} {w : World} {K : PySem.W.Frag} {mg : Str → Option Value} {base : Heap} {C : Cs} (T : Txt K mg C) : Cl P w K mg base CX0 1 "is_whole" ["thing"] (sp_is_whole K C) := by
  refine cl0 T.d_is_whole sc_is_whole (fun vs H Q E h => ?_) (fun f cdv A outer s H vs Q E hr h => ?_)
  · obtain ⟨v, kd, rfl, hv, k⟩ := h
    rfl
  · obtain ⟨v, kd, rfl, hv, k⟩ := h
    refine ⟨_, (pss_one (ps_ret (pe_and (pe_callB (call_isiK' (K := K) rfl) (by rfl) T.b_isinstance (by decide +kernel) (pa_cons (pv 0) (pa_cons (pe_bltn (by rfl) T.b_int (by decide +kernel) (v := .ty "int") rfl) pa_nil))) (pe_one (pe_not (pe_callB (call_isiK' (K := K) rfl) (by rfl) T.b_isinstance (by decide +kernel) (pa_cons (pv 0) (pa_cons (pe_bltn (by rfl) T.b_bool (by decide +kernel) (v := .ty "bool") rfl) pa_nil)))))))), ?_⟩
    dsimp only [cxOf, L2H.cxH, Cx.nox, Cx.wish, L2.start, List.map_cons, List.map_nil, List.length_cons, List.length_nil, List.cons_append, List.nil_append]
    refine s_ret (v := .bl (kd.isInt && !kd.isBool)) (ev_andV (ev_cb (ea_cons (ev_var rfl) (ea_cons ev_c ea_nil)) (rc_isi hv fun _ => kd_int)) fun _ => ev_notV (ev_cb (ea_cons (ev_var rfl) (ea_cons ev_c ea_nil)) (rc_isi hv fun _ => kd_bool))) fun H1 e => ?_
    rw [whole_eq]
    exact k H1 e
def okSize : Kd → Bool
  | .int i => decide (1 ≤ i)
  | _ => false
def sp_check_wheels (K : PySem.W.Frag) (C : Cs) : Sp := fun vs H Q E => ∃ (v : V), vs = [v] ∧ ((∃ kd, Thg K H v kd ∧ kd.isList = false ∧ RetX C.BadWheels H E) ∨
  ∃ (a : Addr) (xs : List V) (ks : List Kd), v = .ref a ∧ SqL K H a xs ∧ Thgs K H xs ks ∧ xs.length ≤ 40000 ∧ (ks.all okSize = true → RetV .non H Q) ∧ (ks.all okSize = false → RetX C.BadWheels H E))
theorem ev_okSize {K : PySem.W.Frag} {H : Hp} {σ : L2.St} {te : TE} {v : V} {kd : Kd} (h : Thg K H v kd) (h1 : Ev te σ H (.bl kd.whole)) {tv : TE} (h2 : Ev tv σ H v) : Ev (tAndV te (tOp (rI0 fun i j => V.bl (decide (j ≤ i))) tv (tC (V.int 1)))) σ H (.bl (okSize kd)) := by
  cases h with
  | int i => exact ev_to (ev_andV h1 fun _ => ev_op h2 ev_c rv_I0) (by show V.bl (true && decide (1 ≤ i)) = V.bl (decide (1 ≤ i)); rw [Bool.true_and])
  | bl b => exact ev_andV (b := false) h1 fun q => nomatch q
  | non => exact ev_andV (b := false) h1 fun q => nomatch q
  | str x => exact ev_andV (b := false) h1 fun q => nomatch q
  | lst _ => exact ev_andV (b := false) h1 fun q => nomatch q
  | tup _ => exact ev_andV (b := false) h1 fun q => nomatch q
  | dct _ => exact ev_andV (b := false) h1 fun q => nomatch q
theorem all_map_id {α : Type} (f : α → Bool) (ks : List α) : (ks.map f).all id = ks.all f := by rw [List.all_map]; rfl
theorem ok_check_wheels {P : Program} {w : World} {K : PySem.W.Frag} {mg : Str → Option Value} {base : Heap} {C : Cs} (T : Txt K mg C) : Cl P w K mg base (L2N.CX P w) 2 "check_wheels" ["wheels"] (sp_check_wheels K C) := by
  have c_is_whole := ok_is_whole (P := P) (w := w) (base := base) T
  refine clX T.d_check_wheels sc_check_wheels (fun vs H Q E h => ?_) (fun f cdv A outer s H vs Q E hr h => ?_)
  · obtain ⟨v, rfl, h⟩ := h
    rfl
  · obtain ⟨v, rfl, h⟩ := h
    refine ⟨_, (pss_one (ps_if (PW.pt (pw_or (pt_not (pt_val (pe_callB (call_isiK' (K := K) rfl) (by rfl) T.b_isinstance (by decide +kernel) (pa_cons (pv 0) (pa_cons (pe_bltn (by rfl) T.b_list (by decide +kernel) (v := .ty "list") rfl) pa_nil))) (by intro _; rfl))) (pw_or1 (pt_not (pt_val (pe_callB (cr_allK (K := K) rfl rfl) (by rfl) T.b_all (by decide +kernel) (pa_cons (pe_lc (own := [("size", 1)]) (g := gName 1) (tt := tYes) rfl sc_check_wheels.nd (pi_listK (K := K) rfl (pv 0)) (blkOk_by (N := ["wheels", "size"]) (sc := defScope S_check_wheels) (own := [("size", 1)]) (by decide +kernel)) (fun _ _ _ _ _ => (pg_name (i := 1) sc_check_wheels.nd rfl (.inl rfl))) (fun _ _ _ _ _ => pts_nil) (fun _ _ _ _ _ => (pe_and (pe_cl c_is_whole (hr.mono (by decide)) (by rfl) pass0 (pa_cons (pv 1) pa_nil)) (pe_one (pe_cmpR op_ge (pv 1) pe_int (nomark _)))))) pa_nil)) (by intro _; rfl)))))) (pss_one (L2N.ps_raise rfl (L2N.takes_of rfl rfl rfl rfl) (L2N.pmk_own PySem.F.excBase_ValueError T.e_BadWheels.x T.e_BadWheels.g T.e_BadWheels.k (raises_own T.e_BadWheels.b T.e_BadWheels.t) rfl))) pss_nil)), ?_⟩
    dsimp only [cxOf, L2H.cxH, Cx.nox, Cx.wish, L2.start, List.map_cons, List.map_nil, List.length_cons, List.length_nil, List.cons_append, List.nil_append]
    rcases h with ⟨kd, hv, hk, kx⟩ | ⟨a, xs, ks, rfl, hS, hT, hl, k1, k2⟩
    · refine s_if (b := (!kd.isList || false)) (et_or (et_not (et_B (ev_cb (ea_cons (ev_var rfl) (ea_cons ev_c ea_nil)) (rc_isi hv fun _ => kd_list)))) fun q => ?_) (fun _ H1 e => kx H1 e) (fun q => ?_)
      · rw [hk] at q; cases q
      · rw [hk] at q; cases q
    · have e0 : (ks.map okSize).all id = ks.all okSize := all_map_id _ _
      refine s_if (b := (!true || !((ks.map okSize).all id))) (et_or (et_not (et_B (ev_cb (ea_cons (ev_var rfl) (ea_cons ev_c ea_nil)) (rc_isi (Thg.lst hS) fun _ => kd_list)))) fun q => et_not (et_B (ev_allN (el_list (by rw [List.length_map, List.length_map]; exact hT.len.symm) (ev_var rfl) hS hl (fun _ => rfl) fun i x y H1 e hx hy => ?_)))) (fun q H1 e => ?_) (fun q H1 e => ?_)
      · obtain ⟨kd, hk, ht⟩ := hT.get hx
        rw [List.map_map, List.getElem?_map, hk] at hy
        cases hy
        exact ev_okSize (ht.mono e) (ev_call (ea_cons (ev_var rfl) ea_nil) (spv_whole (ht.mono e))) (ev_var rfl)
      · rw [e0] at q
        refine k2 ?_ H1 e
        cases hq : ks.all okSize with
        | true => rw [hq] at q; cases q
        | false => rfl
      · rw [e0] at q
        refine k1 ?_ H1 e
        cases hq : ks.all okSize with
        | true => rfl
        | false => rw [hq] at q; cases q
/-! ### is_setting, check_setting -/
def inR (w : Int) : Kd → Bool
  | .int i => decide (0 ≤ i) && decide (i < w)
  | _ => false
def setOk : List Int → List Kd → Bool
  | [], [] => true
  | w :: ws, k :: ks => inR w k && setOk ws ks
  | _, _ => false
theorem setOk_len : ∀ {ws : List Int} {ks : List Kd}, setOk ws ks = true → ks.length = ws.length
  | [], [], _ => rfl
  | w :: ws, k :: ks, h => by
    have := setOk_len (ws := ws) (ks := ks) (by
      have h' : (inR w k && setOk ws ks) = true := h
      rw [Bool.and_eq_true] at h'
      exact h'.2)
    simp [this]
  | [], _ :: _, h => nomatch h
  | _ :: _, [], h => nomatch h
theorem setOk_range : ∀ (ws : List Int) (ks : List Kd), ks.length = ws.length → ((List.range ws.length).map fun i => inR (ws.getD i 0) (ks.getD i .rest)).all id = setOk ws ks
  | [], [], _ => rfl
  | w :: ws, k :: ks, h => by
    have := setOk_range ws ks (by simpa using h)
    rw [List.length_cons, List.range_succ_eq_map, List.map_cons, List.map_map, List.all_cons]
    show (inR w k && _) = (inR w k && setOk ws ks)
    rw [← this]
    rfl
  | [], _ :: _, h => by simp at h
  | _ :: _, [], h => by simp at h
theorem setOk_ints : ∀ {ws ss : List Int}, setOk ws (ss.map Kd.int) = true ↔ InS ws ss
  | [], [] => ⟨fun _ => trivial, fun _ => rfl⟩
  | w :: ws, s :: ss => by
    show (((decide (0 ≤ s) && decide (s < w)) && setOk ws (ss.map Kd.int)) = true) ↔ ((0 ≤ s ∧ s < w) ∧ InS ws ss)
    rw [Bool.and_eq_true, Bool.and_eq_true, decide_eq_true_iff, decide_eq_true_iff, setOk_ints]
  | [], _ :: _ => ⟨fun h => (nomatch h), fun h => False.elim h⟩
  | _ :: _, [] => ⟨fun h => (nomatch h), fun h => False.elim h⟩
/-- whether v is a setting of ws, as is_setting tells -/
def SetV (K : PySem.W.Frag) (H : Hp) (ws : List Int) (v : V) (b : Bool) : Prop :=
  (∃ kd, Thg K H v kd ∧ kd.isList = false ∧ b = false) ∨ ∃ (a : Addr) (xs : List V) (ks : List Kd), v = .ref a ∧ SqL K H a xs ∧ Thgs K H xs ks ∧ xs.length ≤ 40000 ∧ b = setOk ws ks
theorem SetV.mono {K : PySem.W.Frag} {H H' : Hp} {ws : List Int} {v : V} {b : Bool} (e : Ex H H') (h : SetV K H ws v b) : SetV K H' ws v b := by
  rcases h with ⟨kd, hv, hk, hb⟩ | ⟨a, xs, ks, rfl, hS, hT, hl, hb⟩
  · exact .inl ⟨kd, hv.mono e, hk, hb⟩
  · exact .inr ⟨a, xs, ks, rfl, ex_l e hS, hT.mono e, hl, hb⟩
theorem SetV.ints {K : PySem.W.Frag} {H : Hp} {ws ss : List Int} {a : Addr} (h : SqL K H a (ss.map V.int)) (hl : ss.length ≤ 40000) : SetV K H ws (.ref a) (setOk ws (ss.map Kd.int)) :=
  .inr ⟨a, _, _, rfl, h, Thgs.ints ss, by rw [List.length_map]; exact hl, rfl⟩
theorem SetV.good {K : PySem.W.Frag} {H : Hp} {ws ss : List Int} {a : Addr} (h : SqL K H a (ss.map V.int)) (hl : ss.length ≤ 40000) (hi : InS ws ss) : SetV K H ws (.ref a) true :=
  setOk_ints.mpr hi ▸ SetV.ints h hl
def sp_is_setting (K : PySem.W.Frag) (_ : Cs) : Sp := fun vs H Q _ => ∃ (a : Addr) (ws : List Int) (v : V) (b : Bool), vs = [.ref a, v] ∧ SqL K H a (ws.map V.int) ∧ ws.length ≤ 40000 ∧ SetV K H ws v b ∧ RetV (.bl b) H Q
theorem spv_is_setting {K : PySem.W.Frag} {C : Cs} {H : Hp} {a : Addr} {ws : List Int} {v : V} {b : Bool} (h1 : SqL K H a (ws.map V.int)) (h2 : ws.length ≤ 40000) (h : SetV K H ws v b) : SpV (sp_is_setting K C) [.ref a, v] H (.bl b) :=
  fun H1 e Q q E => ⟨a, ws, v, b, rfl, ex_l e h1, h2, h.mono e, q⟩
theorem ev_inR {K : PySem.W.Frag} {H : Hp} {σ : L2.St} {te : TE} {v : V} {kd : Kd} {w : Int} (h : Thg K H v kd) (h1 : Ev te σ H (.bl kd.whole)) {tv tw : TE} (h2 : Ev tv σ H v) (h3 : Ev tw σ H (.int w)) :
    Ev (tAndV te (tChain (rI0 fun i j => V.bl (decide (i ≤ j))) (rI0 fun i j => V.bl (decide (i < j))) (tC (V.int 0)) tv tw)) σ H (.bl (inR w kd)) := by
  cases h with
  | int i => exact ev_to (ev_andV h1 fun _ => ev_chainI (f := fun i j => decide (i ≤ j)) (f' := fun i j => decide (i < j)) ev_c h2 fun _ => h3) (by show V.bl (true && (decide (0 ≤ i) && decide (i < w))) = V.bl (decide (0 ≤ i) && decide (i < w)); rw [Bool.true_and])
  | bl b => exact ev_andV (b := false) h1 fun q => nomatch q
  | non => exact ev_andV (b := false) h1 fun q => nomatch q
  | str x => exact ev_andV (b := false) h1 fun q => nomatch q
  | lst _ => exact ev_andV (b := false) h1 fun q => nomatch q
  | tup _ => exact ev_andV (b := false) h1 fun q => nomatch q
  | dct _ => exact ev_andV (b := false) h1 fun q => nomatch q
theorem ok_is_setting {P : Program} {w : World} {K : PySem.W.Frag} {mg : Str → Option Value} {base : Heap} {C : Cs} (T : Txt K mg C) : Cl P w K mg base CX0 2 "is_setting" ["wheels", "setting"] (sp_is_setting K C) := by
  have c_is_whole := ok_is_whole (P := P) (w := w) (base := base) T
  refine cl0 T.d_is_setting sc_is_setting (fun vs H Q E h => ?_) (fun f cdv A outer s H vs Q E hr h => ?_)
  · obtain ⟨a, ws, v, b, rfl, hW, hwl, hV, k⟩ := h
    rfl
  · obtain ⟨a, ws, v, b, rfl, hW, hwl, hV, k⟩ := h
    refine ⟨_, (pss_cons (ps_if (PW.pt (pw_or (pt_not (pt_val (pe_callB (call_isiK' (K := K) rfl) (by rfl) T.b_isinstance (by decide +kernel) (pa_cons (pv 1) (pa_cons (pe_bltn (by rfl) T.b_list (by decide +kernel) (v := .ty "list") rfl) pa_nil))) (by intro _; rfl))) (pw_or1 (pt_cmpR op_ne (pe_callB (call_lenK (K := K) rfl) (by rfl) T.b_len PySem.boot_len (pa_cons (pv 1) pa_nil)) (pe_callB (call_lenK (K := K) rfl) (by rfl) T.b_len PySem.boot_len (pa_cons (pv 0) pa_nil)) (nomark _))))) (pss_one (ps_ret pe_bl)) pss_nil)
    (pss_one (ps_ret (pe_callB (cr_allK (K := K) rfl rfl) (by rfl) T.b_all (by decide +kernel) (pa_cons (pe_lc (own := [("k", 2)]) (g := gName 2) (tt := tYes) rfl sc_is_setting.nd (pi_range1 (by rfl) T.b_range (pa_cons (pe_callB (call_lenK (K := K) rfl) (by rfl) T.b_len PySem.boot_len (pa_cons (pv 0) pa_nil)) pa_nil)) (blkOk_by (N := ["wheels", "setting", "k"]) (sc := defScope S_is_setting) (own := [("k", 2)]) (by decide +kernel)) (fun _ _ _ _ _ => (pg_name (i := 2) sc_is_setting.nd rfl (.inl rfl))) (fun _ _ _ _ _ => pts_nil) (fun _ _ _ _ _ => (pe_and (pe_cl c_is_whole (hr.mono (by decide)) (by rfl) pass0 (pa_cons (pe_ix (ix_listK (K := K) rfl) (pv 1) (pv 2) (fun _ _ => rfl)) pa_nil)) (pe_one (pe_chain op_le op_lt pe_int (pe_ix (ix_listK (K := K) rfl) (pv 1) (pv 2) (fun _ _ => rfl)) (pe_ix (ix_listK (K := K) rfl) (pv 0) (pv 2) (fun _ _ => rfl))))))) pa_nil))))), ?_⟩
    dsimp only [cxOf, L2H.cxH, Cx.nox, Cx.wish, L2.start, List.map_cons, List.map_nil, List.length_cons, List.length_nil, List.cons_append, List.nil_append]
    rcases hV with ⟨kd, hv, hk, rfl⟩ | ⟨c, xs, ks, rfl, hS, hT, hl, rfl⟩
    · refine q_when (b := (!kd.isList || false)) (et_or (et_not (et_B (ev_cb (ea_cons (ev_var rfl) (ea_cons ev_c ea_nil)) (rc_isi hv fun _ => kd_list)))) fun q => ?_) (fun _ H1 e => s_ret ev_c fun H2 e2 => k _ (e.trans e2)) (fun q => ?_)
      · rw [hk] at q; cases q
      · rw [hk] at q; cases q
    · refine q_when (b := (!true || !decide ((xs.length : Int) = (ws.length : Int)))) (et_or (et_not (et_B (ev_cb (ea_cons (ev_var rfl) (ea_cons ev_c ea_nil)) (rc_isi (Thg.lst hS) fun _ => kd_list)))) fun q => ?zz) (fun q H1 e => ?_) (fun q H1 e => ?_)
      case zz =>
        walk_at "et"
      · refine s_ret ev_c fun H2 e2 => ?_
        have hne : setOk ws ks = false := by
          cases h : setOk ws ks with
          | false => rfl
          | true =>
            have h1 := setOk_len h
            have h2 := hT.len
            rw [decide_eq_true (show (xs.length : Int) = (ws.length : Int) by omega)] at q
            cases q
        rw [hne] at k
        exact k _ (e.trans e2)
      · have hlen : ks.length = ws.length := by
          have h2 := hT.len
          by_cases h : (xs.length : Int) = (ws.length : Int)
          · omega
          · rw [decide_eq_false h] at q; cases q
        have hT1 := hT.mono e
        have hS1 := ex_l e hS
        have hW1 := ex_l e hW
        refine s_ret (v := .bl (setOk ws ks)) ?_ fun H2 e2 => k _ (e.trans e2)
        rw [← setOk_range ws ks hlen]
        refine ev_allN (el_range (n := ws.length) (by rw [List.length_map, List.length_map, List.length_range]) (by walk_at "ea") hwl (fun _ => rfl) fun i y H2 e2 hi hy => ?_)
        rw [List.map_map, List.getElem?_map, List.getElem?_range hi] at hy
        cases hy
        have hix : i < xs.length := by have := hT.len; omega
        have hx : xs[i]? = some xs[i] := List.getElem?_eq_getElem hix
        obtain ⟨kd, hk, ht⟩ := hT1.get hx
        have ek : ks.getD i .rest = kd := by rw [List.getD_eq_getElem?_getD, hk]; rfl
        show Ev _ _ _ (.bl (inR (ws.getD i 0) (ks.getD i .rest)))
        rw [ek]
        have hW2 := ex_l e2 hW1
        have ei : Ev (tOp (rIxL K) (tVar 1) (tVar 2)) ((wipe [some (V.ref a), some (V.ref c), none] [2]).set 2 (some (.int (i : Int)))) H2 xs[i] := ev_op (ev_var rfl) (ev_var rfl) (rv_ixL (ex_l e2 hS1) (atI_nat hx))
        exact ev_inR (ht.mono e2) (ev_call (ea_cons ei ea_nil) (spv_whole (ht.mono e2))) ei (by walk_at "ev")
def sp_check_setting (K : PySem.W.Frag) (C : Cs) : Sp := fun vs H Q E => ∃ (a : Addr) (ws : List Int) (v : V) (b : Bool), vs = [.ref a, v] ∧ SqL K H a (ws.map V.int) ∧ ws.length ≤ 40000 ∧ SetV K H ws v b ∧ (b = true → RetV .non H Q) ∧ (b = false → RetX C.BadSetting H E)
theorem ok_check_setting {P : Program} {w : World} {K : PySem.W.Frag} {mg : Str → Option Value} {base : Heap} {C : Cs} (T : Txt K mg C) : Cl P w K mg base (L2N.CX P w) 3 "check_setting" ["wheels", "setting"] (sp_check_setting K C) := by
  have c_is_setting := ok_is_setting (P := P) (w := w) (base := base) T
  refine clX T.d_check_setting sc_check_setting (fun vs H Q E h => ?_) (fun f cdv A outer s H vs Q E hr h => ?_)
  · obtain ⟨a, ws, v, b, rfl, hW, hwl, hV, k1, k2⟩ := h
    rfl
  · obtain ⟨a, ws, v, b, rfl, hW, hwl, hV, k1, k2⟩ := h
    refine ⟨_, (pss_one (ps_if (pt_not (pt_val (pe_cl c_is_setting (hr.mono (by decide)) (by rfl) pass0 (pa_cons (pv 0) (pa_cons (pv 1) pa_nil))) (by intro _; rfl))) (pss_one (L2N.ps_raise rfl (L2N.takes_of rfl rfl rfl rfl) (L2N.pmk_own PySem.F.excBase_ValueError T.e_BadSetting.x T.e_BadSetting.g T.e_BadSetting.k (raises_own T.e_BadSetting.b T.e_BadSetting.t) rfl))) pss_nil)), ?_⟩
    dsimp only [cxOf, L2H.cxH, Cx.nox, Cx.wish, L2.start, List.map_cons, List.map_nil, List.length_cons, List.length_nil, List.cons_append, List.nil_append]
    refine s_if (b := !b) (et_not (et_B (ev_call (ea_cons (ev_var rfl) (ea_cons (ev_var rfl) ea_nil)) (spv_is_setting hW hwl hV)))) (fun q H1 e => k2 (by cases b with | true => cases q | false => rfl) H1 e) (fun q H1 e => k1 (by cases b with | true => rfl | false => cases q) H1 e)
/-! ### counts -/
/-- wheels that the program's arithmetic bears -/
structure Sm (ws : List Int) : Prop where
  len : ws.length ≤ 200
  pos : ∀ w ∈ ws, 0 ≤ w
  lt : ∀ w ∈ ws, w < 2 ^ 250
theorem Sm.nat {ws : List Int} (h : Sm ws) {w : Int} (hw : w ∈ ws) : w.natAbs < 2 ^ 250 := by
  have h0 := h.pos w hw
  have h1 := h.lt w hw
  have e : w = ((w.natAbs : Nat) : Int) := by omega
  rw [e] at h1
  exact_mod_cast h1
theorem cnt_lt : ∀ {ws : List Int}, (∀ w ∈ ws, w.natAbs < 2 ^ 250) → (cnt ws).natAbs < 2 ^ (250 * ws.length + 1)
  | [], _ => by show (1 : Int).natAbs < 2 ^ 1; decide
  | w :: ws, h => by
    have h1 := h w List.mem_cons_self
    have h2 := cnt_lt (ws := ws) fun x hx => h x (List.mem_cons_of_mem _ hx)
    have := wide_lt h1 h2
    show (w * cnt ws).natAbs < 2 ^ (250 * (ws.length + 1) + 1)
    rw [show 250 * (ws.length + 1) + 1 = 250 + (250 * ws.length + 1) by omega]
    exact this
theorem Sm.mulX {ws : List Int} (h : Sm ws) {i : Nat} {w : Int} (hw : w ∈ ws) : CMulX (cnt (ws.take i)) w := by
  have hl : (ws.take i).length ≤ 200 := Nat.le_trans (List.length_take_le' i ws) h.len
  refine mulx_ok (cnt_lt (ws := ws.take i) fun x hx => h.nat (List.mem_of_mem_take hx)) (h.nat hw) ?_
  omega
theorem take_succ_of {α : Type} {l : List α} {i : Nat} {x : α} (h : l[i]? = some x) : l.take (i + 1) = l.take i ++ [x] := by
  rw [List.take_succ, h]
  rfl
theorem map_get {ws : List Int} {i : Nat} {x : V} (h : (ws.map V.int)[i]? = some x) : ∃ w, x = .int w ∧ ws[i]? = some w ∧ w ∈ ws := by
  rw [List.getElem?_map] at h
  cases e : ws[i]? with
  | none => rw [e] at h; cases h
  | some w =>
    rw [e] at h
    exact ⟨w, (Option.some.inj h).symm, rfl, List.mem_of_getElem? e⟩
def sp_count_of (K : PySem.W.Frag) (_ : Cs) : Sp := fun vs H Q _ => ∃ (a : Addr) (ws : List Int), vs = [.ref a] ∧ SqL K H a (ws.map V.int) ∧ Sm ws ∧ RetV (.int (cnt ws)) H Q
theorem spv_count_of {K : PySem.W.Frag} {C : Cs} {H : Hp} {a : Addr} {ws : List Int} (h1 : SqL K H a (ws.map V.int)) (h : Sm ws) : SpV (sp_count_of K C) [.ref a] H (.int (cnt ws)) :=
  fun H1 e Q q E => ⟨a, ws, rfl, ex_l e h1, h, q⟩
/-! ### check_number, settings -/
def numOk (m : Int) : Kd → Bool
  | .int i => decide (0 ≤ i) && decide (i < m)
  | _ => false
def sp_check_number (K : PySem.W.Frag) (C : Cs) : Sp := fun vs H Q E => ∃ (a : Addr) (ws : List Int) (v : V) (kd : Kd), vs = [.ref a, v] ∧ SqL K H a (ws.map V.int) ∧ Sm ws ∧ Thg K H v kd ∧ (numOk (cnt ws) kd = true → RetV .non H Q) ∧ (numOk (cnt ws) kd = false → RetX C.BadNumber H E)
/-- wheels that are asked at a door: bad ones are refused, with good ones it goes on -/
def Door (K : PySem.W.Frag) (C : Cs) (H : Hp) (v : V) (E : XK) (good : Addr → List Int → Prop) : Prop :=
  (∃ kd, Thg K H v kd ∧ kd.isList = false ∧ RetX C.BadWheels H E) ∨
  (∃ (a : Addr) (xs : List V) (ks : List Kd), v = .ref a ∧ SqL K H a xs ∧ Thgs K H xs ks ∧ xs.length ≤ 40000 ∧ ks.all okSize = false ∧ RetX C.BadWheels H E) ∨
  ∃ (a : Addr) (ws : List Int), v = .ref a ∧ SqL K H a (ws.map V.int) ∧ Pos ws ∧ ws.length ≤ 40000 ∧ good a ws
theorem okSize_ints : ∀ {ws : List Int}, Pos ws → (ws.map Kd.int).all okSize = true
  | [], _ => rfl
  | w :: ws, h => by
    show (decide (1 ≤ w) && (ws.map Kd.int).all okSize) = true
    rw [decide_eq_true h.head, okSize_ints h.tail]
    rfl
theorem Door.check {K : PySem.W.Frag} {C : Cs} {H : Hp} {v : V} {E : XK} {good : Addr → List Int → Prop} (h : Door K C H v E good) {Q : VK} (k : ∀ a ws, v = .ref a → SqL K H a (ws.map V.int) → Pos ws → ws.length ≤ 40000 → good a ws → ∀ H1, Ex H H1 → Q .non H1) :
    sp_check_wheels K C [v] H Q E := by
  refine ⟨v, rfl, ?_⟩
  rcases h with ⟨kd, h1, h2, h3⟩ | ⟨a, xs, ks, rfl, h1, h2, h3, h4, h5⟩ | ⟨a, ws, rfl, h1, h2, h3, h4⟩
  · exact .inl ⟨kd, h1, h2, h3⟩
  · exact .inr ⟨a, xs, ks, rfl, h1, h2, h3, fun q => (by rw [h4] at q; cases q), fun _ => h5⟩
  · exact .inr ⟨a, _, _, rfl, h1, Thgs.ints ws, by rw [List.length_map]; exact h3, fun _ => k a ws rfl h1 h2 h3 h4, fun q => by rw [okSize_ints h2] at q; cases q⟩
theorem Door.mono {K : PySem.W.Frag} {C : Cs} {H H' : Hp} {v : V} {E : XK} {good : Addr → List Int → Prop} (e : Ex H H') (h : Door K C H v E good) : Door K C H' v E good := by
  rcases h with ⟨kd, h1, h2, h3⟩ | ⟨a, xs, ks, rfl, h1, h2, h3, h4, h5⟩ | ⟨a, ws, rfl, h1, h2, h3, h4⟩
  · exact .inl ⟨kd, h1.mono e, h2, h3.go e⟩
  · exact .inr (.inl ⟨a, xs, ks, rfl, ex_l e h1, h2.mono e, h3, h4, h5.go e⟩)
  · exact .inr (.inr ⟨a, ws, rfl, ex_l e h1, h2, h3, h4⟩)
def sp_settings (K : PySem.W.Frag) (C : Cs) : Sp := fun vs H Q E => ∃ (v : V), vs = [v] ∧ Door K C H v E fun a ws => Sm ws ∧ RetV (.int (cnt ws)) H Q
theorem spv_settings {K : PySem.W.Frag} {C : Cs} {H : Hp} {a : Addr} {ws : List Int} (h1 : SqL K H a (ws.map V.int)) (h2 : Pos ws) (h : Sm ws) : SpV (sp_settings K C) [.ref a] H (.int (cnt ws)) :=
  fun H1 e Q q E => ⟨_, rfl, .inr (.inr ⟨a, ws, rfl, ex_l e h1, h2, Nat.le_trans h.len (by decide), h, q⟩)⟩
/-! ### setting_at -/
def dvd (ws : List Int) (n : Int) : Nat → Int
  | 0 => n
  | i + 1 => dvd ws n i / ws.getD i 1
theorem dvd_succ {ws : List Int} {n : Int} {i : Nat} {w : Int} (h : ws[i]? = some w) : dvd ws n (i + 1) = dvd ws n i / w := by
  show dvd ws n i / ws.getD i 1 = _
  rw [List.getD_eq_getElem?_getD, h]
  rfl
theorem dvd_cons (v : Int) (ws : List Int) (n : Int) : ∀ i : Nat, dvd (v :: ws) n (i + 1) = dvd ws (n / v) i
  | 0 => rfl
  | i + 1 => by
    show dvd (v :: ws) n (i + 1) / ws.getD i 1 = dvd ws (n / v) i / ws.getD i 1
    rw [dvd_cons v ws n i]
theorem setAt_get : ∀ {ws : List Int} {n : Int} {i : Nat} {w : Int}, ws[i]? = some w → (setAt ws n)[i]? = some (if dvd ws n i / w % 2 = 0 then dvd ws n i % w else w - 1 - dvd ws n i % w)
  | [], n, i, w, h => by simp at h
  | v :: ws, n, 0, w, h => by
    have e : v = w := Option.some.inj h
    subst e
    rfl
  | v :: ws, n, i + 1, w, h => by
    rw [dvd_cons]
    exact setAt_get (ws := ws) (n := n / v) (i := i) h
theorem divp_small {i j : Int} (h0 : 0 < j) (h1 : j < 2 ^ 250) : CDivP i j := by
  refine ⟨h0, ?_⟩
  have hn : j.natAbs < 2 ^ 250 := by
    have e : j = ((j.natAbs : Nat) : Int) := by omega
    rw [e] at h1
    exact_mod_cast h1
  have hl : j.natAbs.log2 < 250 := (Nat.log2_lt (by omega)).mpr hn
  show (decide ((if j == 0 then 0 else j.natAbs.log2 / 30 + 1) > 300) && decide ((if i == 0 then 0 else i.natAbs.log2 / 30 + 1) > (if j == 0 then 0 else j.natAbs.log2 / 30 + 1) + 150)) = false
  rw [if_neg (show ¬ (j == 0) = true by simpa using (show j ≠ 0 by omega)), decide_eq_false (by omega)]
  rfl
def sp_setting_at (K : PySem.W.Frag) (_ : Cs) : Sp := fun vs H Q _ => ∃ (a : Addr) (ws : List Int) (n : Int), vs = [.ref a, .int n] ∧ SqL K H a (ws.map V.int) ∧ Pos ws ∧ Sm ws ∧ RetL ((setAt ws n).map V.int) H Q
theorem spl_setting_at {K : PySem.W.Frag} {C : Cs} {H : Hp} {a : Addr} {ws : List Int} {n : Int} (h1 : SqL K H a (ws.map V.int)) (h2 : Pos ws) (h : Sm ws) : SpL (sp_setting_at K C) [.ref a, .int n] H ((setAt ws n).map V.int) :=
  fun H1 e Q q E => ⟨a, ws, n, rfl, ex_l e h1, h2, h, fun p H2 hp e2 h2 => q p H2 hp e2 h2⟩
/-! ### number_at -/
theorem numAt_drop {ws ss : List Int} {k : Nat} (h : k < ws.length) (hl : ss.length = ws.length) :
    numAt (ws.drop k) (ss.drop k) = numAt (ws.drop (k + 1)) (ss.drop (k + 1)) * ws.getD k 0 + (if numAt (ws.drop (k + 1)) (ss.drop (k + 1)) % 2 = 0 then ss.getD k 0 else ws.getD k 0 - 1 - ss.getD k 0) := by
  have h2 : k < ss.length := by omega
  rw [List.drop_eq_getElem_cons h, List.drop_eq_getElem_cons h2, List.getD_eq_getElem?_getD, List.getD_eq_getElem?_getD, List.getElem?_eq_getElem h, List.getElem?_eq_getElem h2]
  rfl
theorem InS.drop : ∀ {ws ss : List Int} (k : Nat), InS ws ss → InS (ws.drop k) (ss.drop k)
  | _, _, 0, h => h
  | [], [], _ + 1, _ => trivial
  | _ :: _, _ :: _, k + 1, h => InS.drop k h.2
  | [], _ :: _, _ + 1, h => False.elim h
  | _ :: _, [], _ + 1, h => False.elim h
theorem Sm.drop {ws : List Int} (h : Sm ws) (k : Nat) : Sm (ws.drop k) := ⟨by rw [List.length_drop]; have := h.len; omega, fun w hw => h.pos w (List.mem_of_mem_drop hw), fun w hw => h.lt w (List.mem_of_mem_drop hw)⟩
theorem num_lt {ws ss : List Int} (h : Sm ws) (hi : InS ws ss) : (numAt ws ss).natAbs < 2 ^ 50001 := by
  obtain ⟨a, b⟩ := num_bd hi
  have hc := cnt_lt (ws := ws) fun w hw => h.nat hw
  have hp : (2 : Nat) ^ (250 * ws.length + 1) ≤ 2 ^ 50001 := Nat.pow_le_pow_right (by omega) (by have := h.len; omega)
  omega
theorem getD_mem {ws : List Int} {k : Nat} (h : k < ws.length) : ws.getD k 0 ∈ ws := by
  rw [List.getD_eq_getElem?_getD, List.getElem?_eq_getElem h]
  exact List.getElem_mem h
def sp_number_at (K : PySem.W.Frag) (_ : Cs) : Sp := fun vs H Q _ => ∃ (a b : Addr) (ws ss : List Int), vs = [.ref a, .ref b] ∧ SqL K H a (ws.map V.int) ∧ SqL K H b (ss.map V.int) ∧ InS ws ss ∧ Sm ws ∧ RetV (.int (numAt ws ss)) H Q
theorem spv_number_at {K : PySem.W.Frag} {C : Cs} {H : Hp} {a b : Addr} {ws ss : List Int} (h1 : SqL K H a (ws.map V.int)) (h2 : SqL K H b (ss.map V.int)) (hi : InS ws ss) (h : Sm ws) : SpV (sp_number_at K C) [.ref a, .ref b] H (.int (numAt ws ss)) :=
  fun H1 e Q q E => ⟨a, b, ws, ss, rfl, ex_l e h1, ex_l e h2, hi, h, q⟩
/-! ### setting_of, number_of -/
theorem numOk_iff {m : Int} {kd : Kd} : numOk m kd = true ↔ ∃ i, kd = .int i ∧ 0 ≤ i ∧ i < m := by
  cases kd with
  | int i =>
    show (decide (0 ≤ i) && decide (i < m)) = true ↔ _
    rw [Bool.and_eq_true, decide_eq_true_iff, decide_eq_true_iff]
    exact ⟨fun h => ⟨i, rfl, h⟩, fun ⟨j, e, h⟩ => by cases e; exact h⟩
  | bool => exact ⟨fun h => (nomatch h), fun ⟨j, e, h⟩ => (nomatch e)⟩
  | list => exact ⟨fun h => (nomatch h), fun ⟨j, e, h⟩ => (nomatch e)⟩
  | str => exact ⟨fun h => (nomatch h), fun ⟨j, e, h⟩ => (nomatch e)⟩
  | tup => exact ⟨fun h => (nomatch h), fun ⟨j, e, h⟩ => (nomatch e)⟩
  | rest => exact ⟨fun h => (nomatch h), fun ⟨j, e, h⟩ => (nomatch e)⟩
theorem Thg.toInt {K : PySem.W.Frag} {H : Hp} {v : V} {i : Int} (h : Thg K H v (.int i)) : v = .int i := by
  cases h
  rfl
theorem setOk_get {K : PySem.W.Frag} {H : Hp} : ∀ {ws : List Int} {xs : List V} {ks : List Kd}, Thgs K H xs ks → setOk ws ks = true → ∃ ss : List Int, ks = ss.map Kd.int ∧ xs = ss.map V.int ∧ InS ws ss
  | [], _, _, .nil, _ => ⟨[], rfl, rfl, trivial⟩
  | [], _, _, .cons _ _, h => nomatch h
  | _ :: _, _, _, .nil, h => nomatch h
  | w :: ws, _, _, .cons (a := v) (b := kd) r t, h => by
    have h' : (inR w kd && setOk ws _) = true := h
    rw [Bool.and_eq_true] at h'
    obtain ⟨ss, rfl, rfl, hi⟩ := setOk_get t h'.2
    cases r with
    | int i =>
      have h1 : (decide (0 ≤ i) && decide (i < w)) = true := h'.1
      rw [Bool.and_eq_true, decide_eq_true_iff, decide_eq_true_iff] at h1
      exact ⟨i :: ss, rfl, rfl, h1, hi⟩
    | bl b => exact nomatch h'.1
    | non => exact nomatch h'.1
    | str x => exact nomatch h'.1
    | lst _ => exact nomatch h'.1
    | tup _ => exact nomatch h'.1
    | dct _ => exact nomatch h'.1
theorem SetV.get {K : PySem.W.Frag} {H : Hp} {ws : List Int} {v : V} (h : SetV K H ws v true) : ∃ (a : Addr) (ss : List Int), v = .ref a ∧ SqL K H a (ss.map V.int) ∧ InS ws ss := by
  rcases h with ⟨kd, hv, hk, hb⟩ | ⟨a, xs, ks, rfl, hS, hT, hl, hb⟩
  · cases hb
  · obtain ⟨ss, rfl, rfl, hi⟩ := setOk_get hT hb.symm
    exact ⟨a, ss, rfl, hS, hi⟩
def sp_setting_of (K : PySem.W.Frag) (C : Cs) : Sp := fun vs H Q E => ∃ (v n : V), vs = [v, n] ∧ Door K C H v E fun _ ws => Sm ws ∧ ∃ kd, Thg K H n kd ∧ (numOk (cnt ws) kd = false → RetX C.BadNumber H E) ∧
  ∀ i, kd = .int i → 0 ≤ i → i < cnt ws → RetL ((setAt ws i).map V.int) H Q
theorem spl_setting_of {K : PySem.W.Frag} {C : Cs} {H : Hp} {a : Addr} {ws : List Int} {n : Int} (h1 : SqL K H a (ws.map V.int)) (h2 : Pos ws) (h : Sm ws) (n0 : 0 ≤ n) (n1 : n < cnt ws) : SpL (sp_setting_of K C) [.ref a, .int n] H ((setAt ws n).map V.int) :=
  fun H1 e Q q E => ⟨_, _, rfl, .inr (.inr ⟨a, ws, rfl, ex_l e h1, h2, Nat.le_trans h.len (by decide), h, .int n, .int n, fun z => (by rw [numOk_iff.mpr ⟨n, rfl, n0, n1⟩] at z; cases z), fun i ei _ _ => by cases ei; exact fun p H2 hp e2 h2 => q p H2 hp e2 h2⟩)⟩
/-- what is asked as a setting of ws at a door: a bad one is refused, with a good one it goes on -/
def DoorS (K : PySem.W.Frag) (C : Cs) (H : Hp) (ws : List Int) (s : V) (E : XK) (good : Addr → List Int → Prop) : Prop :=
  (SetV K H ws s false ∧ RetX C.BadSetting H E) ∨ ∃ (c : Addr) (ss : List Int), s = .ref c ∧ SqL K H c (ss.map V.int) ∧ InS ws ss ∧ good c ss
theorem DoorS.mono {K : PySem.W.Frag} {C : Cs} {H H' : Hp} {ws : List Int} {s : V} {E : XK} {good : Addr → List Int → Prop} (e : Ex H H') (h : DoorS K C H ws s E good) : DoorS K C H' ws s E good := by
  rcases h with ⟨h1, h2⟩ | ⟨c, ss, rfl, h1, h2, h3⟩
  · exact .inl ⟨h1.mono e, h2.go e⟩
  · exact .inr ⟨c, ss, rfl, ex_l e h1, h2, h3⟩
theorem DoorS.check {K : PySem.W.Frag} {C : Cs} {H : Hp} {a : Addr} {ws : List Int} {s : V} {E : XK} {good : Addr → List Int → Prop} (hW : SqL K H a (ws.map V.int)) (hl : ws.length ≤ 40000) (h : DoorS K C H ws s E good) {Q : VK}
    (k : ∀ c ss, s = .ref c → SqL K H c (ss.map V.int) → InS ws ss → good c ss → ∀ H1, Ex H H1 → Q .non H1) : sp_check_setting K C [.ref a, s] H Q E := by
  rcases h with ⟨h1, h2⟩ | ⟨c, ss, rfl, h1, h2, h3⟩
  · exact ⟨a, ws, s, false, rfl, hW, hl, h1, fun q => (nomatch q), fun _ => h2⟩
  · exact ⟨a, ws, _, true, rfl, hW, hl, SetV.good h1 (by rw [h2.len]; exact hl) h2, fun _ => k c ss rfl h1 h2 h3, fun q => (nomatch q)⟩
def sp_number_of (K : PySem.W.Frag) (C : Cs) : Sp := fun vs H Q E => ∃ (v s : V), vs = [v, s] ∧ Door K C H v E fun _ ws => Sm ws ∧ DoorS K C H ws s E fun _ ss => RetV (.int (numAt ws ss)) H Q
theorem spv_number_of {K : PySem.W.Frag} {C : Cs} {H : Hp} {a b : Addr} {ws ss : List Int} (h1 : SqL K H a (ws.map V.int)) (h2 : Pos ws) (h : Sm ws) (h3 : SqL K H b (ss.map V.int)) (hi : InS ws ss) : SpV (sp_number_of K C) [.ref a, .ref b] H (.int (numAt ws ss)) :=
  fun H1 e Q q E => ⟨_, _, rfl, .inr (.inr ⟨a, ws, rfl, ex_l e h1, h2, Nat.le_trans h.len (by decide), h, .inr ⟨b, ss, rfl, ex_l e h3, hi, q⟩⟩)⟩
/-! ### the law's own draws -/
def primes : List Int := [1000003, 1000033, 1000037, 1000039, 1000081, 1000099, 1000117, 1000121, 1000133, 1000151, 1000159, 1000171, 1000183, 1000187, 1000193, 1000199]
theorem primes_len : primes.length = 16 := rfl
theorem primes_pos {i : Nat} (h : i < 16) : 0 < primes.getD i 0 := by
  have : ∀ i : Fin 16, 0 < primes.getD i.val 0 := by decide
  exact this ⟨i, h⟩
def drawI (c k m : Int) : Int := (c * 48271 + k * 69621) % (primes.getD (k % 16).toNat 0) % m
theorem draw_nn {c k m : Int} (h : 0 < m) : 0 ≤ drawI c k m := Int.emod_nonneg _ (by omega)
theorem draw_lt {c k m : Int} (h : 0 < m) : drawI c k m < m := Int.emod_lt_of_pos _ h
def sp_law_cell_at (K : PySem.W.Frag) (_ : Cs) : Sp := fun vs H Q _ => ∃ (a : Addr) (ns : List Int) (k : Int), vs = [.ref a, .int k] ∧ SqL K H a (ns.map V.int) ∧ 0 ≤ k ∧ RetV (.int (ns.getD k.toNat 0)) H Q
theorem spv_cell {K : PySem.W.Frag} {C : Cs} {H : Hp} {a : Addr} {ns : List Int} {k : Int} (h1 : SqL K H a (ns.map V.int)) (h : 0 ≤ k) : SpV (sp_law_cell_at K C) [.ref a, .int k] H (.int (ns.getD k.toNat 0)) :=
  fun H1 e Q q E => ⟨a, ns, k, rfl, ex_l e h1, h, q⟩
theorem ok_law_cell_at {P : Program} {w : World} {K : PySem.W.Frag} {mg : Str → Option Value} {base : Heap} {C : Cs} (T : Txt K mg C) : Cl P w K mg base CX0 1 "_law_cell_at" ["_law_script", "_law_k"] (sp_law_cell_at K C) := by
  refine cl0 T.d_law_cell_at sc_law_cell_at (fun vs H Q E h => ?_) (fun f cdv A outer s H vs Q E hr h => ?_)
  · obtain ⟨a, ns, k, rfl, hS, h0, kk⟩ := h
    rfl
  · obtain ⟨a, ns, k, rfl, hS, h0, kk⟩ := h
    refine ⟨_, (pss_cons (ps_if (pt_cmpR op_lt (pv 1) (pe_callB (call_lenK (K := K) rfl) (by rfl) T.b_len PySem.boot_len (pa_cons (pv 0) pa_nil)) (nomark _)) (pss_one (ps_ret (pe_ix (ix_listK (K := K) rfl) (pv 0) (pv 1) (fun _ _ => rfl)))) pss_nil)
    (pss_one (ps_ret pe_int))), ?_⟩
    dsimp only [cxOf, L2H.cxH, Cx.nox, Cx.wish, L2.start, List.map_cons, List.map_nil, List.length_cons, List.length_nil, List.cons_append, List.nil_append]
    refine q_when (b := decide (k < (ns.length : Int))) (by walk_at "et") (fun hb H1 e => ?_) (fun hb H1 e => ?_)
    · have hk := of_decide_eq_true hb
      have hS1 := ex_l e hS
      exact s_ret (by walk_at "ev") fun H2 e2 => kk _ (e.trans e2)
    · have hk := of_decide_eq_false hb
      rw [List.getD_eq_getElem?_getD, List.getElem?_eq_none (by omega)] at kk
      exact s_ret ev_c fun H2 e2 => kk _ (e.trans e2)
def sp_law_draw (K : PySem.W.Frag) (_ : Cs) : Sp := fun vs H Q _ => ∃ (c k m : Int), vs = [.int c, .int k, .int m] ∧ 0 < m ∧ RetV (.int (drawI c k m)) H Q
theorem spv_draw {K : PySem.W.Frag} {C : Cs} {H : Hp} {c k m : Int} (h : 0 < m) : SpV (sp_law_draw K C) [.int c, .int k, .int m] H (.int (drawI c k m)) :=
  fun H1 e Q q E => ⟨c, k, m, rfl, h, q⟩
theorem ok_law_draw {P : Program} {w : World} {K : PySem.W.Frag} {mg : Str → Option Value} {base : Heap} {C : Cs} (T : Txt K mg C) : Cl P w K mg base CX0 1 "_law_draw" ["_law_cell", "_law_k", "_law_many"] (sp_law_draw K C) := by
  refine cl0 T.d_law_draw sc_law_draw (fun vs H Q E h => ?_) (fun f cdv A outer s H vs Q E hr h => ?_)
  · obtain ⟨c, k, m, rfl, h0, kk⟩ := h
    rfl
  · obtain ⟨c, k, m, rfl, h0, kk⟩ := h
    refine ⟨_, (pss_cons (ps_set (i := 3) sc_law_draw.nd rfl (.inl rfl) (pe_tup (pa_cons pe_int (pa_cons pe_int (pa_cons pe_int (pa_cons pe_int (pa_cons pe_int (pa_cons pe_int (pa_cons pe_int (pa_cons pe_int (pa_cons pe_int (pa_cons pe_int (pa_cons pe_int (pa_cons pe_int (pa_cons pe_int (pa_cons pe_int (pa_cons pe_int (pa_cons pe_int pa_nil))))))))))))))))))
    (pss_one (ps_ret (pe_op op_mod (pe_op op_mod (pe_op op_add (pe_op op_mulA (pv 0) pe_int) (pe_op op_mulA (pv 1) pe_int)) (pe_ix (ix_tupK (K := K) rfl) (pv 3) (pe_op op_mod (pv 1) pe_int) (fun _ _ => rfl))) (pv 2))))), ?_⟩
    dsimp only [cxOf, L2H.cxH, Cx.nox, Cx.wish, L2.start, List.map_cons, List.map_nil, List.length_cons, List.length_nil, List.cons_append, List.nil_append]
    refine q_asgU (eu_tup (by walk_at "ea") (by show (16 : Nat) ≤ 100000; decide)) fun p H1 hp e1 h1 => ?_
    have h1' : SqT K H1 p (primes.map V.int) := st_of h1
    have k0 : 0 ≤ k % 16 := Int.emod_nonneg _ (by decide)
    have k1 : k % 16 < 16 := Int.emod_lt_of_pos _ (by decide)
    have k2 := primes_len
    have hpp : 0 < primes.getD (k % 16).toNat 0 := primes_pos (by omega)
    exact s_ret (v := .int (drawI c k m)) (by unfold drawI; walk_at "ev") fun H2 e2 => kk _ (e1.trans e2)
def menuI : List Int := [4, 2, 9, 40, 3, 1]
theorem menu_len : menuI.length = 6 := rfl
theorem menu_pos {i : Nat} (h : i < 6) : 0 < menuI.getD i 0 ∧ menuI.getD i 0 ≤ 40 := by
  have : ∀ i : Fin 6, 0 < menuI.getD i.val 0 ∧ menuI.getD i.val 0 ≤ 40 := by decide
  exact this ⟨i, h⟩
def kindI (s : List Int) : Int := drawI (s.getD 0 0) 6 6
/-- the size by its steps -/
def size0 (kind c k : Int) : Int := 1 + drawI c (k % 5 + 1) (menuI.getD kind.toNat 0)
def size1 (kind c k : Int) : Int := if kind = 2 then size0 kind c k / 2 * 2 + 1 else size0 kind c k
def size2 (kind c k : Int) : Int := if kind = 4 ∧ 2 < k then 1 else size1 kind c k
def sizeI (kind c k : Int) : Int := if kind = 5 then 1 + c / 7 % 10 ^ (59 : Int).toNat else size2 kind c k
theorem kind_bd (s : List Int) : 0 ≤ kindI s ∧ kindI s < 6 := ⟨draw_nn (by decide), draw_lt (by decide)⟩
theorem size_bd {kind c k : Int} (h0 : 0 ≤ kind) (h1 : kind < 6) : 1 ≤ sizeI kind c k ∧ sizeI kind c k ≤ 10 ^ 59 := by
  have hm := menu_pos (i := kind.toNat) (by omega)
  have a := draw_nn (c := c) (k := k % 5 + 1) hm.1
  have b := draw_lt (c := c) (k := k % 5 + 1) hm.1
  have z0 : 1 ≤ size0 kind c k ∧ size0 kind c k ≤ 40 := by unfold size0; omega
  have z1 : 1 ≤ size1 kind c k ∧ size1 kind c k ≤ 41 := by unfold size1; split <;> omega
  have z2 : 1 ≤ size2 kind c k ∧ size2 kind c k ≤ 41 := by unfold size2; split <;> omega
  have e : (10 : Int) ^ (59 : Int).toNat = 100000000000000000000000000000000000000000000000000000000000 := by decide
  have e2 : (10 : Int) ^ 59 = 100000000000000000000000000000000000000000000000000000000000 := by decide
  rw [e2]
  unfold sizeI
  rw [e]
  split
  · have c0 := Int.emod_nonneg (c / 7) (b := 100000000000000000000000000000000000000000000000000000000000) (by decide)
    have c1 := Int.emod_lt_of_pos (c / 7) (b := 100000000000000000000000000000000000000000000000000000000000) (by decide)
    omega
  · omega
def wheelsI (ns : List Int) : List Int := (List.range (ns.take 63).length).map fun i => sizeI (kindI (ns.take 63)) ((ns.take 63).getD i 0) (i : Int)
theorem wheels_len (ns : List Int) : (wheelsI ns).length = min 63 ns.length := by
  unfold wheelsI
  rw [List.length_map, List.length_range, List.length_take]
theorem wheels_bd {ns : List Int} {w : Int} (h : w ∈ wheelsI ns) : 1 ≤ w ∧ w ≤ 10 ^ 59 := by
  obtain ⟨i, _, rfl⟩ := List.mem_map.mp h
  exact size_bd (kind_bd _).1 (kind_bd _).2
theorem wheels_pos (ns : List Int) : Pos (wheelsI ns) := fun w h => (wheels_bd h).1
theorem lim59 : (10 : Int) ^ 59 < 2 ^ 250 := by decide
theorem wheels_sm (ns : List Int) : Sm (wheelsI ns) := ⟨by rw [wheels_len]; omega, fun w h => by have := (wheels_bd h).1; omega, fun w h => by have := (wheels_bd h).2; have := lim59; omega⟩
def sp_law_wheels (K : PySem.W.Frag) (_ : Cs) : Sp := fun vs H Q _ => ∃ (a : Addr) (ns : List Int), vs = [.ref a] ∧ SqL K H a (ns.map V.int) ∧ RetL ((wheelsI ns).map V.int) H Q
theorem spl_wheels {K : PySem.W.Frag} {C : Cs} {H : Hp} {a : Addr} {ns : List Int} (h1 : SqL K H a (ns.map V.int)) : SpL (sp_law_wheels K C) [.ref a] H ((wheelsI ns).map V.int) :=
  fun H1 e Q q E => ⟨a, ns, rfl, ex_l e h1, fun p H2 hp e2 h2 => q p H2 hp e2 h2⟩
theorem ok_law_wheels {P : Program} {w : World} {K : PySem.W.Frag} {mg : Str → Option Value} {base : Heap} {C : Cs} (T : Txt K mg C) : Cl P w K mg base CX0 2 "_law_wheels" ["_law_script"] (sp_law_wheels K C) := by
  have c_law_draw := ok_law_draw (P := P) (w := w) (base := base) T
  have c_law_cell_at := ok_law_cell_at (P := P) (w := w) (base := base) T
  refine cl0 T.d_law_wheels sc_law_wheels (fun vs H Q E h => ?_) (fun f cdv A outer s H vs Q E hr h => ?_)
  · obtain ⟨a, ns, rfl, hS, kk⟩ := h
    rfl
  · obtain ⟨a, ns, rfl, hS, kk⟩ := h
    refine ⟨_, (pss_cons (ps_set (i := 0) sc_law_wheels.nd rfl (.inl rfl) (pe_slice (sl_listK (K := K) rfl) (pv 0) po_none (po_some pe_int)))
    (pss_cons (ps_set (i := 1) sc_law_wheels.nd rfl (.inl rfl) (pe_cl c_law_draw (hr.mono (by decide)) (by rfl) pass0 (pa_cons (pe_cl c_law_cell_at (hr.mono (by decide)) (by rfl) pass0 (pa_cons (pv 0) (pa_cons pe_int pa_nil))) (pa_cons pe_int (pa_cons pe_int pa_nil)))))
    (pss_cons (ps_set (i := 2) sc_law_wheels.nd rfl (.inl rfl) (pe_lst pa_nil))
    (pss_cons (ps_for PassesOwn.never rfl (pi_range1 (by rfl) T.b_range (pa_cons (pe_callB (call_lenK (K := K) rfl) (by rfl) T.b_len PySem.boot_len (pa_cons (pv 0) pa_nil)) pa_nil)) (pg_name (i := 3) sc_law_wheels.nd rfl (.inl rfl))
    (pss_cons (ps_set (i := 4) sc_law_wheels.nd rfl (.inl rfl) (pe_op op_add pe_int (pe_cl c_law_draw (hr.mono (by decide)) (by rfl) pass0 (pa_cons (pe_ix (ix_listK (K := K) rfl) (pv 0) (pv 3) (fun _ _ => rfl)) (pa_cons (pe_op op_add (pe_op op_mod (pv 3) pe_int) pe_int) (pa_cons (pe_ix (ix_tupK (K := K) rfl) (pe_tup (pa_cons pe_int (pa_cons pe_int (pa_cons pe_int (pa_cons pe_int (pa_cons pe_int (pa_cons pe_int pa_nil))))))) (pv 1) (fun _ _ => rfl)) pa_nil))))))
    (pss_cons (ps_if (pt_cmpR op_eq (pv 1) pe_int (nomark _)) (pss_one (ps_set (i := 4) sc_law_wheels.nd rfl (.inl rfl) (pe_op op_add (pe_op op_mulA (pe_op op_fdiv (pv 4) pe_int) pe_int) pe_int))) pss_nil)
    (pss_cons (ps_if (PW.pt (pw_and (pt_cmpR op_eq (pv 1) pe_int (nomark _)) (pw_and1 (pt_cmpR op_gt (pv 3) pe_int (nomark _))))) (pss_one (ps_set (i := 4) sc_law_wheels.nd rfl (.inl rfl) pe_int)) pss_nil)
    (pss_cons (ps_if (pt_cmpR op_eq (pv 1) pe_int (nomark _)) (pss_one (ps_set (i := 4) sc_law_wheels.nd rfl (.inl rfl) (pe_op op_add pe_int (pe_op op_mod (pe_op op_fdiv (pe_ix (ix_listK (K := K) rfl) (pv 0) (pv 3) (fun _ _ => rfl)) pe_int) (pe_op op_pow pe_int pe_int))))) pss_nil)
    (pss_one (ps_expr (pe_bm PySem.F.plainAttrs_list PySem.F.slot_list_append PySem.F.type_list_append mt_append (pv 2) (pa_cons (pv 4) pa_nil)))))))))
    (pss_one (ps_ret (pv 2))))))), ?_⟩
    dsimp only [cxOf, L2H.cxH, Cx.nox, Cx.wish, L2.start, List.map_cons, List.map_nil, List.length_cons, List.length_nil, List.cons_append, List.nil_append]
    refine q_asgL (el_sl (ev_var rfl) eo_none (eo_some ev_c) hS) fun c H1 hc e1 h1 => ?_
    rw [show ((63 : Int)) = ((63 : Nat) : Int) from rfl, cut_to, ← List.map_take] at h1
    have hl : (ns.take 63).length ≤ 63 := List.length_take_le ..
    generalize hs : ns.take 63 = s at h1 hl
    have kb := kind_bd s
    refine q_asg (v := .int (kindI s)) (ev_call (ea_cons (ev_call (ea_cons (ev_var rfl) (ea_cons ev_c ea_nil)) (spv_cell (ns := s) (sq_of h1) (by decide))) (by walk_at "ea")) (spv_draw (m := 6) (by decide))) fun H2 e2 => ?_
    refine q_asgL (el_lst ea_nil (Nat.zero_le _)) fun l H3 hl3 e3 h3 => ?_
    have hS3 : SqL K H3 c (s.map V.int) := sq_of (e3 _ _ (e2 _ _ h1))
    have hn : Ex H H2 := e1.trans e2
    refine q_forR1 (n := (s.length : Int)) (by walk_at "ea") (by omega) (fun i σ' H' => ∃ v3 v4, σ' = [some (.ref c), some (.int (kindI s)), some (.ref l), v3, v4] ∧ Ex H2 H' ∧ H' l = some (.lst (((List.range i).map fun i => sizeI (kindI s) (s.getD i 0) (i : Int)).map V.int)))
      (fun H4 e4 => ⟨none, none, rfl, e3.trans e4, e4 _ _ h3⟩) (fun i σ' H' hi ⟨v3, v4, es, e, eo⟩ => ?_) (fun σ' H' ⟨v3, v4, es, e, eo⟩ => ?_)
    · subst es
      have hS' : SqL K H' c (s.map V.int) := sq_of (e _ _ (e2 _ _ h1))
      have m1 := menu_pos (i := (kindI s).toNat) (by omega)
      have m2 := menu_len
      refine q_asg (v := .int (size0 (kindI s) (s.getD i 0) (i : Int))) (ev_op ev_c (ev_call (ea_cons (by walk_at "ev") (ea_cons (by walk_at "ev") (ea_cons (ev_ixU (xs := menuI.map V.int) (i := kindI s) (eu_tup (by show EvA _ _ _ [.int 4, .int 2, .int 9, .int 40, .int 3, .int 1]; walk_at "ea") (by show (6 : Nat) ≤ 100000; decide)) (fun H1 e => ev_var rfl) (at_intZ (by omega) (by omega))) ea_nil))) (spv_draw m1.1)) rv_I0) fun H5 e5 => ?_
      refine q_ifI (c := kindI s = 2) (e0 := size0 (kindI s) (s.getD i 0) (i : Int)) (e1 := size0 (kindI s) (s.getD i 0) (i : Int) / 2 * 2 + 1) (by walk_at "et") rfl (fun _ => by walk_at "ev") fun H6 e6 => ?_
      refine q_ifI (c := kindI s = 4 ∧ 2 < (i : Int)) (e0 := size1 (kindI s) (s.getD i 0) (i : Int)) (e1 := 1) (et_tt (by walk_at "et") dec_and) rfl (fun _ => by walk_at "ev") fun H7 e7 => ?_
      have hS7 : SqL K H7 c (s.map V.int) := ex_l ((e5.trans e6).trans e7) hS'
      refine q_ifI (c := kindI s = 5) (e0 := size2 (kindI s) (s.getD i 0) (i : Int)) (e1 := 1 + s.getD i 0 / 7 % 10 ^ (59 : Int).toNat) (by walk_at "et") rfl (fun _ => by walk_at "ev") fun H8 e8 => ?_
      refine s_app (l := l) ((((e5.trans e6).trans e7).trans e8) _ _ eo) (ev_var rfl) (v := .int (sizeI (kindI s) (s.getD i 0) (i : Int))) (ev_var rfl) (by rw [range_map_len]; omega) fun H9 e9 => ?_
      refine ⟨some (.int (i : Int)), some (.int (sizeI (kindI s) (s.getD i 0) (i : Int))), rfl, Ex.mut (e.trans ((((e5.trans e6).trans e7).trans e8).trans e9)) hl3, ?_⟩
      rw [upd_same, range_map_succ]
    · subst es
      rw [Int.toNat_natCast] at eo
      refine s_ret (ev_var rfl) fun H4 e4 => kk l H4 (fresh_back hn hl3) ((hn.trans e).trans e4) ?_
      rw [e4 _ _ eo]
      unfold wheelsI
      rw [hs]
def farN (s : List Int) (by_ : Int) : Nat → Int
  | 0 => 0
  | i + 1 => farN s by_ i * 1000003 + s.getD i 0 / 11 + drawI (s.getD i 0) ((i : Int) % 3 + by_) 1000003
def farI (s : List Int) (by_ m : Int) : Int := farN s by_ s.length % m
theorem far_bd {s : List Int} {b m : Int} (h : 0 < m) : 0 ≤ farI s b m ∧ farI s b m < m := ⟨Int.emod_nonneg _ (by omega), Int.emod_lt_of_pos _ h⟩
def sp_law_far (K : PySem.W.Frag) (_ : Cs) : Sp := fun vs H Q _ => ∃ (a : Addr) (ns : List Int) (b m : Int), vs = [.ref a, .int b, .int m] ∧ SqL K H a (ns.map V.int) ∧ ns.length ≤ 1000 ∧ 0 < m ∧ RetV (.int (farI ns b m)) H Q
theorem spv_far {K : PySem.W.Frag} {C : Cs} {H : Hp} {a : Addr} {ns : List Int} {b m : Int} (h1 : SqL K H a (ns.map V.int)) (h2 : ns.length ≤ 1000) (h : 0 < m) : SpV (sp_law_far K C) [.ref a, .int b, .int m] H (.int (farI ns b m)) :=
  fun H1 e Q q E => ⟨a, ns, b, m, rfl, ex_l e h1, h2, h, q⟩
/-! ### settings drawn -/
def set0 (c w k b : Int) : Int := (c / 3 + drawI c (k % 4 + b) 1000003) % w
def set1 (kind c w k b : Int) : Int := if kind = 1 ∧ 0 < set0 c w k b % 3 then w - 1 else set0 c w k b
def set2 (kind c w k b : Int) : Int := if kind = 2 ∧ 0 < set1 kind c w k b % 3 then 0 else set1 kind c w k b
theorem set_bd {kind c w k b : Int} (h : 1 ≤ w) : 0 ≤ set2 kind c w k b ∧ set2 kind c w k b < w := by
  have z0 : 0 ≤ set0 c w k b ∧ set0 c w k b < w := ⟨Int.emod_nonneg _ (by omega), Int.emod_lt_of_pos _ (by omega)⟩
  have z1 : 0 ≤ set1 kind c w k b ∧ set1 kind c w k b < w := by unfold set1; split <;> omega
  unfold set2
  split <;> omega
def settingI (ns ws : List Int) (b : Int) : List Int := (List.range ws.length).map fun i => set2 (drawI (ns.getD 1 0) b 3) (ns.getD i 0) (ws.getD i 0) (i : Int) b
theorem inS_range : ∀ {ws : List Int} (f : Nat → Int), (∀ i, i < ws.length → 0 ≤ f i ∧ f i < ws.getD i 0) → InS ws ((List.range ws.length).map f)
  | [], _, _ => trivial
  | w :: ws, f, h => by
    rw [List.length_cons, List.range_succ_eq_map, List.map_cons, List.map_map]
    exact ⟨h 0 (by simp), inS_range (f ∘ Nat.succ) fun i hi => h (i + 1) (by simpa using hi)⟩
theorem setting_in {ns ws : List Int} {b : Int} (h : Pos ws) : InS ws (settingI ns ws b) := inS_range _ fun i hi => set_bd (h _ (getD_mem hi))
theorem setting_len (ns ws : List Int) (b : Int) : (settingI ns ws b).length = ws.length := by
  unfold settingI
  rw [List.length_map, List.length_range]
def sp_law_setting (K : PySem.W.Frag) (_ : Cs) : Sp := fun vs H Q _ => ∃ (a c : Addr) (ns ws : List Int) (b : Int), vs = [.ref a, .ref c, .int b] ∧ SqL K H a (ns.map V.int) ∧ SqL K H c (ws.map V.int) ∧ ws.length ≤ ns.length ∧ ws.length ≤ 1000 ∧ Pos ws ∧ RetL ((settingI ns ws b).map V.int) H Q
theorem spl_setting {K : PySem.W.Frag} {C : Cs} {H : Hp} {a c : Addr} {ns ws : List Int} {b : Int} (h1 : SqL K H a (ns.map V.int)) (h2 : SqL K H c (ws.map V.int)) (h3 : ws.length ≤ ns.length) (h4 : ws.length ≤ 1000) (h5 : Pos ws) : SpL (sp_law_setting K C) [.ref a, .ref c, .int b] H ((settingI ns ws b).map V.int) :=
  fun H1 e Q q E => ⟨a, c, ns, ws, b, rfl, ex_l e h1, ex_l e h2, h3, h4, h5, fun p H2 hp e2 h2 => q p H2 hp e2 h2⟩
theorem ok_law_setting {P : Program} {w : World} {K : PySem.W.Frag} {mg : Str → Option Value} {base : Heap} {C : Cs} (T : Txt K mg C) : Cl P w K mg base CX0 2 "_law_setting" ["_law_script", "_law_wheels_here", "_law_by"] (sp_law_setting K C) := by
  have c_law_draw := ok_law_draw (P := P) (w := w) (base := base) T
  have c_law_cell_at := ok_law_cell_at (P := P) (w := w) (base := base) T
  refine cl0 T.d_law_setting sc_law_setting (fun vs H Q E h => ?_) (fun f cdv A outer s H vs Q E hr h => ?_)
  · obtain ⟨a, c, ns, ws, b, rfl, hS, hW, hle, hl, hp, kk⟩ := h
    rfl
  · obtain ⟨a, c, ns, ws, b, rfl, hS, hW, hle, hl, hp, kk⟩ := h
    refine ⟨_, (pss_cons (ps_set (i := 3) sc_law_setting.nd rfl (.inl rfl) (pe_cl c_law_draw (hr.mono (by decide)) (by rfl) pass0 (pa_cons (pe_cl c_law_cell_at (hr.mono (by decide)) (by rfl) pass0 (pa_cons (pv 0) (pa_cons pe_int pa_nil))) (pa_cons (pv 2) (pa_cons pe_int pa_nil)))))
    (pss_cons (ps_set (i := 4) sc_law_setting.nd rfl (.inl rfl) (pe_lst pa_nil))
    (pss_cons (ps_for PassesOwn.never rfl (pi_enum (by rfl) T.b_enumerate (pa_cons (pv 1) pa_nil)) (pg_tupK (K := K) (n := 2) rfl rfl (pgs_cons (pg_name (i := 5) sc_law_setting.nd rfl (.inl rfl)) (pgs_cons (pg_name (i := 6) sc_law_setting.nd rfl (.inl rfl)) pgs_nil)))
    (pss_cons (ps_set (i := 7) sc_law_setting.nd rfl (.inl rfl) (pe_op op_mod (pe_op op_add (pe_op op_fdiv (pe_ix (ix_listK (K := K) rfl) (pv 0) (pv 5) (fun _ _ => rfl)) pe_int) (pe_cl c_law_draw (hr.mono (by decide)) (by rfl) pass0 (pa_cons (pe_ix (ix_listK (K := K) rfl) (pv 0) (pv 5) (fun _ _ => rfl)) (pa_cons (pe_op op_add (pe_op op_mod (pv 5) pe_int) (pv 2)) (pa_cons pe_int pa_nil))))) (pv 6)))
    (pss_cons (ps_if (PW.pt (pw_and (pt_cmpR op_eq (pv 3) pe_int (nomark _)) (pw_and1 (pt_cmpR op_gt (pe_op op_mod (pv 7) pe_int) pe_int (nomark _))))) (pss_one (ps_set (i := 7) sc_law_setting.nd rfl (.inl rfl) (pe_op op_sub (pv 6) pe_int))) pss_nil)
    (pss_cons (ps_if (PW.pt (pw_and (pt_cmpR op_eq (pv 3) pe_int (nomark _)) (pw_and1 (pt_cmpR op_gt (pe_op op_mod (pv 7) pe_int) pe_int (nomark _))))) (pss_one (ps_set (i := 7) sc_law_setting.nd rfl (.inl rfl) pe_int)) pss_nil)
    (pss_one (ps_expr (pe_bm PySem.F.plainAttrs_list PySem.F.slot_list_append PySem.F.type_list_append mt_append (pv 4) (pa_cons (pv 7) pa_nil))))))))
    (pss_one (ps_ret (pv 4)))))), ?_⟩
    dsimp only [cxOf, L2H.cxH, Cx.nox, Cx.wish, L2.start, List.map_cons, List.map_nil, List.length_cons, List.length_nil, List.cons_append, List.nil_append]
    refine q_asg (v := .int (drawI (ns.getD 1 0) b 3)) (ev_call (ea_cons (ev_call (ea_cons (ev_var rfl) (ea_cons ev_c ea_nil)) (spv_cell hS (by decide))) (by walk_at "ea")) (spv_draw (m := 3) (by decide))) fun H1 e1 => ?_
    unfold settingI at kk
    generalize drawI (ns.getD 1 0) b 3 = kd at kk
    refine q_asgL (el_lst ea_nil (Nat.zero_le _)) fun l H2 hl2 e2 h2 => ?_
    have hW2 := ex_l (e1.trans e2) hW
    refine q_forE (K := K) (a := c) (xs := ws.map V.int) (by walk_at "ea") hW2 (fun i σ' H' => ∃ v5 v6 v7, σ' = [some (.ref a), some (.ref c), some (.int b), some (.int kd), some (.ref l), v5, v6, v7] ∧ Ex H1 H' ∧ H' l = some (.lst (((List.range i).map fun i => set2 kd (ns.getD i 0) (ws.getD i 0) (i : Int) b).map V.int)))
      (fun H3 e3 => ⟨none, none, none, rfl, e2.trans e3, e3 _ _ h2⟩) (fun i σ' H' _ ⟨_, _, _, _, e, _⟩ => ex_l (e1.trans e) hW) (fun i x σ' H' H3 hx ⟨v5, v6, v7, es, e, eo⟩ e3 => ?_) (fun σ' H' ⟨v5, v6, v7, es, e, eo⟩ => ?_)
    · subst es
      obtain ⟨w, rfl, hw, hm⟩ := map_get hx
      have ew : ws.getD i 0 = w := by rw [List.getD_eq_getElem?_getD, hw]; rfl
      have hi := (List.getElem?_eq_some_iff.mp hw).1
      have w1 := hp w hm
      have hS3 := ex_l ((e1.trans e).trans e3) hS
      refine q_asg (v := .int (set0 (ns.getD i 0) w (i : Int) b)) (ev_op (ev_op (by walk_at "ev") (ev_call (ea_cons (by walk_at "ev") (ea_cons (by walk_at "ev") (ea_cons ev_c ea_nil))) (spv_draw (m := 1000003) (by decide))) rv_I0) (ev_var rfl) (rv_I (by omega))) fun H4 e4 => ?_
      refine q_ifI (c := kd = 1 ∧ 0 < set0 (ns.getD i 0) w (i : Int) b % 3) (e0 := set0 (ns.getD i 0) w (i : Int) b) (e1 := w - 1) (et_tt (by walk_at "et") dec_and) rfl (fun _ => by walk_at "ev") fun H5 e5 => ?_
      refine q_ifI (c := kd = 2 ∧ 0 < set1 kd (ns.getD i 0) w (i : Int) b % 3) (e0 := set1 kd (ns.getD i 0) w (i : Int) b) (e1 := 0) (et_tt (by walk_at "et") dec_and) rfl (fun _ => by walk_at "ev") fun H6 e6 => ?_
      refine s_app (l := l) ((((e3.trans e4).trans e5).trans e6) _ _ eo) (ev_var rfl) (v := .int (set2 kd (ns.getD i 0) w (i : Int) b)) (ev_var rfl) (by rw [range_map_len]; omega) fun H7 e7 => ?_
      refine ⟨some (.int (i : Int)), some (.int w), some (.int (set2 kd (ns.getD i 0) w (i : Int) b)), rfl, Ex.mut (e.trans ((((e3.trans e4).trans e5).trans e6).trans e7)) hl2, ?_⟩
      rw [upd_same, range_map_succ, ew]
    · subst es
      rw [List.length_map] at eo
      exact s_ret (ev_var rfl) fun H4 e4 => kk l H4 (fresh_back e1 hl2) ((e1.trans e).trans e4) (e4 _ _ eo)
/-! ### counts, settings, steps reckoned by the law -/
def sp_law_count (K : PySem.W.Frag) (_ : Cs) : Sp := fun vs H Q _ => ∃ (a : Addr) (ws : List Int), vs = [.ref a] ∧ SqL K H a (ws.map V.int) ∧ Sm ws ∧ RetV (.int (cnt ws)) H Q
theorem spv_law_count {K : PySem.W.Frag} {C : Cs} {H : Hp} {a : Addr} {ws : List Int} (h1 : SqL K H a (ws.map V.int)) (h : Sm ws) : SpV (sp_law_count K C) [.ref a] H (.int (cnt ws)) :=
  fun H1 e Q q E => ⟨a, ws, rfl, ex_l e h1, h, q⟩
def sp_law_whole (K : PySem.W.Frag) (_ : Cs) : Sp := fun vs H Q _ => ∃ (v : V) (kd : Kd), vs = [v] ∧ Thg K H v kd ∧ RetV (.bl kd.whole) H Q
theorem spv_law_whole {K : PySem.W.Frag} {C : Cs} {H : Hp} {i : Int} : SpV (sp_law_whole K C) [.int i] H (.bl true) := fun H1 e Q q E => ⟨_, _, rfl, .int i, q⟩
def sp_law_step (K : PySem.W.Frag) (_ : Cs) : Sp := fun vs H Q _ => ∃ (a b : Addr) (xs ys : List Int), vs = [.ref a, .ref b] ∧ SqL K H a (xs.map V.int) ∧ SqL K H b (ys.map V.int) ∧ xs.length = ys.length ∧ xs.length ≤ 40000 ∧ RetV (.bl (decide (dist xs ys = 1))) H Q
theorem spv_step {K : PySem.W.Frag} {C : Cs} {H : Hp} {a b : Addr} {xs ys : List Int} (h1 : SqL K H a (xs.map V.int)) (h2 : SqL K H b (ys.map V.int)) (h3 : xs.length = ys.length) (h4 : xs.length ≤ 40000) : SpV (sp_law_step K C) [.ref a, .ref b] H (.bl (decide (dist xs ys = 1))) :=
  fun H1 e Q q E => ⟨a, b, xs, ys, rfl, ex_l e h1, ex_l e h2, h3, h4, q⟩
theorem ev_dist {K : PySem.W.Frag} {H : Hp} {σ : L2.St} {ta : TA} {te : TE} {j : Nat} {vs : List Nat} {xs ys : List Int} (h : EvA ta σ H [.int (xs.length : Int)]) (hl : xs.length = ys.length) (hz : xs.length ≤ 40000) (hw : ∀ x, wipe ((wipe σ vs).set j (some x)) vs = wipe σ vs)
    (he : ∀ (i : Nat) H1, Ex H H1 → i < xs.length → Ev te ((wipe σ vs).set j (some (.int (i : Int)))) H1 (.int (iabs (xs.getD i 0 - ys.getD i 0)))) :
    Ev (tCB (rSum K) (tCons (tLc (iRng1 ta) (gName j) tYes te vs) tNil)) σ H (.int (dist xs ys)) := by
  rw [← dist_sum xs ys hl]
  refine ev_sumN (el_range (n := xs.length) (by rw [List.length_map, List.length_map, List.length_range]) h hz hw fun i y H1 e hi hy => ?_)
  rw [List.map_map, List.getElem?_map, List.getElem?_range hi] at hy
  cases hy
  exact he i H1 e hi
def sp_law_is_setting (K : PySem.W.Frag) (_ : Cs) : Sp := fun vs H Q _ => ∃ (a b : Addr) (ws ss : List Int), vs = [.ref a, .ref b] ∧ SqL K H a (ws.map V.int) ∧ SqL K H b (ss.map V.int) ∧ ws.length ≤ 40000 ∧ ss.length ≤ 40000 ∧ RetV (.bl (setOk ws (ss.map Kd.int))) H Q
theorem spv_law_is_setting {K : PySem.W.Frag} {C : Cs} {H : Hp} {a b : Addr} {ws ss : List Int} (h1 : SqL K H a (ws.map V.int)) (h2 : SqL K H b (ss.map V.int)) (h3 : ws.length ≤ 40000) (h4 : ss.length ≤ 40000) : SpV (sp_law_is_setting K C) [.ref a, .ref b] H (.bl (setOk ws (ss.map Kd.int))) :=
  fun H1 e Q q E => ⟨a, b, ws, ss, rfl, ex_l e h1, ex_l e h2, h3, h4, q⟩
theorem any_false (n : Nat) : ((List.replicate n false)).any id = false := by
  induction n with
  | zero => rfl
  | succ n ih => rw [List.replicate_succ, List.any_cons, ih]; rfl
theorem ok_law_is_setting {P : Program} {w : World} {K : PySem.W.Frag} {mg : Str → Option Value} {base : Heap} {C : Cs} (T : Txt K mg C) : Cl P w K mg base CX0 1 "_law_is_setting" ["_law_wheels_here", "_law_found"] (sp_law_is_setting K C) := by
  refine cl0 T.d_law_is_setting sc_law_is_setting (fun vs H Q E h => ?_) (fun f cdv A outer s H vs Q E hr h => ?_)
  · obtain ⟨a, b, ws, ss, rfl, hW, hS, hwl, hsl, k⟩ := h
    rfl
  · obtain ⟨a, b, ws, ss, rfl, hW, hS, hwl, hsl, k⟩ := h
    refine ⟨_, (pss_cons (ps_if (PW.pt (pw_or (pt_not (pt_val (pe_callB (call_isiK' (K := K) rfl) (by rfl) T.b_isinstance (by decide +kernel) (pa_cons (pv 1) (pa_cons (pe_bltn (by rfl) T.b_list (by decide +kernel) (v := .ty "list") rfl) pa_nil))) (by intro _; rfl))) (pw_or1 (pt_cmpR op_ne (pe_callB (call_lenK (K := K) rfl) (by rfl) T.b_len PySem.boot_len (pa_cons (pv 1) pa_nil)) (pe_callB (call_lenK (K := K) rfl) (by rfl) T.b_len PySem.boot_len (pa_cons (pv 0) pa_nil)) (nomark _))))) (pss_one (ps_ret pe_bl)) pss_nil)
    (pss_cons (ps_if (pt_val (pe_callB (cr_anyK (K := K) rfl rfl) (by rfl) T.b_any (by decide +kernel) (pa_cons (pe_lc (own := [("_law_one", 2)]) (g := gName 2) (tt := tYes) rfl sc_law_is_setting.nd (pi_listK (K := K) rfl (pv 1)) (blkOk_by (N := ["_law_wheels_here", "_law_found", "_law_one", "_law_k"]) (sc := defScope S_law_is_setting) (own := [("_law_one", 2)]) (by decide +kernel)) (fun _ _ _ _ _ => (pg_name (i := 2) sc_law_is_setting.nd rfl (.inl rfl))) (fun _ _ _ _ _ => pts_nil) (fun _ _ _ _ _ => (pe_or (pe_callB (call_isiK' (K := K) rfl) (by rfl) T.b_isinstance (by decide +kernel) (pa_cons (pv 2) (pa_cons (pe_bltn (by rfl) T.b_bool (by decide +kernel) (v := .ty "bool") rfl) pa_nil))) (pe_one (pe_not (pe_callB (call_isiK' (K := K) rfl) (by rfl) T.b_isinstance (by decide +kernel) (pa_cons (pv 2) (pa_cons (pe_bltn (by rfl) T.b_int (by decide +kernel) (v := .ty "int") rfl) pa_nil)))))))) pa_nil)) (by intro _; rfl)) (pss_one (ps_ret pe_bl)) pss_nil)
    (pss_one (ps_ret (pe_callB (cr_allK (K := K) rfl rfl) (by rfl) T.b_all (by decide +kernel) (pa_cons (pe_lc (own := [("_law_k", 3)]) (g := gName 3) (tt := tYes) rfl sc_law_is_setting.nd (pi_range1 (by rfl) T.b_range (pa_cons (pe_callB (call_lenK (K := K) rfl) (by rfl) T.b_len PySem.boot_len (pa_cons (pv 0) pa_nil)) pa_nil)) (blkOk_by (N := ["_law_wheels_here", "_law_found", "_law_one", "_law_k"]) (sc := defScope S_law_is_setting) (own := [("_law_k", 3)]) (by decide +kernel)) (fun _ _ _ _ _ => (pg_name (i := 3) sc_law_is_setting.nd rfl (.inl rfl))) (fun _ _ _ _ _ => pts_nil) (fun _ _ _ _ _ => (pe_chain op_le op_lt pe_int (pe_ix (ix_listK (K := K) rfl) (pv 1) (pv 3) (fun _ _ => rfl)) (pe_ix (ix_listK (K := K) rfl) (pv 0) (pv 3) (fun _ _ => rfl))))) pa_nil)))))), ?_⟩
    dsimp only [cxOf, L2H.cxH, Cx.nox, Cx.wish, L2.start, List.map_cons, List.map_nil, List.length_cons, List.length_nil, List.cons_append, List.nil_append]
    refine q_when (b := (!true || !decide ((ss.length : Int) = (ws.length : Int)))) (et_or (et_not (et_B (ev_cb (ea_cons (ev_var rfl) (ea_cons ev_c ea_nil)) (rc_isi (Thg.lst hS) fun _ => kd_list)))) fun q => by walk_at "et") (fun q H1 e => ?_) (fun q H1 e => ?_)
    · refine s_ret ev_c fun H2 e2 => ?_
      have hne : setOk ws (ss.map Kd.int) = false := by
        cases h : setOk ws (ss.map Kd.int) with
        | false => rfl
        | true =>
          have h1 := setOk_len h
          rw [List.length_map] at h1
          rw [decide_eq_true (show (ss.length : Int) = (ws.length : Int) by omega)] at q
          cases q
      rw [hne] at k
      exact k _ (e.trans e2)
    · have hlen : ss.length = ws.length := by
        by_cases h : (ss.length : Int) = (ws.length : Int)
        · omega
        · rw [decide_eq_false h] at q; cases q
      have hS1 := ex_l e hS
      refine q_when (b := false) ?_ (fun q => nomatch q) (fun _ H2 e2 => ?_)
      · have ef := any_false ss.length
        refine et_tt (et_B (ev_anyN (bs := List.replicate ss.length false) (el_list (by rw [List.length_map, List.length_map, List.length_replicate]) (ev_var rfl) hS1 (by rw [List.length_map]; exact hsl) (fun _ => rfl) fun i x y H2 e2 hx hy => ?_))) ef
        obtain ⟨z, rfl, hz, _⟩ := map_get hx
        rw [List.map_replicate] at hy
        have ey : y = .bl false := (List.mem_replicate.mp (List.mem_of_getElem? hy)).2
        subst ey
        exact ev_orV (a := false) (b := false) (ev_cb (ea_cons (ev_var rfl) (ea_cons ev_c ea_nil)) (rc_isi (Thg.int z) fun _ => kd_bool)) fun _ => ev_notV (a := true) (ev_cb (ea_cons (ev_var rfl) (ea_cons ev_c ea_nil)) (rc_isi (Thg.int z) fun _ => kd_int))
      · have hW2 := ex_l (e.trans e2) hW
        have hS2 := ex_l (e.trans e2) hS
        refine s_ret (v := .bl (setOk ws (ss.map Kd.int))) ?_ fun H3 e3 => k _ ((e.trans e2).trans e3)
        rw [← setOk_range ws (ss.map Kd.int) (by rw [List.length_map]; exact hlen)]
        refine ev_allN (el_range (n := ws.length) (by rw [List.length_map, List.length_map, List.length_range]) (by walk_at "ea") hwl (fun _ => rfl) fun i y H3 e3 hi hy => ?_)
        rw [List.map_map, List.getElem?_map, List.getElem?_range hi] at hy
        cases hy
        have ek : (ss.map Kd.int).getD i .rest = .int (ss.getD i 0) := by
          have hi2 : i < ss.length := by omega
          rw [List.getD_eq_getElem?_getD, List.getD_eq_getElem?_getD, List.getElem?_map, List.getElem?_eq_getElem hi2]
          rfl
        show Ev _ _ _ (.bl (inR (ws.getD i 0) ((ss.map Kd.int).getD i .rest)))
        rw [ek]
        have hW3 := ex_l e3 hW2
        have hS3 := ex_l e3 hS2
        exact ev_to (ev_chainI (f := fun i j => decide (i ≤ j)) (f' := fun i j => decide (i < j)) (a := 0) (b := ss.getD i 0) (c := ws.getD i 0) ev_c (by walk_at "ev") fun _ => by walk_at "ev") rfl
/-! ### neighbours, near, apart -/
theorem cut_setV {ss : List Int} {k : Nat} (x : Int) (h : k < ss.length) : cutV (ss.map V.int) none (some (k : Int)) ++ [V.int x] ++ cutV (ss.map V.int) (some ((k : Int) + 1)) none = (ss.set k x).map V.int := by
  rw [cut_to, show ((k : Int) + 1) = ((k + 1 : Nat) : Int) from rfl, cut_from, ← set_cut x h, List.map_append, List.map_append, List.map_take, List.map_drop]
  rfl
/-- s[:k] + [x] + s[k + 1:] -/
theorem el_put {K : PySem.W.Frag} {H : Hp} {σ : L2.St} {t1 t2 t3 t4 te : TE} {p : Addr} {ss : List Int} {k : Nat} {x : Int} (hS : SqL K H p (ss.map V.int)) (hk : k < ss.length) (hl : ss.length ≤ 40000) (h1 : Ev t1 σ H (.ref p)) (h2 : Ev t2 σ H (.int (k : Int))) (hx : Ev te σ H (.int x)) (h3 : Ev t3 σ H (.ref p)) (h4 : Ev t4 σ H (.int ((k : Int) + 1))) :
    EvL (tOp (rCatQ K) (tOp (rCatQ K) (tSl (rSlL K) t1 tNoPart (tPart t2)) (tLst (tCons te tNil))) (tSl (rSlL K) t3 (tPart t4) tNoPart)) σ H ((ss.set k x).map V.int) := by
  rw [← cut_setV x hk]
  have l1 := cutV_length (ss.map V.int) none (some (k : Int))
  have l2 := cutV_length (ss.map V.int) (some ((k : Int) + 1)) none
  rw [List.length_map] at l1 l2
  exact el_catLL (el_catLL (el_sl h1 eo_none (eo_some h2) hS) (el_lst (ea_cons hx ea_nil) (by show 1 ≤ 100000; decide)) (by show _ + 1 ≤ 100000; omega)) (el_sl h3 (eo_some h4) eo_none hS) (by rw [List.length_append]; show _ + 1 + _ ≤ 100000; omega)
def sp_neighbours (K : PySem.W.Frag) (_ : Cs) : Sp := fun vs H Q _ => ∃ (a b : Addr) (ws ss : List Int), vs = [.ref a, .ref b] ∧ SqL K H a (ws.map V.int) ∧ SqL K H b (ss.map V.int) ∧ InS ws ss ∧ ws.length ≤ 1000 ∧ RetR K (sortL (nbs ws ss)) H Q
theorem spr_neighbours {K : PySem.W.Frag} {C : Cs} {H : Hp} {a b : Addr} {ws ss : List Int} (h1 : SqL K H a (ws.map V.int)) (h2 : SqL K H b (ss.map V.int)) (hi : InS ws ss) (hl : ws.length ≤ 1000) : SpR K (sp_neighbours K C) [.ref a, .ref b] H (sortL (nbs ws ss)) :=
  fun H1 e Q q E => ⟨a, b, ws, ss, rfl, ex_l e h1, ex_l e h2, hi, hl, q⟩
def sp_near (K : PySem.W.Frag) (C : Cs) : Sp := fun vs H Q E => ∃ (v s : V), vs = [v, s] ∧ Door K C H v E fun _ ws => ws.length ≤ 1000 ∧ DoorS K C H ws s E fun _ ss => RetR K (sortL (nbs ws ss)) H Q
theorem spr_near {K : PySem.W.Frag} {C : Cs} {H : Hp} {a b : Addr} {ws ss : List Int} (h1 : SqL K H a (ws.map V.int)) (h2 : Pos ws) (h3 : SqL K H b (ss.map V.int)) (hi : InS ws ss) (hl : ws.length ≤ 1000) : SpR K (sp_near K C) [.ref a, .ref b] H (sortL (nbs ws ss)) :=
  fun H1 e Q q E => ⟨_, _, rfl, .inr (.inr ⟨a, ws, rfl, ex_l e h1, h2, by omega, hl, .inr ⟨b, ss, rfl, ex_l e h3, hi, q⟩⟩)⟩
def sp_apart (K : PySem.W.Frag) (C : Cs) : Sp := fun vs H Q E => ∃ (v s t : V), vs = [v, s, t] ∧ Door K C H v E fun _ ws => DoorS K C H ws s E fun _ ss => DoorS K C H ws t E fun _ ts => RetV (.int (dist ss ts)) H Q
theorem spv_apart {K : PySem.W.Frag} {C : Cs} {H : Hp} {a b c : Addr} {ws ss ts : List Int} (h1 : SqL K H a (ws.map V.int)) (h2 : Pos ws) (hl : ws.length ≤ 1000) (h3 : SqL K H b (ss.map V.int)) (hi : InS ws ss) (h4 : SqL K H c (ts.map V.int)) (hi2 : InS ws ts) : SpV (sp_apart K C) [.ref a, .ref b, .ref c] H (.int (dist ss ts)) :=
  fun H1 e Q q E => ⟨_, _, _, rfl, .inr (.inr ⟨a, ws, rfl, ex_l e h1, h2, by omega, .inr ⟨b, ss, rfl, ex_l e h3, hi, .inr ⟨c, ts, rfl, ex_l e h4, hi2, q⟩⟩⟩)⟩
/-! ### answers -/
theorem given_len_eq (n : Nat) (f : Nat → Bool) (w : Nat → V) : (given n f w).length = ((List.range n).filter f).length := by
  unfold given
  rw [List.length_map]
def sp_turning (K : PySem.W.Frag) (_ : Cs) : Sp := fun vs H Q _ => ∃ (a : Addr) (ws : List Int), vs = [.ref a] ∧ SqL K H a (ws.map V.int) ∧ ws.length ≤ 1000 ∧ RetL (given ws.length (fun i => decide (1 < ws.getD i 0)) fun i => .int (i : Int)) H Q
theorem spl_turning {K : PySem.W.Frag} {C : Cs} {H : Hp} {a : Addr} {ws : List Int} (h1 : SqL K H a (ws.map V.int)) (hl : ws.length ≤ 1000) : SpL (sp_turning K C) [.ref a] H (given ws.length (fun i => decide (1 < ws.getD i 0)) fun i => .int (i : Int)) :=
  fun H1 e Q q E => ⟨a, ws, rfl, ex_l e h1, hl, fun p H2 hp e2 h2 => q p H2 hp e2 h2⟩
theorem getD_of {ws : List Int} {i : Nat} {x : V} (h : (ws.map V.int)[i]? = some x) : x = .int (ws.getD i 0) := by
  obtain ⟨w, rfl, hw, _⟩ := map_get h
  rw [List.getD_eq_getElem?_getD, hw]
  rfl
theorem ev_turnN {K : PySem.W.Frag} {C : Cs} {H : Hp} {σ : L2.St} {E : XK} {ta : TA} {a : Addr} {ws : List Int} (ha : EvA ta σ H [.ref a]) (h1 : SqL K H a (ws.map V.int)) (hl : ws.length ≤ 1000) :
    Ev (tCB (fun xs H Q => ∃ p ys, xs = [.ref p] ∧ (SqL K H p ys ∨ SqT K H p ys) ∧ Q (.int ys.length) H) (tCons (tCall (sp_turning K C) [] E ta) tNil)) σ H (.int (turnN ws : Int)) :=
  ev_cbN (el_call ha (spl_turning h1 hl)) fun p H1 hp e => rc_len (sq_of hp) (given_len_eq _ _ _)
def aroundB (ws : List Int) : Bool := decide (1 < (turnN ws : Int)) && decide (cnt ws % 2 = 0)
def oddB (ws : List Int) : Bool := decide (cnt ws % 2 = 1)
def deadB (ws ss : List Int) : Bool := setOk ws (ss.map Kd.int) && decide (((nbs ws ss).length : Int) < 2)
def sp_Around_shows (K : PySem.W.Frag) (_ : Cs) : Sp := fun vs H Q _ => ∃ (x : V) (a : Addr) (ws : List Int), vs = [x, .ref a] ∧ SqL K H a (ws.map V.int) ∧ Sm ws ∧ RetV (.bl (aroundB ws)) H Q
theorem spv_around_shows {K : PySem.W.Frag} {C : Cs} {H : Hp} {x : V} {a : Addr} {ws : List Int} (h1 : SqL K H a (ws.map V.int)) (hm : Sm ws) : SpV (sp_Around_shows K C) [x, .ref a] H (.bl (aroundB ws)) :=
  fun H1 e Q q E => ⟨x, a, ws, rfl, ex_l e h1, hm, q⟩
def sp_Odd_shows (K : PySem.W.Frag) (_ : Cs) : Sp := fun vs H Q _ => ∃ (x : V) (a : Addr) (ws : List Int), vs = [x, .ref a] ∧ SqL K H a (ws.map V.int) ∧ Sm ws ∧ RetV (.bl (oddB ws)) H Q
theorem spv_odd_shows {K : PySem.W.Frag} {C : Cs} {H : Hp} {x : V} {a : Addr} {ws : List Int} (h1 : SqL K H a (ws.map V.int)) (hm : Sm ws) : SpV (sp_Odd_shows K C) [x, .ref a] H (.bl (oddB ws)) :=
  fun H1 e Q q E => ⟨x, a, ws, rfl, ex_l e h1, hm, q⟩
/-- at x stands a Dead whose setting, the list at p, is ss -/
def DeadAt (C : Cs) (H : Hp) (x p : Addr) (ss : List Int) : Prop := ∃ dx, H x = some (.ins C.Dead dx [("setting", .ref p)]) ∧ H p = some (.lst (ss.map V.int))
theorem DeadAt.mono {C : Cs} {H H' : Hp} {x p : Addr} {ss : List Int} (e : Ex H H') (h : DeadAt C H x p ss) : DeadAt C H' x p ss := by
  obtain ⟨dx, h1, h2⟩ := h
  exact ⟨dx, e _ _ h1, e _ _ h2⟩
theorem look_setting {v : V} : List.lookup ("setting" : Str) [(("setting" : Str), v)] = some v := by simp [List.lookup]
theorem look_shows {v : V} : List.lookup ("shows" : Str) [(("setting" : Str), v)] = none := by
  have h : (("shows" : Str) == ("setting" : Str)) = false := by decide +kernel
  simp [List.lookup, h]
def sp_Dead_shows (K : PySem.W.Frag) (C : Cs) : Sp := fun vs H Q _ => ∃ (x a p : Addr) (ws ss : List Int), vs = [.ref x, .ref a] ∧ DeadAt C H x p ss ∧ SqL K H a (ws.map V.int) ∧ ws.length ≤ 1000 ∧ ss.length ≤ 1000 ∧ RetV (.bl (deadB ws ss)) H Q
theorem spv_dead_shows {K : PySem.W.Frag} {C : Cs} {H : Hp} {x a p : Addr} {ws ss : List Int} (h1 : DeadAt C H x p ss) (h2 : SqL K H a (ws.map V.int)) (hl : ws.length ≤ 1000) (hl2 : ss.length ≤ 1000) : SpV (sp_Dead_shows K C) [.ref x, .ref a] H (.bl (deadB ws ss)) :=
  fun H1 e Q q E => ⟨x, a, p, ws, ss, rfl, h1.mono e, ex_l e h2, hl, hl2, q⟩
theorem sortL_len' (nss : List (List Int)) : (sortL nss).length = nss.length := List.length_mergeSort _
def sp_Dead_init (K : PySem.W.Frag) (C : Cs) : Sp := fun vs H Q _ => ∃ (x dx a : Addr) (ss : List Int), vs = [.ref x, .ref a] ∧ H x = some (.ins C.Dead dx []) ∧ SqL K H a (ss.map V.int) ∧
  ∀ p H2, H p = none → But x H H2 → DeadAt C H2 x p ss → Q .non H2
/-- a new Dead -/
theorem mk_dead {K : PySem.W.Frag} {C : Cs} {H : Hp} {σ : L2.St} {E : XK} {te : TE} {a : Addr} {ss : List Int} {Q : VK} (ha : Ev te σ H (.ref a)) (hS : SqL K H a (ss.map V.int)) {H1 : Hp} (e : Ex H H1)
    (k : ∀ x p H2, H1 x = none → H1 p = none → x ≠ p → Ex H1 H2 → DeadAt C H2 x p ss → Q (.ref x) H2) : tMake C.Dead (sp_Dead_init K C) [] E (tCons te tNil) σ H1 Q :=
  ha H1 e _ fun H2 e2 x dx nx nd ne => by
    have e3 : Ex H2 (upd (upd H2 dx (.own x)) x (.ins C.Dead dx [])) := fun b o hb => by
      rw [upd_ne (ne_of_none hb nx), upd_ne (ne_of_none hb nd)]
      exact hb
    refine ⟨x, dx, a, ss, rfl, upd_same, ex_l ((e.trans e2).trans e3) hS, fun p H3 hp b3 hd => ⟨rfl, ?_⟩⟩
    have hp2 : H2 p = none := fresh_back e3 hp
    have nxp : x ≠ p := fun z => by
      rw [← z, upd_same] at hp
      cases hp
    exact k x p H3 (fresh_back e2 nx) (fresh_back e2 hp2) nxp (e2.trans (b3.ex e3 nx)) hd
/-- Dead(..).shows(..) of a new one -/
theorem ev_methD {K : PySem.W.Frag} {C : Cs} {H : Hp} {σ : L2.St} {E E' : XK} {te : TE} {ta' : TA} {a b : Addr} {ws ss : List Int} (ha : Ev te σ H (.ref a)) (hS : SqL K H a (ss.map V.int)) (hb : EvA ta' σ H [.ref b]) (hW : SqL K H b (ws.map V.int)) (hl : ws.length ≤ 1000) (hl2 : ss.length ≤ 1000) :
    Ev (tMeth C.Dead "shows" (sp_Dead_shows K C) [] E (tMake C.Dead (sp_Dead_init K C) [] E' (tCons te tNil)) ta') σ H (.bl (deadB ws ss)) := fun H1 e Q q =>
  mk_dead ha hS e fun x p H2 hx hp nxp e2 hd => by
    obtain ⟨dx, h1, h2⟩ := hd
    exact ⟨x, dx, _, rfl, h1, look_shows, hb H2 (e.trans e2) _ fun H3 e3 => spv_dead_shows ⟨dx, e3 _ _ h1, e3 _ _ h2⟩ (ex_l ((e.trans e2).trans e3) hW) hl hl2 H3 (Ex.refl _) Q (fun H4 e4 => q H4 ((e2.trans e3).trans e4)) E⟩
/-- Dead([..]).shows([..]), both new lists -/
theorem ev_methDL {K : PySem.W.Frag} {C : Cs} {H : Hp} {σ : L2.St} {E E' : XK} {te tb : TE} {ws ss : List Int} (ha : EvL te σ H (ss.map V.int)) (hb : EvL tb σ H (ws.map V.int)) (hl : ws.length ≤ 1000) (hl2 : ss.length ≤ 1000) :
    Ev (tMeth C.Dead "shows" (sp_Dead_shows K C) [] E (tMake C.Dead (sp_Dead_init K C) [] E' (tCons te tNil)) (tCons tb tNil)) σ H (.bl (deadB ws ss)) := fun H1 e Q q =>
  ha H1 e _ fun a H2 hn e2 h2 x dx nx nd ne => by
    have e3 : Ex H2 (upd (upd H2 dx (.own x)) x (.ins C.Dead dx [])) := fun b o hb => by
      rw [upd_ne (ne_of_none hb nx), upd_ne (ne_of_none hb nd)]
      exact hb
    refine ⟨x, dx, a, ss, rfl, upd_same, sq_of (e3 _ _ h2), fun p H3 hp b3 hd => ⟨rfl, ?_⟩⟩
    obtain ⟨dx, h3, h4⟩ := hd
    have e23 := b3.ex e3 nx
    exact ⟨x, dx, _, rfl, h3, look_shows, hb H3 ((e.trans e2).trans e23) _ fun b H4 hnb e4 hb4 => spv_dead_shows ⟨dx, e4 _ _ h3, e4 _ _ h4⟩ (sq_of hb4) hl hl2 H4 (Ex.refl _) Q (fun H5 e5 => q H5 (((e2.trans e23).trans e4).trans e5)) E⟩
theorem q_mkDead {K : PySem.W.Frag} {C : Cs} {H : Hp} {σ : L2.St} {E : XK} {te : TE} {tz : TS} {D : Ends} {i : Nat} {a : Addr} {ss : List Int} (ha : Ev te σ H (.ref a)) (hS : SqL K H a (ss.map V.int))
    (k : ∀ x p H2, H x = none → H p = none → x ≠ p → Ex H H2 → DeadAt C H2 x p ss → tz D (σ.set i (some (.ref x))) H2) : tSeq (tAsg (tMake C.Dead (sp_Dead_init K C) [] E (tCons te tNil)) (gName i)) tz D σ H := by
  show tMake C.Dead (sp_Dead_init K C) [] E (tCons te tNil) σ H (fun v H1 => gName i v σ H1 fun σ' H2 => tz D σ' H2)
  exact mk_dead (C := C) (Q := fun v H1 => gName i v σ H1 fun σ' H2 => tz D σ' H2) ha hS (Ex.refl H) k
/-! ### around, check_ring, ring_setting, ring_number -/
inductive AnsK where
  | odd
  | around
  | dead (ss : List Int)
/-- an answer at x; what is new since H -/
def AnsAt (C : Cs) (H H1 : Hp) (x : Addr) : AnsK → Prop
  | .odd => ∃ dx, H1 x = some (.ins C.Odd dx [])
  | .around => ∃ dx, H1 x = some (.ins C.Around dx [])
  | .dead ss => ∃ p, H p = none ∧ x ≠ p ∧ DeadAt C H1 x p ss
theorem AnsAt.mono {C : Cs} {H H1 H2 : Hp} {x : Addr} {k : AnsK} (h : AnsAt C H H1 x k) (e : Ex H1 H2) : AnsAt C H H2 x k := by
  cases k with
  | odd => exact ⟨h.choose, e _ _ h.choose_spec⟩
  | around => exact ⟨h.choose, e _ _ h.choose_spec⟩
  | dead ss =>
    obtain ⟨p, a, b, c⟩ := h
    exact ⟨p, a, b, c.mono e⟩
theorem AnsAt.back {C : Cs} {H0 H H1 : Hp} {x : Addr} {k : AnsK} (h : AnsAt C H H1 x k) (e : Ex H0 H) : AnsAt C H0 H1 x k := by
  cases k with
  | odd => exact h
  | around => exact h
  | dead ss =>
    obtain ⟨p, a, b, c⟩ := h
    exact ⟨p, fresh_back e a, b, c⟩
def ansOf (ws : List Int) : AnsK := if turnN ws < 2 then .dead (List.replicate ws.length 0) else if cnt ws % 2 = 1 then .odd else .around
def RetA (C : Cs) (k : AnsK) (H : Hp) (Q : VK) : Prop := ∀ x H1, H x = none → Ex H H1 → AnsAt C H H1 x k → Q (.ref x) H1
theorem RetA.mono {C : Cs} {k : AnsK} {H H' : Hp} {Q : VK} (h : RetA C k H Q) (e : Ex H H') : RetA C k H' Q := fun x H1 hx e1 ha => h x H1 (fresh_back e hx) (e.trans e1) (ha.back e)
theorem mk_deadL {K : PySem.W.Frag} {C : Cs} {H : Hp} {σ : L2.St} {E : XK} {te : TE} {ss : List Int} {Q : VK} (ha : EvL te σ H (ss.map V.int)) {H1 : Hp} (e : Ex H H1)
    (k : ∀ x p H2, H1 x = none → H1 p = none → x ≠ p → Ex H1 H2 → DeadAt C H2 x p ss → Q (.ref x) H2) : tMake C.Dead (sp_Dead_init K C) [] E (tCons te tNil) σ H1 Q :=
  ha H1 e _ fun a H2 hn e2 h2 x dx nx nd ne => by
    have e3 : Ex H2 (upd (upd H2 dx (.own x)) x (.ins C.Dead dx [])) := fun b o hb => by
      rw [upd_ne (ne_of_none hb nx), upd_ne (ne_of_none hb nd)]
      exact hb
    refine ⟨x, dx, a, ss, rfl, upd_same, sq_of (e3 _ _ h2), fun p H3 hp b3 hd => ⟨rfl, ?_⟩⟩
    have hp2 : H2 p = none := fresh_back e3 hp
    have nxp : x ≠ p := fun z => by
      rw [← z, upd_same] at hp
      cases hp
    exact k x p H3 (fresh_back e2 nx) (fresh_back e2 hp2) nxp (e2.trans (b3.ex e3 nx)) hd
theorem mk_new {c : Addr} {σ : L2.St} {H1 : Hp} {Q : VK} (k : ∀ x dx H2, H1 x = none → Ex H1 H2 → H2 x = some (.ins c dx []) → Q (.ref x) H2) : tMakeO c σ H1 Q := fun x dx nx nd ne =>
  k x dx _ nx (fun b o hb => by
    rw [upd_ne (ne_of_none hb nx), upd_ne (ne_of_none hb nd)]
    exact hb) upd_same
theorem Door.imp {K : PySem.W.Frag} {C : Cs} {H : Hp} {v : V} {E : XK} {good good' : Addr → List Int → Prop} (h : Door K C H v E good) (k : ∀ a ws, v = .ref a → SqL K H a (ws.map V.int) → Pos ws → ws.length ≤ 40000 → good a ws → good' a ws) : Door K C H v E good' := by
  rcases h with h | h | ⟨a, ws, ev, h1, h2, h3, h4⟩
  · exact .inl h
  · exact .inr (.inl h)
  · exact .inr (.inr ⟨a, ws, ev, h1, h2, h3, k a ws ev h1 h2 h3 h4⟩)
theorem Door.good {K : PySem.W.Frag} {C : Cs} {H : Hp} {a : Addr} {ws : List Int} {E : XK} {good : Addr → List Int → Prop} (h1 : SqL K H a (ws.map V.int)) (h2 : Pos ws) (h3 : ws.length ≤ 40000) (h4 : good a ws) : Door K C H (.ref a) E good := .inr (.inr ⟨a, ws, rfl, h1, h2, h3, h4⟩)
def sp_around (K : PySem.W.Frag) (C : Cs) : Sp := fun vs H Q E => ∃ (v : V), vs = [v] ∧ Door K C H v E fun _ ws => Sm ws ∧ RetA C (ansOf ws) H Q
def sp_check_ring (K : PySem.W.Frag) (C : Cs) : Sp := fun vs H Q E => ∃ (v : V), vs = [v] ∧ Door K C H v E fun _ ws => Sm ws ∧ (aroundB ws = true → RetV .non H Q) ∧ (aroundB ws = false → RetX C.NoRing H E)
theorem ring_of {ws : List Int} (hp : Pos ws) (h : aroundB ws = true) : Ring ws := by
  have h' : (decide (1 < (turnN ws : Int)) && decide (cnt ws % 2 = 0)) = true := h
  rw [Bool.and_eq_true, decide_eq_true_iff, decide_eq_true_iff] at h'
  exact ⟨hp, by omega, h'.2⟩
def sp_even_wheel (K : PySem.W.Frag) (_ : Cs) : Sp := fun vs H Q _ => ∃ (a : Addr) (ws : List Int), vs = [.ref a] ∧ SqL K H a (ws.map V.int) ∧ ws.length ≤ 1000 ∧ cnt ws % 2 = 0 ∧ RetV (.int (evenAt ws : Int)) H Q
theorem spv_even {K : PySem.W.Frag} {C : Cs} {H : Hp} {a : Addr} {ws : List Int} (h1 : SqL K H a (ws.map V.int)) (hl : ws.length ≤ 1000) (h : cnt ws % 2 = 0) : SpV (sp_even_wheel K C) [.ref a] H (.int (evenAt ws : Int)) :=
  fun H1 e Q q E => ⟨a, ws, rfl, ex_l e h1, hl, h, q⟩
def sp_without (K : PySem.W.Frag) (_ : Cs) : Sp := fun vs H Q _ => ∃ (a : Addr) (s : List Int) (k : Nat), vs = [.ref a, .int (k : Int)] ∧ SqL K H a (s.map V.int) ∧ s.length ≤ 1000 ∧ RetL ((wo s k).map V.int) H Q
theorem spl_without {K : PySem.W.Frag} {C : Cs} {H : Hp} {a : Addr} {s : List Int} {k : Nat} (h1 : SqL K H a (s.map V.int)) (hl : s.length ≤ 1000) : SpL (sp_without K C) [.ref a, .int (k : Int)] H ((wo s k).map V.int) :=
  fun H1 e Q q E => ⟨a, s, k, rfl, ex_l e h1, hl, fun p H2 hp e2 h2 => q p H2 hp e2 h2⟩
theorem cut_wo (s : List Int) (k : Nat) : cutV (s.map V.int) none (some (k : Int)) ++ cutV (s.map V.int) (some ((k : Int) + 1)) none = (wo s k).map V.int := by
  rw [cut_to, show ((k : Int) + 1) = ((k + 1 : Nat) : Int) from rfl, cut_from, wo, List.map_append, List.map_take, List.map_drop]
theorem cut_ins (s : List Int) (k : Nat) (h : Int) : cutV (s.map V.int) none (some (k : Int)) ++ [V.int h] ++ cutV (s.map V.int) (some (k : Int)) none = (ins s k h).map V.int := by
  rw [cut_to, cut_from, ins, List.map_append, List.map_append, List.map_take, List.map_drop]
  rfl
theorem divp_near {i j w : Int} (h0 : 0 < j) (i0 : 0 ≤ i) (h1 : i < w * j) (hw : w < 2 ^ 250) : CDivP i j := by
  refine ⟨h0, ?_⟩
  have hw0 : 0 < w := by
    by_cases c : 0 < w
    · exact c
    · have := Int.mul_le_mul_of_nonneg_right (show w ≤ 0 by omega) (show 0 ≤ j by omega)
      omega
  have ew : w = ((w.natAbs : Nat) : Int) := by omega
  have ej : j = ((j.natAbs : Nat) : Int) := by omega
  have ei : i = ((i.natAbs : Nat) : Int) := by omega
  have n1 : i.natAbs < w.natAbs * j.natAbs := by
    rw [ew, ej, ei] at h1
    exact_mod_cast h1
  have n2 : w.natAbs < 2 ^ 250 := by
    rw [ew] at hw
    exact_mod_cast hw
  have n3 : j.natAbs < 2 ^ (j.natAbs.log2 + 1) := Nat.lt_log2_self
  have n4 : i.natAbs < 2 ^ (250 + (j.natAbs.log2 + 1)) := by
    rw [Nat.pow_add]
    exact Nat.lt_of_lt_of_le n1 (Nat.mul_le_mul (Nat.le_of_lt n2) (Nat.le_of_lt n3))
  show (decide ((if j == 0 then 0 else j.natAbs.log2 / 30 + 1) > 300) && decide ((if i == 0 then 0 else i.natAbs.log2 / 30 + 1) > (if j == 0 then 0 else j.natAbs.log2 / 30 + 1) + 150)) = false
  rw [if_neg (show ¬ (j == 0) = true by simpa using (show j ≠ 0 by omega))]
  have n5 : ¬ (if i == 0 then 0 else i.natAbs.log2 / 30 + 1) > j.natAbs.log2 / 30 + 1 + 150 := by
    split
    · omega
    · next hi =>
      have hi0 : i.natAbs ≠ 0 := fun z => hi (by rw [ei, z]; rfl)
      have := (Nat.log2_lt hi0).mpr n4
      omega
  rw [decide_eq_false n5, Bool.and_false]
theorem q_ifK {α : Type} {b : Bool} {t : TT} {tu tz : TS} {D : Ends} {σ : L2.St} {H : Hp} (σ' : α → L2.St) (h : EvT t σ H b) (h1 : b = true → (∀ x H1, Ex H H1 → tz D (σ' x) H1) → ∀ H1, Ex H H1 → tu { D with nx := tz D } σ H1) (h2 : b = false → (∀ x H1, Ex H H1 → tz D (σ' x) H1) → ∀ H1, Ex H H1 → tz D σ H1)
    (k : ∀ x H1, Ex H H1 → tz D (σ' x) H1) : tSeq (tIfS t tu tNext) tz D σ H := q_when h (fun q => h1 q k) (fun q => h2 q k)
theorem Sm.wo {ws : List Int} (h : Sm ws) (k : Nat) : Sm (wo ws k) := ⟨by
  have := h.len
  rw [WW.wo, List.length_append, List.length_take, List.length_drop]
  omega, fun w hw => (List.mem_append.mp hw).elim (fun z => h.pos w (List.mem_of_mem_take z)) (fun z => h.pos w (List.mem_of_mem_drop z)), fun w hw => (List.mem_append.mp hw).elim (fun z => h.lt w (List.mem_of_mem_take z)) (fun z => h.lt w (List.mem_of_mem_drop z))⟩
def sp_ring_setting (K : PySem.W.Frag) (C : Cs) : Sp := fun vs H Q E => ∃ (v n : V), vs = [v, n] ∧ Door K C H v E fun _ ws => Sm ws ∧ (aroundB ws = false → RetX C.NoRing H E) ∧ (aroundB ws = true → ∃ kd, Thg K H n kd ∧ (numOk (cnt ws) kd = false → RetX C.BadNumber H E) ∧
  ∀ i, kd = .int i → 0 ≤ i → i < cnt ws → RetL ((ringS ws i).map V.int) H Q)
theorem spl_ring_setting {K : PySem.W.Frag} {C : Cs} {H : Hp} {a : Addr} {ws : List Int} {n : Int} (h1 : SqL K H a (ws.map V.int)) (h2 : Pos ws) (h : Sm ws) (hr : aroundB ws = true) (n0 : 0 ≤ n) (n1 : n < cnt ws) : SpL (sp_ring_setting K C) [.ref a, .int n] H ((ringS ws n).map V.int) :=
  fun H1 e Q q E => ⟨_, _, rfl, .inr (.inr ⟨a, ws, rfl, ex_l e h1, h2, Nat.le_trans h.len (by decide), h, fun z => (by rw [hr] at z; cases z), fun _ => ⟨.int n, .int n, fun z => (by rw [numOk_iff.mpr ⟨n, rfl, n0, n1⟩] at z; cases z), fun i ei _ _ => by cases ei; exact fun p H2 hp e2 h2 => q p H2 hp e2 h2⟩⟩)⟩
def sp_ring_number (K : PySem.W.Frag) (C : Cs) : Sp := fun vs H Q E => ∃ (v s : V), vs = [v, s] ∧ Door K C H v E fun _ ws => Sm ws ∧ (aroundB ws = false → RetX C.NoRing H E) ∧ (aroundB ws = true → DoorS K C H ws s E fun _ ss => RetV (.int (ringN ws ss)) H Q)
theorem spv_ring_number {K : PySem.W.Frag} {C : Cs} {H : Hp} {a b : Addr} {ws ss : List Int} (h1 : SqL K H a (ws.map V.int)) (h2 : Pos ws) (h : Sm ws) (hr : aroundB ws = true) (h3 : SqL K H b (ss.map V.int)) (hi : InS ws ss) : SpV (sp_ring_number K C) [.ref a, .ref b] H (.int (ringN ws ss)) :=
  fun H1 e Q q E => ⟨_, _, rfl, .inr (.inr ⟨a, ws, rfl, ex_l e h1, h2, Nat.le_trans h.len (by decide), h, fun z => (by rw [hr] at z; cases z), fun _ => .inr ⟨b, ss, rfl, ex_l e h3, hi, q⟩⟩)⟩
/-! ### written -/
def numT (i : Int) : Str := Str.ofString (toString i)
def wrT (ws ss : List Int) : Str := Txt.join (Str.ofString " ") (ws.map numT) ++ Str.ofString ":" ++ Txt.join (Str.ofString "") (ss.map fun n => Str.ofString " " ++ numT n)
def fits (ws : List Int) : Bool := ws.all fun w => decide (w < 10 ^ 60)
theorem fits_iff {ws : List Int} : fits ws = true ↔ ∀ w ∈ ws, w < 10 ^ 60 := by
  unfold fits
  rw [List.all_eq_true]
  exact ⟨fun h w hw => of_decide_eq_true (h w hw), fun h w hw => decide_eq_true (h w hw)⟩
theorem numT_len {i : Int} (h0 : 0 ≤ i) (h1 : i < 10 ^ 60) : (numT i).length ≤ 60 := PyProof.Rows.toString_length_le h0 (by decide) h1
theorem sum_le {B : Nat} : ∀ {ys : List Str}, (∀ y ∈ ys, y.length ≤ B) → (ys.map (·.length)).sum ≤ ys.length * B
  | [], _ => Nat.zero_le _
  | x :: r, h => by
    have h1 := h x List.mem_cons_self
    have h2 := sum_le (ys := r) fun z hz => h z (List.mem_cons_of_mem _ hz)
    rw [List.map_cons, List.sum_cons, List.length_cons, Nat.succ_mul]
    omega
theorem join_le (sep : Str) {B : Nat} {ys : List Str} (h : ∀ y ∈ ys, y.length ≤ B) : (Txt.join sep ys).length ≤ ys.length * (B + sep.length) := by
  show (Builtin.Str.glued sep ys).length ≤ _
  rw [StrLaws.glued_eq_join, Nat.mul_add]
  have := StrLaws.join_length_le sep ys
  have := sum_le h
  omega
theorem ev_join {K : PySem.W.Frag} {H : Hp} {σ : L2.St} {to te : TE} {sep : Str} {ys : List Str} (ho : Ev to σ H (.str sep)) (h : EvL te σ H (ys.map V.str)) (hz : (ys.map (·.length)).sum + ys.length * sep.length ≤ 16777216) :
    Ev (tM1 (fun x xs H Q => ∃ a p, ∃ ys : List Str, x = .str a ∧ xs = [.ref p] ∧ (SqL K H p (ys.map V.str) ∨ SqT K H p (ys.map V.str)) ∧ (ys.map (·.length)).sum + ys.length * a.length ≤ 16777216 ∧ Q (.str (Txt.join a ys)) H) to te) σ H (.str (Txt.join sep ys)) := fun H1 e Q q =>
  ho H1 e _ fun H2 e2 => ⟨⟨sep, rfl⟩, h H2 (e.trans e2) _ fun p H3 hp e3 h3 => ⟨sep, p, ys, rfl, rfl, .inl (sq_of h3), hz, q H3 (e2.trans e3)⟩⟩
theorem ev_strI {H : Hp} {σ : L2.St} {te : TE} {i : Int} (h : Ev te σ H (.int i)) (hz : i.natAbs.log2 < 1920) : Ev (tCB (fun xs H Q => ∃ i, xs = [.int i] ∧ i.natAbs.log2 < 1920 ∧ Q (.str (toString i)) H) (tCons te tNil)) σ H (.str (numT i)) :=
  ev_cb (ea_cons h ea_nil) fun H1 e Q q => ⟨i, rfl, hz, q H1 (Ex.refl H1)⟩
theorem rv_cat {H : Hp} {i j : Str} (h : i.length + j.length ≤ 16777216) : RV (fun x y H Q => ∃ i j, x = .str i ∧ y = .str j ∧ i.length + j.length ≤ sizeLine ∧ Q (.str (i ++ j)) H) (.str i) (.str j) H (.str (i ++ j)) :=
  fun H1 _ _ q => ⟨i, j, rfl, rfl, Nat.le_trans h (by rw [sizeLine_eq]; decide), q H1 (Ex.refl H1)⟩
theorem log_ok {i : Int} (h0 : 0 ≤ i) (h1 : i < 10 ^ 60) : i.natAbs.log2 < 1920 := by
  have e : i = ((i.natAbs : Nat) : Int) := by omega
  by_cases c : i.natAbs = 0
  · rw [c]; decide
  · rw [e] at h1
    have h2 : i.natAbs < 10 ^ 60 := by exact_mod_cast h1
    exact (Nat.log2_lt c).mpr (Nat.lt_trans h2 (by decide +kernel))
theorem in_bd : ∀ {ws ss : List Int}, InS ws ss → (∀ w ∈ ws, w < 10 ^ 60) → ∀ s ∈ ss, 0 ≤ s ∧ s < 10 ^ 60
  | [], [], _, _, x, hx => by cases hx
  | [], _ :: _, h, _, _, _ => h.elim
  | w :: ws, s :: ss, h, hw, x, hx => by
    rcases List.mem_cons.mp hx with rfl | hx
    · have := hw w List.mem_cons_self
      exact ⟨h.1.1, Int.lt_trans h.1.2 this⟩
    · exact in_bd h.2 (fun v hv => hw v (List.mem_cons_of_mem _ hv)) x hx
def sp_written (K : PySem.W.Frag) (C : Cs) : Sp := fun vs H Q E => ∃ (v s : V), vs = [v, s] ∧ Door K C H v E fun _ ws => ws.length ≤ 1000 ∧ (fits ws = false → RetX C.BadWheels H E) ∧ (fits ws = true → DoorS K C H ws s E fun _ ss => RetV (.str (wrT ws ss)) H Q)
theorem spv_written {K : PySem.W.Frag} {C : Cs} {H : Hp} {a b : Addr} {ws ss : List Int} (h1 : SqL K H a (ws.map V.int)) (h2 : Pos ws) (hl : ws.length ≤ 1000) (hf : fits ws = true) (h3 : SqL K H b (ss.map V.int)) (hi : InS ws ss) : SpV (sp_written K C) [.ref a, .ref b] H (.str (wrT ws ss)) :=
  fun H1 e Q q E => ⟨_, _, rfl, .inr (.inr ⟨a, ws, rfl, ex_l e h1, h2, by omega, hl, fun z => (by rw [hf] at z; cases z), fun _ => .inr ⟨b, ss, rfl, ex_l e h3, hi, q⟩⟩)⟩
theorem ok_written {P : Program} {w : World} {K : PySem.W.Frag} {mg : Str → Option Value} {base : Heap} {C : Cs} (T : Txt K mg C) : Cl P w K mg base (L2N.CX P w) 4 "written" ["wheels", "setting"] (sp_written K C) := by
  have c_check_wheels := ok_check_wheels (P := P) (w := w) (base := base) T
  have c_check_setting := ok_check_setting (P := P) (w := w) (base := base) T
  refine clX T.d_written sc_written (fun vs H Q E h => ?_) (fun f cdv A outer s H vs Q E hr h => ?_)
  · obtain ⟨v, s', rfl, hd⟩ := h
    rfl
  · obtain ⟨v, s', rfl, hd⟩ := h
    refine ⟨_, (pss_cons (ps_expr (pe_cl c_check_wheels (hr.mono (by decide)) (by rfl) (pass1 (L2N.takes_of rfl rfl rfl rfl)) (pa_cons (pv 0) pa_nil)))
    (pss_cons (ps_if (pt_not (pt_val (pe_callB (cr_allK (K := K) rfl rfl) (by rfl) T.b_all (by decide +kernel) (pa_cons (pe_lc (own := [("size", 3)]) (g := gName 3) (tt := tYes) rfl sc_written.nd (pi_listK (K := K) rfl (pv 0)) (blkOk_by (N := ["wheels", "setting", "sizes", "size", "number"]) (sc := defScope S_written) (own := [("size", 3)]) (by decide +kernel)) (fun _ _ _ _ _ => (pg_name (i := 3) sc_written.nd rfl (.inl rfl))) (fun _ _ _ _ _ => pts_nil) (fun _ _ _ _ _ => (pe_cmpR op_lt (pv 3) (pe_gi T.k_MOST (by rfl)) (nomark _)))) pa_nil)) (by intro _; rfl))) (pss_one (L2N.ps_raise rfl (L2N.takes_of rfl rfl rfl rfl) (L2N.pmk_own PySem.F.excBase_ValueError T.e_BadWheels.x T.e_BadWheels.g T.e_BadWheels.k (raises_own T.e_BadWheels.b T.e_BadWheels.t) rfl))) pss_nil)
    (pss_cons (ps_expr (pe_cl c_check_setting (hr.mono (by decide)) (by rfl) (pass1 (L2N.takes_of rfl rfl rfl rfl)) (pa_cons (pv 0) (pa_cons (pv 1) pa_nil))))
    (pss_cons (ps_set (i := 2) sc_written.nd rfl (.inl rfl) (pe_join pe_str (pe_lc (own := [("size", 3)]) (g := gName 3) (tt := tYes) rfl sc_written.nd (pi_listK (K := K) rfl (pv 0)) (blkOk_by (N := ["wheels", "setting", "sizes", "size", "number"]) (sc := defScope S_written) (own := [("size", 3)]) (by decide +kernel)) (fun _ _ _ _ _ => (pg_name (i := 3) sc_written.nd rfl (.inl rfl))) (fun _ _ _ _ _ => pts_nil) (fun _ _ _ _ _ => (pe_callTy call_str_int (by rfl) T.b_str (by decide +kernel) (pa_cons (pv 3) pa_nil))))))
    (pss_one (ps_ret (pe_op op_add_str (pe_op op_add_str (pv 2) pe_str) (pe_join pe_str (pe_lc (own := [("number", 4)]) (g := gName 4) (tt := tYes) rfl sc_written.nd (pi_listK (K := K) rfl (pv 1)) (blkOk_by (N := ["wheels", "setting", "sizes", "size", "number"]) (sc := defScope S_written) (own := [("number", 4)]) (by decide +kernel)) (fun _ _ _ _ _ => (pg_name (i := 4) sc_written.nd rfl (.inl rfl))) (fun _ _ _ _ _ => pts_nil) (fun _ _ _ _ _ => (pe_op op_add_str pe_str (pe_callTy call_str_int (by rfl) T.b_str (by decide +kernel) (pa_cons (pv 4) pa_nil))))))))))))), ?_⟩
    dsimp only [cxOf, L2H.cxH, Cx.nox, Cx.wish, L2.start, List.map_cons, List.map_nil, List.length_cons, List.length_nil, List.cons_append, List.nil_append]
    refine q_call (vs := [v]) (by walk_at "ea") fun H1 e1 => (hd.mono e1).check fun a ws ev hW hp hl0 ⟨hl, kx, kk⟩ H2 e2 => ?_
    subst ev
    have e12 := e1.trans e2
    have hW2 := ex_l e2 hW
    refine q_when (b := !fits ws) (et_not (et_B (ev_to (ev_allN (bs := ws.map fun w => decide (w < 10 ^ 60)) (el_list (by rw [List.length_map, List.length_map, List.length_map]) (ev_var rfl) hW2 (by rw [List.length_map]; omega) (fun _ => rfl) fun i x y H3 e3 hx hy => ?_)) ?_))) (fun q H3 e3 => ?_) fun q H3 e3 => ?_
    · obtain ⟨w, rfl, hw, _⟩ := map_get hx
      rw [List.map_map, List.getElem?_map, hw] at hy
      cases hy
      exact ev_op (ev_var rfl) ev_c rv_I0
    · unfold fits
      rw [List.all_map]
      rfl
    · exact kx (by cases h : fits ws with | true => rw [h] at q; cases q | false => rfl) H3 (e12.trans e3)
    have hf : fits ws = true := by cases h : fits ws with | true => rfl | false => rw [h] at q; cases q
    have hbig := fits_iff.mp hf
    have e13 := e12.trans e3
    refine q_call (vs := [.ref a, s']) (by walk_at "ea") fun H4 e4 => ?_
    have e14 := e13.trans e4
    refine ((kk hf).mono e14).check (ex_l (e3.trans e4) hW2) hl0 fun c ss ec hS hi kR H5 e5 => ?_
    subst ec
    have hW5 := ex_l ((e3.trans e4).trans e5) hW2
    have hS5 := ex_l e5 hS
    have hsl := hi.len
    have hsb := in_bd hi hbig
    have n1 : ∀ y ∈ ws.map numT, y.length ≤ 60 := fun y hy => by
      obtain ⟨w, hw, rfl⟩ := List.mem_map.mp hy
      exact numT_len (by have := hp w hw; omega) (hbig w hw)
    have sp1 : (Str.ofString " ").length = 1 := by decide +kernel
    have sp0 : (Str.ofString "").length = 0 := by decide +kernel
    have spc : (Str.ofString ":").length = 1 := by decide +kernel
    have n2 : ∀ y ∈ ss.map (fun n => Str.ofString " " ++ numT n), y.length ≤ 61 := fun y hy => by
      obtain ⟨w, hw, rfl⟩ := List.mem_map.mp hy
      have := numT_len (hsb w hw).1 (hsb w hw).2
      rw [Str.length_append, sp1]
      omega
    have m1 := sum_le n1
    have m2 := sum_le n2
    have j1 := join_le (Str.ofString " ") n1
    have j2 := join_le (Str.ofString "") n2
    rw [List.length_map] at m1 m2 j1 j2
    rw [sp1] at j1
    rw [sp0] at j2
    refine q_asg (v := .str (Txt.join (Str.ofString " ") (ws.map numT))) (ev_join ev_c (el_list (by rw [List.length_map, List.length_map, List.length_map]) (ev_var rfl) hW5 (by rw [List.length_map]; omega) (fun _ => rfl) fun i x y H6 e6 hx hy => ?_) (by rw [List.length_map, sp1]; omega)) fun H6 e6 => ?_
    · obtain ⟨w, rfl, hw, hm⟩ := map_get hx
      rw [List.map_map, List.getElem?_map, hw] at hy
      cases hy
      exact ev_strI (ev_var rfl) (log_ok (by have := hp w hm; omega) (hbig w hm))
    have hS6 := ex_l e6 hS5
    refine s_ret (v := .str (wrT ws ss)) (ev_op (ev_op (ev_var rfl) ev_c (rv_cat (by rw [spc]; omega))) (ev_join ev_c (el_list (by rw [List.length_map, List.length_map, List.length_map]) (ev_var rfl) hS6 (by rw [List.length_map]; omega) (fun _ => rfl) fun i x y H7 e7 hx hy => ?_) (by rw [List.length_map, sp0]; omega)) (rv_cat (by rw [Str.length_append, spc]; omega))) fun H7 e7 => kR H7 (e14.trans ((e5.trans e6).trans e7))
    obtain ⟨w, rfl, hw, hm⟩ := map_get hx
    rw [List.map_map, List.getElem?_map, hw] at hy
    cases hy
    have := numT_len (hsb w hm).1 (hsb w hm).2
    exact ev_op ev_c (ev_strI (ev_var rfl) (log_ok (hsb w hm).1 (hsb w hm).2)) (rv_cat (by rw [sp1]; omega))
/-! ### number_in, read -/
theorem zero_eq : Str.ofString "0" = ⟨#[48]⟩ := by decide +kernel
theorem one_sign (c d : Nat) : decide ((⟨#[c]⟩ : Str) = ⟨#[d]⟩) = decide (c = d) := by
  by_cases h : c = d
  · rw [h, decide_eq_true rfl, decide_eq_true rfl]
  · rw [decide_eq_false h]
    exact decide_eq_false fun z => h (by
      have := congrArg (fun x : Str => x.cps.toList) z
      simpa using this)
theorem eq_zero (w : Str) : decide (w = Str.ofString "0") = decide (TL.tl w = [48]) := by
  rw [zero_eq]
  by_cases h : TL.tl w = [48]
  · rw [decide_eq_true h]
    exact decide_eq_true (TL.ext_tl h)
  · rw [decide_eq_false h]
    exact decide_eq_false fun z => h (by rw [z])
/-- what the two tests of a word ask -/
theorem good_test (l : List Nat) : (!(decide ((1 : Int) ≤ (l.length : Int)) && decide ((l.length : Int) ≤ 60)) || ((!l.all isD) || (decide (l.head? = some 48) && !decide (l = [48])))) = !goodW l := by
  unfold goodW
  have e1 : decide ((1 : Int) ≤ (l.length : Int)) = !decide (l = []) := by
    cases l with
    | nil => rfl
    | cons c r => exact (decide_eq_true (by rw [List.length_cons]; omega)).trans (by rw [decide_eq_false (List.cons_ne_nil c r)]; rfl)
  have e2 : decide ((l.length : Int) ≤ 60) = decide (l.length ≤ 60) := by
    by_cases h : l.length ≤ 60
    · rw [decide_eq_true h]; exact decide_eq_true (by omega)
    · rw [decide_eq_false h]; exact decide_eq_false (by omega)
  rw [e1, e2]
  cases decide (l = []) <;> cases decide (l.length ≤ 60) <;> cases l.all isD <;> cases decide (l.head? = some 48) <;> cases decide (l = [48]) <;> rfl
theorem ev_head {σ : L2.St} {H : Hp} {te : TE} {w : Str} (he : Ev te σ H (.str w)) (hl : w.length ≤ 100000) (hne : TL.tl w ≠ []) : Ev (tOp rEq (tOp rIxS te (tC (.int 0))) (tC (.str (Str.ofString "0")))) σ H (.bl (decide ((TL.tl w).head? = some 48))) := by
  obtain ⟨c, r, e⟩ : ∃ c r, TL.tl w = c :: r := by
    cases q : TL.tl w with
    | nil => exact absurd q hne
    | cons c r => exact ⟨c, r, rfl⟩
  have ha : atI w.cps.toList 0 = some c := by
    show atI w.cps.toList ((0 : Nat) : Int) = some c
    exact atI_nat (by rw [show w.cps.toList = TL.tl w from rfl, e]; rfl)
  refine ev_to (ev_op (ev_op he ev_c (rv_ixS hl ha)) ev_c rv_eqS) ?_
  rw [zero_eq, one_sign, e]
  show V.bl (decide (c = 48)) = V.bl (decide (some c = some 48))
  by_cases h : c = 48
  · rw [h]
    rfl
  · rw [decide_eq_false h, decide_eq_false (fun z => h (Option.some.inj z))]
theorem len_pos {w : Str} (h : 1 ≤ w.length) : TL.tl w ≠ [] := fun z => by
  rw [TL.len_tl, z] at h
  exact absurd h (by decide)
def sp_number_in (K : PySem.W.Frag) (C : Cs) : Sp := fun vs H Q E => ∃ w : Str, vs = [.str w] ∧ w.length ≤ 100000 ∧ (∀ n, numW (TL.tl w) = some n → RetV (.int n) H Q) ∧ (numW (TL.tl w) = none → RetX C.BadText H E)
theorem ok_number_in {P : Program} {w : World} {K : PySem.W.Frag} {mg : Str → Option Value} {base : Heap} {C : Cs} (T : Txt K mg C) : Cl P w K mg base (L2N.CX P w) 1 "number_in" ["word"] (sp_number_in K C) := by
  refine clX T.d_number_in sc_number_in (fun vs H Q E h => ?_) (fun f cdv A outer s H vs Q E hr h => ?_)
  · obtain ⟨w, rfl, hl, k1, k2⟩ := h
    rfl
  · obtain ⟨w, rfl, hl, k1, k2⟩ := h
    refine ⟨_, (pss_cons (ps_if (PW.pt (pw_or (pt_not (pt_chain op_le op_le pe_int (pe_callB call_len_str (by rfl) T.b_len PySem.boot_len (pa_cons (pv 0) pa_nil)) pe_int)) (pw_or (pt_cmpR op_ne (pe_m1 PySem.F.slot_str_strip PySem.F.type_str_strip mt_stripChars (pv 0) (pe_gs T.k_FIGURES (by rfl))) pe_str (nomark _)) (pw_or1 (PW.pt (pw_and (pt_cmpR op_eq (pe_ix ix_str (pv 0) pe_int (fun _ _ => rfl)) pe_str (nomark _)) (pw_and1 (pt_cmpR op_ne (pv 0) pe_str (nomark _))))))))) (pss_one (L2N.ps_raise rfl (L2N.takes_of rfl rfl rfl rfl) (L2N.pmk_own PySem.F.excBase_ValueError T.e_BadText.x T.e_BadText.g T.e_BadText.k (raises_own T.e_BadText.b T.e_BadText.t) rfl))) pss_nil)
    (pss_one (ps_ret (pe_callTy call_int_str (by rfl) T.b_int (by decide +kernel) (pa_cons (pv 0) pa_nil))))), ?_⟩
    dsimp only [cxOf, L2H.cxH, Cx.nox, Cx.wish, L2.start, List.map_cons, List.map_nil, List.length_cons, List.length_nil, List.cons_append, List.nil_append]
    have hlen := TL.len_tl w
    refine q_when (b := !(decide ((1 : Int) ≤ (w.length : Int)) && decide ((w.length : Int) ≤ 60)) || ((!decide (Txt.stripChars w (Str.ofString "0123456789") = Str.ofString "")) || (decide ((TL.tl w).head? = some 48) && !decide (w = Str.ofString "0")))) (et_or (et_not (et_test (ev_chainI (f := fun i j => decide (i ≤ j)) (f' := fun i j => decide (i ≤ j)) ev_c (ev_lenStr (ev_var rfl) hl) fun _ => ev_c))) fun q => et_or (et_test (ev_op (ev_strip (ev_var rfl) ev_c hl) ev_c rv_neS)) fun _ => et_and (et_test (ev_head (ev_var rfl) hl (len_pos ?_))) fun _ => et_test (ev_op (ev_var rfl) ev_c rv_neS)) (fun q H1 e1 => ?_) fun q H1 e1 => ?_
    · rw [Bool.not_eq_false', Bool.and_eq_true, decide_eq_true_iff] at q
      have := q.1
      omega
    · rw [strip_figs, eq_zero, hlen, good_test] at q
      exact k2 (by unfold numW; rw [if_neg (fun z => by rw [z] at q; cases q)]) H1 e1
    · rw [strip_figs, eq_zero, hlen, good_test] at q
      have g : goodW (TL.tl w) = true := by
        cases z : goodW (TL.tl w) with
        | true => rfl
        | false => rw [z] at q; cases q
      exact s_ret (ev_intW (ev_var rfl) g) fun H2 e2 => k1 _ (by unfold numW; rw [if_pos g]) H2 (e1.trans e2)
theorem numsW_snoc : ∀ {ls : List (List Nat)} {l : List Nat} {ms : List Int} {n : Int}, numsW ls = some ms → numW l = some n → numsW (ls ++ [l]) = some (ms ++ [n])
  | [], l, ms, n, h, h1 => by
    cases h
    show (match numW l, numsW [] with | some n, some ns => some (n :: ns) | _, _ => none) = _
    rw [h1]
    rfl
  | m :: r, l, ms, n, h, h1 => by
    obtain ⟨k, ks, h2, h3, rfl⟩ := numsW_cons h
    have ih := numsW_snoc h3 h1
    show (match numW m, numsW (r ++ [l]) with | some n, some ns => some (n :: ns) | _, _ => none) = _
    rw [h2, ih]
    rfl
/-- [number_in(word) for word in ..] -/
theorem lc_nums {K : PySem.W.Frag} {C : Cs} {E : XK} {σ : L2.St} {H : Hp} {tw : TE} {Ws : List Str} {j : Nat} {vs : List Nat} {Q : VK} (h : EvL tw σ H (Ws.map V.str)) (hw : ∀ x, wipe ((wipe σ vs).set j (some x)) vs = wipe σ vs) (hv : ∀ x, ((wipe σ vs).set j (some x))[j]? = some (some x)) (hz : Ws.length ≤ 40000) (hl : ∀ w ∈ Ws, w.length ≤ 100000)
    (kx : numsW (Ws.map TL.tl) = none → RetX C.BadText H E) (k : ∀ ns p H1, numsW (Ws.map TL.tl) = some ns → H p = none → Ex H H1 → H1 p = some (.lst (ns.map V.int)) → Q (.ref p) H1) :
    tLc (iList K tw) (gName j) tYes (tCall (sp_number_in K C) [] E (tCons (tVar j) tNil)) vs σ H Q :=
  h H (Ex.refl H) _ fun a H1 ha e1 hx => ⟨a, rfl, ⟨_, sq_of hx⟩, fun Dl hD => by
    refine lc_list (K := K) (xs := Ws.map V.str) (fun i H' => Ex H1 H' ∧ ∃ ms, numsW ((Ws.take i).map TL.tl) = some ms ∧ ms.length = i ∧ H' Dl = some (.lst (ms.map V.int))) ⟨Ex.new hD, [], rfl, rfl, upd_same⟩ (fun i H' _ p => sq_of (p.1 a _ hx)) (fun i x H' hi p => ⟨hw x, ?_⟩) (fun H' p => ?_)
    · obtain ⟨e2, ms, hm, hml, hd⟩ := p
      rw [List.getElem?_map] at hi
      obtain ⟨w, hwi, rfl⟩ : ∃ w, Ws[i]? = some w ∧ V.str w = x := by
        cases q : Ws[i]? with
        | none => rw [q] at hi; cases hi
        | some w => rw [q] at hi; exact ⟨w, rfl, Option.some.inj hi⟩
      have hmem := List.mem_of_getElem? hwi
      have hlt := (List.getElem?_eq_some_iff.mp hwi).1
      have et : (Ws.take (i + 1)).map TL.tl = (Ws.take i).map TL.tl ++ [TL.tl w] := by
        rw [List.take_succ, hwi, List.map_append]
        rfl
      unfold tYes
      dsimp only
      rw [if_pos rfl]
      refine ⟨_, hv _, w, rfl, hl w hmem, fun n hn H4 e4 => ?_, fun hn => ?_⟩
      · refine ⟨ms.map V.int, e4 _ _ hd, sz_lt (by rw [List.length_map]; omega), Ex.mut (e2.trans e4) hD, ms ++ [n], ?_, by rw [List.length_append, hml]; rfl, ?_⟩
        · rw [et]
          exact numsW_snoc hm hn
        · rw [upd_same, List.map_append]
          rfl
      · exact RetX.go (kx (numsW_no (List.mem_map.mpr ⟨w, hmem, rfl⟩) hn)) (e1.trans e2)
    · obtain ⟨e2, ms, hm, hml, hd⟩ := p
      rw [List.length_map, List.take_length] at hm
      exact k ms Dl H' hm (fresh_back e1 hD) (e1.trans e2) hd⟩
theorem q_nums {K : PySem.W.Frag} {C : Cs} {E : XK} {σ : L2.St} {H : Hp} {D : Ends} {tz : TS} {tw : TE} {Ws : List Str} {i j : Nat} {vs : List Nat} (h : EvL tw σ H (Ws.map V.str)) (hw : ∀ x, wipe ((wipe σ vs).set j (some x)) vs = wipe σ vs) (hv : ∀ x, ((wipe σ vs).set j (some x))[j]? = some (some x)) (hz : Ws.length ≤ 40000) (hl : ∀ w ∈ Ws, w.length ≤ 100000)
    (kx : numsW (Ws.map TL.tl) = none → RetX C.BadText H E) (k : ∀ ns p H1, numsW (Ws.map TL.tl) = some ns → H p = none → Ex H H1 → H1 p = some (.lst (ns.map V.int)) → tz D (σ.set i (some (.ref p))) H1) :
    tSeq (tAsg (tLc (iList K tw) (gName j) tYes (tCall (sp_number_in K C) [] E (tCons (tVar j) tNil)) vs) (gName i)) tz D σ H := lc_nums (Q := fun x H1 => gName i x σ H1 (fun σ' H' => tz D σ' H')) h hw hv hz hl kx k
/-- a new tuple of two new lists -/
def RetT (ws ss : List Int) (H : Hp) (Q : VK) : Prop := ∀ p a b H2, H p = none → H a = none → H b = none → a ≠ b → Ex H H2 → H2 p = some (.tup [.ref a, .ref b]) → H2 a = some (.lst (ws.map V.int)) → H2 b = some (.lst (ss.map V.int)) → Q (.ref p) H2
theorem RetT.mono {ws ss : List Int} {H H' : Hp} {Q : VK} (k : RetT ws ss H Q) (e : Ex H H') : RetT ws ss H' Q := fun p a b H2 hp ha hb n e2 => k p a b H2 (fresh_back e hp) (fresh_back e ha) (fresh_back e hb) n (e.trans e2)
theorem piece_len {x sep : Str} {s : Nat} (h : (Txt.split x sep).map TL.tl = TL.spl [s] 0 [] (TL.tl x)) (hl : x.length ≤ 100000) : ∀ w ∈ Txt.split x sep, w.length ≤ 100000 := fun w hw => by
  have m : TL.tl w ∈ TL.spl [s] 0 [] (TL.tl x) := by
    rw [← h]
    exact List.mem_map.mpr ⟨w, hw, rfl⟩
  have := spl_piece s (TL.tl x) [] _ m
  rw [List.length_nil, ← TL.len_tl, ← TL.len_tl] at this
  omega
theorem words_len {x : Str} : (Txt.split x (Str.ofString " ")).length = (TL.tl x).count 32 + 1 := by
  rw [← spl_len 32 (TL.tl x) [], ← split_space, List.length_map]
theorem exmT {K : PySem.W.Frag} {a b c : Value} {x y : Bool} (h1 : PySem.W.exmOne K a b = some x) (h2 : PySem.W.exmOne K a c = some y) (h : (x || y) = true) : PySem.W.exmAny K a [b, c] = some true := by
  unfold PySem.W.exmAny
  rw [h1]
  unfold PySem.W.exmAny
  rw [h2]
  unfold PySem.W.exmAny
  cases x <;> cases y <;> first | rfl | cases h
theorem s_retTLL {σ : L2.St} {H : Hp} {D : Ends} {ta tb : TE} {xs ys : List V} (ha : EvL ta σ H xs) (hb : EvL tb σ H ys) (k : ∀ p a b H2, H p = none → H a = none → H b = none → a ≠ b → Ex H H2 → H2 p = some (.tup [.ref a, .ref b]) → H2 a = some (.lst xs) → H2 b = some (.lst ys) → D.rt (.ref p) H2) : tRet (tTup (tCons ta (tCons tb tNil))) D σ H :=
  ha H (Ex.refl H) _ fun a H1 hpa e1 h1 => hb H1 e1 _ fun b H2 hpb e2 h2 => ⟨by show 2 ≤ sizeLine; decide, fun p hp => k p a b _ (fresh_back (e1.trans e2) hp) hpa (fresh_back e1 hpb) (fun z => by
    rw [z, hpb] at h1
    cases h1) ((e1.trans e2).trans (Ex.new hp)) upd_same ((Ex.new hp) _ _ (e2 _ _ h1)) ((Ex.new hp) _ _ h2)⟩
theorem s_retTVV {σ : L2.St} {H : Hp} {D : Ends} {ta tb : TE} {x y : V} (ha : Ev ta σ H x) (hb : Ev tb σ H y) (k : ∀ p H2, H p = none → Ex H H2 → H2 p = some (.tup [x, y]) → D.rt (.ref p) H2) : tRet (tTup (tCons ta (tCons tb tNil))) D σ H :=
  ha H (Ex.refl H) _ fun H1 e1 => hb H1 e1 _ fun H2 e2 => ⟨by show 2 ≤ sizeLine; decide, fun p hp => k p _ (fresh_back (e1.trans e2) hp) ((e1.trans e2).trans (Ex.new hp)) upd_same⟩
theorem restL_first {h p : List Nat} {ns : List (List Nat)} (hp : p ≠ []) : restL h (p :: ns) = none := by
  cases p with
  | nil => exact absurd rfl hp
  | cons c r => rfl
theorem restL_n1 {h : List Nat} {ns : List (List Nat)} (e : numsW (TL.spl [32] 0 [] h) = none) : restL h ([] :: ns) = none := by
  unfold restL
  dsimp only
  rw [e]
theorem restL_n2 {h : List Nat} {ns : List (List Nat)} {ws : List Int} (e1 : numsW (TL.spl [32] 0 [] h) = some ws) (e : numsW ns = none) : restL h ([] :: ns) = none := by
  unfold restL
  dsimp only
  rw [e1, e]
theorem restL_eq {h : List Nat} {ns : List (List Nat)} {ws ss : List Int} (e1 : numsW (TL.spl [32] 0 [] h) = some ws) (e : numsW ns = some ss) : restL h ([] :: ns) = if (posB ws && inB ws ss) = true then some (ws, ss) else none := by
  unfold restL
  dsimp only
  rw [e1, e]
theorem ok_pos {ws : List Int} : (ws.map Kd.int).all okSize = posB ws := by
  rw [List.all_map]
  rfl
theorem ok_in {ws ss : List Int} : setOk ws (ss.map Kd.int) = inB ws ss := by
  rw [Bool.eq_iff_iff, setOk_ints, inB_iff]
theorem q_tryTwo {σ : L2.St} {H : Hp} {D : Ends} {tz : TS} {sp1 sp2 : Sp} {F : Ends → L2.St → XK} {ta tb : TA} {vs : List V} (ha : EvA ta σ H vs)
    (k : ∀ H1, Ex H H1 → sp1 vs H1 (fun _ H2 => tb σ H2 fun us H3 => sp2 us H3 (fun _ H4 => tz D σ H4) (F { D with nx := tz D } σ)) (F { D with nx := tz D } σ)) :
    tSeq (fun D σ H => tSeq (tDrop (tCallS sp1 (F D) ta)) (tDrop (tCallS sp2 (F D) tb)) D σ H) tz D σ H := ha H (Ex.refl H) _ fun H1 e1 => k H1 e1
theorem ea_run {σ : L2.St} {H : Hp} {ta : TA} {vs : List V} {Q : List V → Hp → Prop} (ha : EvA ta σ H vs) (k : ∀ H1, Ex H H1 → Q vs H1) : ta σ H Q := ha H (Ex.refl H) _ k
def sp_read (K : PySem.W.Frag) (C : Cs) : Sp := fun vs H Q E => ∃ v : V, vs = [v] ∧ ((∃ kd, Thg K H v kd ∧ kd.isStr = false ∧ RetX C.BadText H E) ∨
  ∃ t : Str, v = .str t ∧ t.length ≤ 30000 ∧ (∀ ws ss, readL (TL.tl t) = some (ws, ss) → RetT ws ss H Q) ∧ (readL (TL.tl t) = none → RetX C.BadText H E))
theorem ok_read {P : Program} {w : World} {K : PySem.W.Frag} {mg : Str → Option Value} {base : Heap} {C : Cs} (T : Txt K mg C) : Cl P w K mg base (CXm P w) 4 "read" ["text"] (sp_read K C) := by
  have c_number_in := ok_number_in (P := P) (w := w) (base := base) T
  have c_check_wheels := ok_check_wheels (P := P) (w := w) (base := base) T
  have c_check_setting := ok_check_setting (P := P) (w := w) (base := base) T
  refine clM T.d_read sc_read (fun vs H Q E h => ?_) (fun f cdv A outer s H vs Q E hr h => ?_)
  · obtain ⟨v, rfl, hv⟩ := h
    rfl
  · obtain ⟨v, rfl, hv⟩ := h
    refine ⟨_, (pss_cons (ps_if (pt_not (pt_val (pe_callB (call_isiK' (K := K) rfl) (by rfl) T.b_isinstance (by decide +kernel) (pa_cons (pv 0) (pa_cons (pe_bltn (by rfl) T.b_str (by decide +kernel) (v := .ty "str") rfl) pa_nil))) (by intro _; rfl))) (pss_one (L2N.ps_raise rfl (takesM_of rfl rfl rfl rfl).n (L2N.pmk_own PySem.F.excBase_ValueError T.e_BadText.x T.e_BadText.g T.e_BadText.k (raises_own T.e_BadText.b T.e_BadText.t) rfl))) pss_nil)
    (pss_cons (ps_if (pt_cmpR op_eq (pv 0) pe_str (nomark _)) (pss_one (ps_ret (pe_tup (pa_cons (pe_lst pa_nil) (pa_cons (pe_lst pa_nil) pa_nil))))) pss_nil)
    (pss_cons (ps_asg (pe_partition (pv 0) pe_str) (pg_tupK (K := K) (n := 3) rfl rfl (pgs_cons (pg_name (i := 1) sc_read.nd rfl (.inl rfl)) (pgs_cons (pg_name (i := 2) sc_read.nd rfl (.inl rfl)) (pgs_cons (pg_name (i := 3) sc_read.nd rfl (.inl rfl)) pgs_nil)))))
    (pss_cons (ps_set (i := 4) sc_read.nd rfl (.inl rfl) (pe_split (pv 3) pe_str))
    (pss_cons (ps_if (PW.pt (pw_or (pt_cmpR op_eq (pv 2) pe_str (nomark _)) (pw_or1 (pt_cmpR op_ne (pe_ix (ix_listK (K := K) rfl) (pv 4) pe_int (fun _ _ => rfl)) pe_str (nomark _))))) (pss_one (L2N.ps_raise rfl (takesM_of rfl rfl rfl rfl).n (L2N.pmk_own PySem.F.excBase_ValueError T.e_BadText.x T.e_BadText.g T.e_BadText.k (raises_own T.e_BadText.b T.e_BadText.t) rfl))) pss_nil)
    (pss_cons (ps_setLcX (i := 5) (own := [("word", 7)]) (g := gName 7) rfl rfl rfl (takesM_of rfl rfl rfl rfl).n sc_read.nd rfl rfl (sw_true rfl rfl rfl (by decide +kernel)) (pi_listK (K := K) rfl (pe_split (pv 1) pe_str)) (blkOk_by (N := ["text", "head", "colon", "tail", "words", "wheels", "setting", "word"]) (sc := defScope S_read) (own := [("word", 7)]) (by decide +kernel)) (fun _ _ _ _ _ => (pg_name (i := 7) sc_read.nd rfl (.inl rfl))) (fun _ _ _ _ _ xe hx => (pe_cl c_number_in (hr.mono (by decide)) (by rfl) hx (pa_cons (pv 7) pa_nil))))
    (pss_cons (ps_setLcX (i := 6) (own := [("word", 7)]) (g := gName 7) rfl rfl rfl (takesM_of rfl rfl rfl rfl).n sc_read.nd rfl rfl (sw_true rfl rfl rfl (by decide +kernel)) (pi_listK (K := K) rfl (pe_slice (sl_listK (K := K) rfl) (pv 4) (po_some pe_int) po_none)) (blkOk_by (N := ["text", "head", "colon", "tail", "words", "wheels", "setting", "word"]) (sc := defScope S_read) (own := [("word", 7)]) (by decide +kernel)) (fun _ _ _ _ _ => (pg_name (i := 7) sc_read.nd rfl (.inl rfl))) (fun _ _ _ _ _ xe hx => (pe_cl c_number_in (hr.mono (by decide)) (by rfl) hx (pa_cons (pv 7) pa_nil))))
    (pss_cons (ps_try_two rfl rfl ⟨by rfl, by decide, .inl T.g_BadWheels⟩ ⟨by rfl, by decide, .inl T.g_BadSetting⟩ (fun hd => L2H.passesAt_of rfl hd) (takesM_of rfl rfl rfl rfl) (fun W pn xe tk po => (pss_cons (ps_expr (pe_clS (E := WE W) c_check_wheels (hr.mono (by decide)) (by rfl) (fun σ => L2N.passAt tk σ) (pa_cons (pv 5) pa_nil)))
    (pss_one (ps_expr (pe_clS (E := WE W) c_check_setting (hr.mono (by decide)) (by rfl) (fun σ => L2N.passAt tk σ) (pa_cons (pv 5) (pa_cons (pv 6) pa_nil))))))) (fun a oe cls d pn hz hf tkS hot => (pss_one (ps_raiseM hot tkS (L2N.pmk_own PySem.F.excBase_ValueError T.e_BadText.x T.e_BadText.g T.e_BadText.k (raises_own T.e_BadText.b T.e_BadText.t) rfl)))))
    (pss_one (ps_ret (pe_tup (pa_cons (pv 5) (pa_cons (pv 6) pa_nil))))))))))))), ?_⟩
    dsimp only [cxOf, L2H.cxH, Cx.nox, Cx.wish, L2.start, List.map_cons, List.map_nil, List.length_cons, List.length_nil, List.cons_append, List.nil_append]
    rcases hv with ⟨kd, hk, hn, kx⟩ | ⟨t, rfl, hl, k1, k2⟩
    · exact q_when (b := !kd.isStr) (et_not (et_B (ev_cb (ea_cons (ev_var rfl) (ea_cons ev_c ea_nil)) (rc_isi hk fun _ => kd_str)))) (fun _ H1 e1 => kx H1 e1) fun q => (by rw [hn] at q; cases q)
    refine q_when (b := !true) (et_not (et_B (ev_cb (ea_cons (ev_var rfl) (ea_cons ev_c ea_nil)) (rc_isi (Thg.str t) fun _ => kd_str)))) (fun q => nomatch q) fun _ H1 e1 => ?_
    have hlen := TL.len_tl t
    refine q_when (b := decide (t = Str.ofString ":")) (et_test (ev_op (ev_var rfl) ev_c rv_eqS)) (fun q H2 e2 => ?_) fun q H2 e2 => ?_
    · have ht : t = Str.ofString ":" := of_decide_eq_true q
      have hr : readL (TL.tl t) = some ([], []) := by
        rw [ht, tl_colon]
        rfl
      have e12 := e1.trans e2
      exact s_retTLL (xs := []) (ys := []) (el_lst ea_nil (Nat.zero_le _)) (el_lst ea_nil (Nat.zero_le _)) (RetT.mono (k1 [] [] hr) e12)
    have hne : TL.tl t ≠ [58] := fun z => (of_decide_eq_false q) (TL.ext_tl (z.trans tl_colon.symm))
    have e12 := e1.trans e2
    refine q_part (i := 1) (j := 2) (k := 3) (ev_var rfl) ev_c (by omega) (by decide +kernel) fun H3 e3 => ?_
    have e13 := e12.trans e3
    rw [part_colon]
    have hrd : readL (TL.tl t) = match TL.par [58] [] (TL.tl t) with | none => none | some (h, r) => restL h (TL.spl [32] 0 [] r) := by
      unfold readL
      rw [if_neg hne] <;> rfl
    cases hp : TL.par [58] [] (TL.tl t) with
    | none =>
      rw [hp] at hrd
      dsimp only
      refine q_asgL (el_split (a := Str.empty) (b := Str.ofString " ") (ev_var rfl) ev_c (by decide) (by decide +kernel)) fun wl H4 hwl e4 h4 => ?_
      exact q_when (b := true || false) (et_or (et_tt (et_test (ev_op (ev_var rfl) ev_c rv_eqS)) (by decide +kernel)) fun q => nomatch q) (fun _ H5 e5 => k2 hrd H5 ((e13.trans e4).trans e5)) fun q => nomatch q
    | some hr =>
      obtain ⟨hh, r⟩ := hr
      rw [hp] at hrd
      have hrd : readL (TL.tl t) = restL hh (TL.spl [32] 0 [] r) := hrd
      dsimp only
      have hs := par_sound hp
      rw [List.nil_append] at hs
      have hlh : hh.length + (r.length + 1) = t.length := by
        rw [hlen, hs, List.length_append]
        rfl
      have lh : (⟨hh.toArray⟩ : Str).length = hh.length := TL.len_tl _
      have lr : (⟨r.toArray⟩ : Str).length = r.length := TL.len_tl _
      refine q_asgL (el_split (a := ⟨r.toArray⟩) (b := Str.ofString " ") (ev_var rfl) ev_c (by omega) (by decide +kernel)) fun wl H4 hwl e4 h4 => ?_
      have hW := split_space ⟨r.toArray⟩
      have hWl := piece_len hW (by omega)
      have hWc := words_len (x := ⟨r.toArray⟩)
      have hcr : (TL.tl (⟨r.toArray⟩ : Str)).count 32 ≤ r.length := List.count_le_length
      rw [TL.tl_mk] at hW
      generalize Txt.split (⟨r.toArray⟩ : Str) (Str.ofString " ") = Ws at h4 hW hWl hWc
      rw [← hW] at hrd
      match Ws, h4, hW, hWl, hWc, hrd with
      | [], _, hW, _, _, _ =>
        obtain ⟨p, ps, e⟩ := spl_ne 32 r []
        rw [e] at hW
        cases hW
      | w0 :: Wr, h4, hW, hWl, hWc, hrd =>
        have e14 := e13.trans e4
        refine q_when (b := false || !decide (w0 = Str.ofString "")) (et_or (et_tt (et_test (ev_op (ev_var rfl) ev_c rv_eqS)) (by decide +kernel)) fun _ => et_test (ev_op (ev_op (ev_var rfl) ev_c (rv_ixL (v := .str w0) (sq_of h4) (show atI _ ((0 : Nat) : Int) = _ from atI_nat rfl))) ev_c rv_neS)) (fun q H5 e5 => ?_) fun q H5 e5 => ?_
        · rw [Bool.false_or] at q
          refine k2 (hrd.trans (restL_first ?_)) H5 (e14.trans e5)
          intro z
          rw [decide_eq_true ((empty_tl w0).mpr z)] at q
          cases q
        have z0 : TL.tl w0 = [] := (empty_tl w0).mp (by
          rw [Bool.false_or] at q
          exact of_decide_eq_true (by cases d : decide (w0 = Str.ofString "") with | true => rfl | false => rw [d] at q; cases q))
        rw [List.map_cons, z0] at hrd
        have e15 := e14.trans e5
        have hH := split_space ⟨hh.toArray⟩
        have hHl := piece_len hH (by omega)
        have hHc := words_len (x := ⟨hh.toArray⟩)
        have hch : (TL.tl (⟨hh.toArray⟩ : Str)).count 32 ≤ hh.length := List.count_le_length
        rw [TL.tl_mk] at hH
        refine q_nums (Ws := Txt.split ⟨hh.toArray⟩ (Str.ofString " ")) (el_split (a := ⟨hh.toArray⟩) (b := Str.ofString " ") (ev_var rfl) ev_c (by omega) (by decide +kernel)) (fun _ => rfl) (fun _ => rfl) (by omega) hHl (fun hn => ?_) fun ws a H6 hws ha e6 h6 => ?_
        · rw [hH] at hn
          exact RetX.go (k2 (hrd.trans (restL_n1 hn))) e15
        rw [hH] at hws
        have e16 := e15.trans e6
        have hWr : ∀ w ∈ Wr, w.length ≤ 100000 := fun w hw => hWl w (List.mem_cons_of_mem _ hw)
        rw [List.length_cons] at hWc
        have h4' := e6 _ _ (e5 _ _ h4)
        have hsl : EvL (tSl (rSlL K) (tVar 4) (tPart (tC (.int 1))) tNoPart) [some (.str t), some (.str ⟨hh.toArray⟩), some (.str (Str.ofString ":")), some (.str ⟨r.toArray⟩), some (.ref wl), some (.ref a), none, none] H6 (Wr.map V.str) := by
          have := el_sl (K := K) (σ := [some (.str t), some (.str ⟨hh.toArray⟩), some (.str (Str.ofString ":")), some (.str ⟨r.toArray⟩), some (.ref wl), some (.ref a), none, none]) (te := tVar 4) (lo := some ((1 : Nat) : Int)) (hi := none) (ev_var rfl) (eo_some (te := tC (.int 1)) ev_c) eo_none (sq_of h4')
          rw [cut_from] at this
          exact this
        refine q_nums (Ws := Wr) hsl (fun _ => rfl) (fun _ => rfl) (by omega) hWr (fun hn => ?_) fun ss b H7 hss hb e7 h7 => ?_
        · exact RetX.go (k2 (hrd.trans (restL_n2 hws hn))) e16
        have e17 := e16.trans e7
        have hres := hrd.trans (restL_eq hws hss)
        have h6' := e7 _ _ h6
        have wl1 := numsW_len hws
        have wl2 := numsW_len hss
        rw [spl_len] at wl1
        rw [List.length_map] at wl2
        have hch' : hh.count 32 ≤ hh.length := List.count_le_length
        have fa : H a = none := fresh_back e15 ha
        have fb : H b = none := fresh_back e16 hb
        have nab : a ≠ b := fun z => by
          rw [z, hb] at h6
          cases h6
        refine q_tryTwo (F := fun D => WE (wTwo K (.ref C.BadWheels) (.ref C.BadSetting) (fun a cls d x σ H => E (.ref C.BadText) none H) D)) (vs := [.ref a]) (ea_cons (ev_var rfl) ea_nil) fun H8 e8 => ?_
        refine ⟨.ref a, rfl, .inr ⟨a, _, _, rfl, sq_of (e8 _ _ h6'), Thgs.ints ws, by rw [List.length_map]; omega, fun hpos H9 e9 => ?_, fun hno H9 e9 => ⟨exmT T.exm_BadWheels_BadWheels T.exm_BadWheels_BadSetting rfl, fun x hx => ?_⟩⟩⟩
        · rw [ok_pos] at hpos
          rw [hpos] at hres
          have e89 := e8.trans e9
          refine ea_run (H := H9) (vs := [.ref a, .ref b]) (ea_cons (ev_var rfl) (ea_cons (ev_var rfl) ea_nil)) fun H10 e10 => ?_
          show sp_check_setting K C [.ref a, .ref b] H10 _ _
          refine ⟨a, ws, .ref b, _, rfl, sq_of (e10 _ _ (e89 _ _ h6')), by omega, SetV.ints (sq_of (e10 _ _ (e89 _ _ h7))) (by omega), fun hok H11 e11 => ?_, fun hno H11 e11 => ⟨exmT T.exm_BadSetting_BadWheels T.exm_BadSetting_BadSetting rfl, fun x hx => ?_⟩⟩
          · rw [ok_in] at hok
            rw [hok] at hres
            have e711 := (e89.trans e10).trans e11
            exact s_retTVV (ev_var rfl) (ev_var rfl) fun p H12 hp12 e12' h12 => k1 ws ss hres p a b H12 (fresh_back (e17.trans e711) hp12) fa fb nab ((e17.trans e711).trans e12') h12 (e12' _ _ (e711 _ _ h6')) (e12' _ _ (e711 _ _ h7))
          · rw [ok_in] at hno
            rw [hno] at hres
            exact k2 hres H11 (e17.trans ((e89.trans e10).trans e11))
        · rw [ok_pos] at hno
          rw [hno] at hres
          exact k2 hres H9 (e17.trans (e8.trans e9))
/-! ### the law's own reading of texts -/
def numV (l : List Nat) : V := match numW l with
  | some n => .int n
  | none => .non
theorem numV_flat (l : List Nat) : flatV (numV l) = true := by
  unfold numV
  cases numW l <;> rfl
theorem good_test2 (l : List Nat) : (decide (l = []) || (decide ((60 : Int) < (l.length : Int)) || ((!l.all isD) || (decide (l.head? = some 48) && !decide (l = [48]))))) = !goodW l := by
  unfold goodW
  have e2 : decide ((60 : Int) < (l.length : Int)) = !decide (l.length ≤ 60) := by
    by_cases h : l.length ≤ 60
    · rw [decide_eq_true h]; exact decide_eq_false (by omega)
    · rw [decide_eq_false h]; exact decide_eq_true (by omega)
  rw [e2]
  cases decide (l = []) <;> cases decide (l.length ≤ 60) <;> cases l.all isD <;> cases decide (l.head? = some 48) <;> cases decide (l = [48]) <;> rfl
theorem eq_empty (w : Str) : decide (w = Str.ofString "") = decide (TL.tl w = []) := by
  by_cases h : TL.tl w = []
  · rw [decide_eq_true h]
    exact decide_eq_true ((empty_tl w).mpr h)
  · rw [decide_eq_false h]
    exact decide_eq_false fun z => h ((empty_tl w).mp z)
def sp_law_number (K : PySem.W.Frag) (_ : Cs) : Sp := fun vs H Q _ => ∃ w : Str, vs = [.str w] ∧ w.length ≤ 100000 ∧ RetV (numV (TL.tl w)) H Q
theorem spv_number {K : PySem.W.Frag} {C : Cs} {H : Hp} {w : Str} (h : w.length ≤ 100000) : SpV (sp_law_number K C) [.str w] H (numV (TL.tl w)) := fun H1 e Q q E => ⟨w, rfl, h, q⟩
theorem ok_law_number {P : Program} {w : World} {K : PySem.W.Frag} {mg : Str → Option Value} {base : Heap} {C : Cs} (T : Txt K mg C) : Cl P w K mg base CX0 1 "_law_number" ["_law_text"] (sp_law_number K C) := by
  refine cl0 T.d_law_number sc_law_number (fun vs H Q E h => ?_) (fun f cdv A outer s H vs Q E hr h => ?_)
  · obtain ⟨w, rfl, hl, k⟩ := h
    rfl
  · obtain ⟨w, rfl, hl, k⟩ := h
    refine ⟨_, (pss_cons (ps_if (PW.pt (pw_or (pt_cmpR op_eq (pv 0) pe_str (nomark _)) (pw_or (pt_cmpR op_gt (pe_callB call_len_str (by rfl) T.b_len PySem.boot_len (pa_cons (pv 0) pa_nil)) pe_int (nomark _)) (pw_or (pt_cmpR op_ne (pe_m1 PySem.F.slot_str_strip PySem.F.type_str_strip mt_stripChars (pv 0) pe_str) pe_str (nomark _)) (pw_or1 (PW.pt (pw_and (pt_cmpR op_eq (pe_ix ix_str (pv 0) pe_int (fun _ _ => rfl)) pe_str (nomark _)) (pw_and1 (pt_cmpR op_ne (pv 0) pe_str (nomark _)))))))))) (pss_one (ps_ret pe_non)) pss_nil)
    (pss_one (ps_ret (pe_callTy call_int_str (by rfl) T.b_int (by decide +kernel) (pa_cons (pv 0) pa_nil))))), ?_⟩
    dsimp only [cxOf, L2H.cxH, Cx.nox, Cx.wish, L2.start, List.map_cons, List.map_nil, List.length_cons, List.length_nil, List.cons_append, List.nil_append]
    have hlen := TL.len_tl w
    refine q_when (b := decide (w = Str.ofString "") || (decide ((60 : Int) < (w.length : Int)) || ((!decide (Txt.stripChars w (Str.ofString "0123456789") = Str.ofString "")) || (decide ((TL.tl w).head? = some 48) && !decide (w = Str.ofString "0"))))) (et_or (et_test (ev_op (ev_var rfl) ev_c rv_eqS)) fun q => et_or (et_test (ev_op (ev_lenStr (ev_var rfl) hl) ev_c rv_I0)) fun _ => et_or (et_test (ev_op (ev_strip (ev_var rfl) ev_c hl) ev_c rv_neS)) fun _ => et_and (et_test (ev_head (ev_var rfl) hl fun z => ?_)) fun _ => et_test (ev_op (ev_var rfl) ev_c rv_neS)) (fun q H1 e1 => ?_) fun q H1 e1 => ?_
    · rw [decide_eq_true ((empty_tl w).mpr z)] at q
      cases q
    · rw [eq_empty, strip_figs, eq_zero, hlen, good_test2] at q
      refine s_ret ev_c fun H2 e2 => ?_
      have : numV (TL.tl w) = .non := by
        unfold numV numW
        rw [if_neg (fun z => by rw [z] at q; cases q)]
      rw [← this]
      exact k H2 (e1.trans e2)
    · rw [eq_empty, strip_figs, eq_zero, hlen, good_test2] at q
      have g : goodW (TL.tl w) = true := by
        cases z : goodW (TL.tl w) with
        | true => rfl
        | false => rw [z] at q; cases q
      refine s_ret (ev_intW (ev_var rfl) g) fun H2 e2 => ?_
      have : numV (TL.tl w) = .int (valW (TL.tl w)) := by
        unfold numV numW
        rw [if_pos g]
      rw [← this]
      exact k H2 (e1.trans e2)
theorem nums_some : ∀ {ls : List (List Nat)} {ns : List Int}, numsW ls = some ns → ls.map numV = ns.map V.int
  | [], ns, h => by cases h; rfl
  | l :: r, ns, h => by
    obtain ⟨n, ms, h1, h2, rfl⟩ := numsW_cons h
    rw [List.map_cons, List.map_cons, nums_some h2]
    unfold numV
    rw [h1]
theorem in_ints : ∀ ns : List Int, inV .non (ns.map V.int) = false
  | [] => rfl
  | n :: r => by
    show (eqV (.int n) .non || inV .non (r.map V.int)) = false
    rw [in_ints r]
    rfl
theorem in_none : ∀ {ls : List (List Nat)}, numsW ls = none → inV .non (ls.map numV) = true
  | [], h => by cases h
  | l :: r, h => by
    show (eqV (numV l) .non || inV .non (r.map numV)) = true
    cases h1 : numW l with
    | none =>
      have : numV l = .non := by
        unfold numV
        rw [h1]
      rw [this]
      rfl
    | some n =>
      have h2 : numsW r = none := by
        unfold numsW at h
        rw [h1] at h
        cases h3 : numsW r with
        | none => rfl
        | some ns => rw [h3] at h; cases h
      rw [in_none h2, Bool.or_true]
theorem nums_flat (ls : List (List Nat)) : (ls.map numV).all flatV = true := by
  rw [List.all_map, List.all_eq_true]
  intro l _
  exact numV_flat l
section
variable {K : PySem.W.Frag} {σ : L2.St} {H : Hp} {D : Ends} {ta tb te tl' : TE} {t : TT} {tz : TS} {xs ys : List V} {p : Addr} {ws ss : List Int}
/-- a comprehension over a new list -/
theorem el_lcLst {j : Nat} {vs : List Nat} (hl : ys.length = xs.length) (h : EvL tl' σ H xs) (hz : xs.length ≤ 40000) (hw : ∀ x, wipe ((wipe σ vs).set j (some x)) vs = wipe σ vs)
    (he : ∀ (i : Nat) (x y : V) H1, Ex H H1 → xs[i]? = some x → ys[i]? = some y → Ev te ((wipe σ vs).set j (some x)) H1 y) :
    EvL (tLc (iList K tl') (gName j) tYes te vs) σ H ys := fun H0 e Q q => h H0 e _ fun a H1 ha e1 hx => ⟨a, rfl, ⟨xs, sq_of hx⟩, fun Dl hD => by
  refine lc_list (xs := xs) (fun i H' => Ex H1 H' ∧ H' Dl = some (.lst (ys.take i))) ⟨Ex.new hD, upd_same⟩ (fun i H' _ p => sq_of (p.1 a _ hx)) (fun i x H' hi p => ⟨hw x, ?_⟩) (fun H' p => q Dl H' (fresh_back e1 hD) (e1.trans p.1) (by rw [p.2, List.take_of_length_le (by omega)]))
  have hi' : i < ys.length := by
    have := (List.getElem?_eq_some_iff.mp hi).1
    omega
  have hy : ys[i]? = some ys[i] := List.getElem?_eq_getElem hi'
  unfold tYes
  dsimp only
  rw [if_pos rfl]
  refine he i x _ H' ((e.trans e1).trans p.1) hi hy H' (Ex.refl H') _ fun H4 e4 => ⟨ys.take i, e4 _ _ p.2, sz_lt (by rw [List.length_take]; omega), Ex.mut (p.1.trans e4) hD, ?_⟩
  rw [upd_same, List.take_succ, hy]
  rfl⟩
/-- [_law_number(word) for word in ..] -/
theorem el_numbers {C : Cs} {E : XK} {tw : TE} {Ws : List Str} {j : Nat} {vs : List Nat} (h : EvL tw σ H (Ws.map V.str)) (hw : ∀ x, wipe ((wipe σ vs).set j (some x)) vs = wipe σ vs) (hv : ∀ x, ((wipe σ vs).set j (some x))[j]? = some (some x)) (hz : Ws.length ≤ 40000) (hl : ∀ w ∈ Ws, w.length ≤ 100000) :
    EvL (tLc (iList K tw) (gName j) tYes (tCall (sp_law_number K C) [] E (tCons (tVar j) tNil)) vs) σ H ((Ws.map TL.tl).map numV) :=
  el_lcLst (by rw [List.length_map, List.length_map, List.length_map]) h (by rw [List.length_map]; exact hz) hw fun i x y H1 _ hx hy => by
    rw [List.getElem?_map] at hx
    rw [List.map_map, List.getElem?_map] at hy
    cases q : Ws[i]? with
    | none => rw [q] at hx; cases hx
    | some w =>
      rw [q] at hx hy
      cases hx
      cases hy
      exact ev_call (ea_cons (ev_var (hv _)) ea_nil) (spv_number (hl w (List.mem_of_getElem? q)))
/-- min(sizes) < 1 -/
theorem ev_minlt (h : Ev te σ H (.ref p)) (hp : SqL K H p (ws.map V.int)) (hn : 0 < ws.length) : Ev (tOp (rI0 fun i j => V.bl (decide (i < j))) (tCB (rMin K) (tCons te tNil)) (tC (.int 1))) σ H (.bl (!posB ws)) := fun H1 e Q q =>
  h H1 e _ fun H2 e2 => ⟨p, ws, rfl, ex_l (e.trans e2) hp, hn, fun m hm hle => ⟨m, 1, rfl, rfl, by
    have : decide (m < 1) = !posB ws := by
      cases b : posB ws with
      | true => exact decide_eq_false (by
          have := posB_iff.mp b m hm
          omega)
      | false =>
        refine decide_eq_true ?_
        refine Decidable.byContradiction fun z => ?_
        have : posB ws = true := posB_iff.mpr fun w hw => by
          have := hle w hw
          omega
        rw [b] at this
        cases this
    show Q (V.bl (decide (m < 1))) H2
    rw [this]
    exact q H2 e2⟩⟩
theorem s_retIf {b : Bool} (h : EvT t σ H b) (h1 : b = true → ∀ H1, Ex H H1 → tRet ta D σ H1) (h2 : b = false → ∀ H1, Ex H H1 → tRet tb D σ H1) : tRet (tIf t ta tb) D σ H := h H (Ex.refl H) _ fun H1 e => by
  cases b with
  | true =>
    show ta σ H1 _
    exact h1 rfl H1 e
  | false =>
    show tb σ H1 _
    exact h2 rfl H1 e
end
def sp_law_in (K : PySem.W.Frag) (C : Cs) : Sp := fun vs H Q _ => ∃ t : Str, vs = [.str t] ∧ t.length ≤ 30000 ∧ (∀ ws ss, readL (TL.tl t) = some (ws, ss) → RetT ws ss H Q) ∧ (readL (TL.tl t) = none → RetV .non H Q)
theorem ok_law_in {P : Program} {w : World} {K : PySem.W.Frag} {mg : Str → Option Value} {base : Heap} {C : Cs} (T : Txt K mg C) : Cl P w K mg base CX0 2 "_law_in" ["_law_text"] (sp_law_in K C) := by
  have c_law_number := ok_law_number (P := P) (w := w) (base := base) T
  have c_law_is_setting := ok_law_is_setting (P := P) (w := w) (base := base) T
  refine cl0 T.d_law_in sc_law_in (fun vs H Q E h => ?_) (fun f cdv A outer s H vs Q E hr h => ?_)
  · obtain ⟨t, rfl, hl, k1, k2⟩ := h
    rfl
  · obtain ⟨t, rfl, hl, k1, k2⟩ := h
    refine ⟨_, (pss_cons (ps_if (pt_cmpR op_eq (pv 0) pe_str (nomark _)) (pss_one (ps_ret (pe_tup (pa_cons (pe_lst pa_nil) (pa_cons (pe_lst pa_nil) pa_nil))))) pss_nil)
    (pss_cons (ps_if (pt_cmpR op_ne (pe_m1 PySem.F.slot_str_count PySem.F.type_str_count mt_count (pv 0) pe_str) pe_int (nomark _)) (pss_one (ps_ret pe_non)) pss_nil)
    (pss_cons (ps_asg (pe_split (pv 0) pe_str) (pg_unlK (K := K) rfl rfl (pgs_cons (pg_name (i := 1) sc_law_in.nd rfl (.inl rfl)) (pgs_cons (pg_name (i := 2) sc_law_in.nd rfl (.inl rfl)) pgs_nil))))
    (pss_cons (ps_set (i := 3) sc_law_in.nd rfl (.inl rfl) (pe_split (pv 2) pe_str))
    (pss_cons (ps_setLc (i := 4) (own := [("_law_word", 6)]) (g := gName 6) (tt := tYes) rfl sc_law_in.nd rfl rfl (sw_true rfl rfl rfl (by decide +kernel)) (pi_listK (K := K) rfl (pe_split (pv 1) pe_str)) (blkOk_by (N := ["_law_text", "_law_first", "_law_second", "_law_words", "_law_sizes", "_law_numbers", "_law_word"]) (sc := defScope S_law_in) (own := [("_law_word", 6)]) (by decide +kernel)) (fun _ _ _ _ _ => (pg_name (i := 6) sc_law_in.nd rfl (.inl rfl))) (fun _ _ _ _ _ => pts_nil) (fun _ _ _ _ _ => (pe_cl c_law_number (hr.mono (by decide)) (by rfl) pass0 (pa_cons (pv 6) pa_nil))))
    (pss_cons (ps_setLc (i := 5) (own := [("_law_word", 6)]) (g := gName 6) (tt := tYes) rfl sc_law_in.nd rfl rfl (sw_true rfl rfl rfl (by decide +kernel)) (pi_listK (K := K) rfl (pe_slice (sl_listK (K := K) rfl) (pv 3) (po_some pe_int) po_none)) (blkOk_by (N := ["_law_text", "_law_first", "_law_second", "_law_words", "_law_sizes", "_law_numbers", "_law_word"]) (sc := defScope S_law_in) (own := [("_law_word", 6)]) (by decide +kernel)) (fun _ _ _ _ _ => (pg_name (i := 6) sc_law_in.nd rfl (.inl rfl))) (fun _ _ _ _ _ => pts_nil) (fun _ _ _ _ _ => (pe_cl c_law_number (hr.mono (by decide)) (by rfl) pass0 (pa_cons (pv 6) pa_nil))))
    (pss_cons (ps_if (PW.pt (pw_or (pt_cmpR op_ne (pe_ix (ix_listK (K := K) rfl) (pv 3) pe_int (fun _ _ => rfl)) pe_str (nomark _)) (pw_or (pt_cmpR (op_inK (K := K) rfl) pe_non (pv 4) (by rfl)) (pw_or (pt_cmpR (op_inK (K := K) rfl) pe_non (pv 5) (by rfl)) (pw_or1 (pt_cmpR op_lt (pe_callB (cr_minK (K := K) rfl rfl) (by rfl) T.b_min (by decide +kernel) (pa_cons (pv 4) pa_nil)) pe_int (nomark _))))))) (pss_one (ps_ret pe_non)) pss_nil)
    (pss_one (ps_ret (pe_ifExp (pt_val (pe_cl c_law_is_setting (hr.mono (by decide)) (by rfl) pass0 (pa_cons (pv 4) (pa_cons (pv 5) pa_nil))) (by intro _; rfl)) (pe_tup (pa_cons (pv 4) (pa_cons (pv 5) pa_nil))) pe_non)))))))))), ?_⟩
    dsimp only [cxOf, L2H.cxH, Cx.nox, Cx.wish, L2.start, List.map_cons, List.map_nil, List.length_cons, List.length_nil, List.cons_append, List.nil_append]
    have hlen := TL.len_tl t
    refine q_when (b := decide (t = Str.ofString ":")) (et_test (ev_op (ev_var rfl) ev_c rv_eqS)) (fun q H2 e2 => ?_) fun q H2 e2 => ?_
    · have ht : t = Str.ofString ":" := of_decide_eq_true q
      have hr : readL (TL.tl t) = some ([], []) := by
        rw [ht, tl_colon]
        rfl
      exact s_retTLL (xs := []) (ys := []) (el_lst ea_nil (Nat.zero_le _)) (el_lst ea_nil (Nat.zero_le _)) (RetT.mono (k1 [] [] hr) e2)
    have hne : TL.tl t ≠ [58] := fun z => (of_decide_eq_false q) (TL.ext_tl (z.trans tl_colon.symm))
    refine q_when (b := !decide (((TL.tl t).count 58 : Int) = 1)) (et_test (ev_op (ev_to (ev_countS (ev_var rfl) ev_c) (by rw [count_colon])) ev_c rv_neI)) (fun q H3 e3 => ?_) fun q H3 e3 => ?_
    · have hc : (TL.tl t).count 58 ≠ 1 := fun z => by
        rw [z] at q
        cases q
      exact s_ret ev_c fun H4 e4 => k2 (readL_colons hne hc) H4 ((e2.trans e3).trans e4)
    have hc : (TL.tl t).count 58 = 1 := by
      have : decide (((TL.tl t).count 58 : Int) = 1) = true := by
        cases d : decide (((TL.tl t).count 58 : Int) = 1) with
        | true => rfl
        | false => rw [d] at q; cases q
      have := of_decide_eq_true this
      omega
    obtain ⟨a, r, hs, hsp, hrd⟩ := readL_one hne hc
    have hla : a.length + (r.length + 1) = t.length := by
      rw [hlen, hs, List.length_append]
      rfl
    have e13 := e2.trans e3
    have hT := split_colon t
    rw [hsp] at hT
    obtain ⟨x, y, hxy, rfl, rfl⟩ : ∃ x y, Txt.split t (Str.ofString ":") = [x, y] ∧ TL.tl x = a ∧ TL.tl y = r := by
      match h : Txt.split t (Str.ofString ":"), hT with
      | [x, y], hT =>
        simp only [List.map_cons, List.map_nil, List.cons.injEq, and_true] at hT
        exact ⟨x, y, rfl, hT.1, hT.2⟩
      | [], hT => cases hT
      | [_], hT => cases hT
      | _ :: _ :: _ :: _, hT => cases hT
    have lx := TL.len_tl x
    have ly := TL.len_tl y
    have hsx := el_split (σ := List.map some [V.str t] ++ List.replicate 6 none) (H := H3) (to := tVar 0) (te := tC (.str (Str.ofString ":"))) (a := t) (b := Str.ofString ":") (ev_var rfl) ev_c (by omega) (by decide +kernel)
    rw [hxy] at hsx
    refine q_unl2 (i := 1) (j := 2) (x := .str x) (y := .str y) hsx fun H4 e4 => ?_
    refine q_asgL (el_split (a := y) (b := Str.ofString " ") (ev_var rfl) ev_c (by omega) (by decide +kernel)) fun wl H5 hwl e5 h5 => ?_
    have hW := split_space y
    have hWl := piece_len hW (by omega)
    have hWc := words_len (x := y)
    have hcr : (TL.tl y).count 32 ≤ (TL.tl y).length := List.count_le_length
    generalize Txt.split y (Str.ofString " ") = Ws at h5 hW hWl hWc
    rw [← hW] at hrd
    have e15 := (e13.trans e4).trans e5
    match Ws, h5, hW, hWl, hWc, hrd with
    | [], _, hW, _, _, _ =>
      obtain ⟨p, ps, e⟩ := spl_ne 32 (TL.tl y) []
      rw [e] at hW
      cases hW
    | w0 :: Wr, h5, hW, hWl, hWc, hrd =>
      have hH := split_space x
      have hHl := piece_len hH (by omega)
      have hHc := words_len (x := x)
      have hch : (TL.tl x).count 32 ≤ (TL.tl x).length := List.count_le_length
      refine q_asgL (el_numbers (Ws := Txt.split x (Str.ofString " ")) (el_split (a := x) (b := Str.ofString " ") (ev_var rfl) ev_c (by omega) (by decide +kernel)) (fun _ => rfl) (fun _ => rfl) (by omega) hHl) fun sl H6 hsl e6 h6 => ?_
      have h5' := e6 _ _ h5
      rw [List.length_cons] at hWc
      have hWr : ∀ w ∈ Wr, w.length ≤ 100000 := fun w hw => hWl w (List.mem_cons_of_mem _ hw)
      have hcut : EvL (tSl (rSlL K) (tVar 3) (tPart (tC (.int 1))) tNoPart) [some (.str t), some (.str x), some (.str y), some (.ref wl), some (.ref sl), none, none] H6 (Wr.map V.str) := by
        have := el_sl (K := K) (σ := [some (.str t), some (.str x), some (.str y), some (.ref wl), some (.ref sl), none, none]) (te := tVar 3) (lo := some ((1 : Nat) : Int)) (hi := none) (ev_var rfl) (eo_some (te := tC (.int 1)) ev_c) eo_none (sq_of h5')
        rw [cut_from] at this
        exact this
      refine q_asgL (el_numbers (Ws := Wr) hcut (fun _ => rfl) (fun _ => rfl) (by omega) hWr) fun nl H7 hnl e7 h7 => ?_
      have h5'' := e7 _ _ h5'
      have h6' := e7 _ _ h6
      have e17 := (e15.trans e6).trans e7
      rw [hH] at h6'
      have first : ∀ H8, Ex H7 H8 → EvT (tTest (tOp rNe (tOp (rIxL K) (tVar 3) (tC (.int 0))) (tC (.str (Str.ofString ""))))) [some (.str t), some (.str x), some (.str y), some (.ref wl), some (.ref sl), some (.ref nl), none] H8 (!decide (w0 = Str.ofString "")) := fun H8 e8 =>
        et_test (ev_op (ev_op (ev_var rfl) ev_c (rv_ixL (v := .str w0) (sq_of (e8 _ _ h5'')) (show atI _ ((0 : Nat) : Int) = _ from atI_nat rfl))) ev_c rv_neS)
      have in1 : EvT (tTest (tOp (rIn K false) (tC .non) (tVar 4))) [some (.str t), some (.str x), some (.str y), some (.ref wl), some (.ref sl), some (.ref nl), none] H7 (inV .non ((TL.spl [32] 0 [] (TL.tl x)).map numV)) :=
        et_test (ev_op ev_c (ev_var rfl) (rv_isL (sq_of h6') rfl (nums_flat _)))
      have in2 : EvT (tTest (tOp (rIn K false) (tC .non) (tVar 5))) [some (.str t), some (.str x), some (.str y), some (.ref wl), some (.ref sl), some (.ref nl), none] H7 (inV .non ((Wr.map TL.tl).map numV)) :=
        et_test (ev_op ev_c (ev_var rfl) (rv_isL (sq_of h7) rfl (nums_flat _)))
      by_cases z0 : TL.tl w0 = []
      · have d0 : decide (w0 = Str.ofString "") = true := decide_eq_true ((empty_tl w0).mpr z0)
        have first' := first H7 (Ex.refl H7)
        rw [d0] at first'
        rw [List.map_cons, z0] at hrd
        cases n1 : numsW (TL.spl [32] 0 [] (TL.tl x)) with
        | none =>
          rw [in_none n1] at in1
          exact q_when (b := (!true) || (true || false)) (et_or first' fun _ => et_or in1 fun q => nomatch q) (fun _ H8 e8 => s_ret ev_c fun H9 e9 => k2 (hrd.trans (restL_n1 n1)) H9 ((e17.trans e8).trans e9)) fun q => nomatch q
        | some ws =>
          rw [nums_some n1, in_ints] at in1
          rw [nums_some n1] at h6'
          cases n2 : numsW (Wr.map TL.tl) with
          | none =>
            rw [in_none n2] at in2
            exact q_when (b := (!true) || (false || (true || false))) (et_or first' fun _ => et_or in1 fun _ => et_or in2 fun q => nomatch q) (fun _ H8 e8 => s_ret ev_c fun H9 e9 => k2 (hrd.trans (restL_n2 n1 n2)) H9 ((e17.trans e8).trans e9)) fun q => nomatch q
          | some ss =>
            rw [nums_some n2, in_ints] at in2
            rw [nums_some n2] at h7
            have wl1 := numsW_len n1
            rw [spl_len] at wl1
            have wl2 := numsW_len n2
            rw [List.length_map] at wl2
            have hres := hrd.trans (restL_eq n1 n2)
            refine q_when (b := (!true) || (false || (false || !posB ws))) (et_or first' fun _ => et_or in1 fun _ => et_or in2 fun _ => et_test (ev_minlt (ev_var rfl) (sq_of h6') (by omega))) (fun q H8 e8 => ?_) fun q H8 e8 => ?_
            · have hp : posB ws = false := by
                cases d : posB ws with
                | true => rw [d] at q; cases q
                | false => rfl
              rw [hp] at hres
              exact s_ret ev_c fun H9 e9 => k2 hres H9 ((e17.trans e8).trans e9)
            · have hp : posB ws = true := by
                cases d : posB ws with
                | true => rfl
                | false => rw [d] at q; cases q
              rw [hp] at hres
              have h6'' := e8 _ _ h6'
              have h7' := e8 _ _ h7
              have e18 := e17.trans e8
              refine s_retIf (b := inB ws ss) (et_tt (et_B (ev_call (ea_cons (ev_var rfl) (ea_cons (ev_var rfl) ea_nil)) (spv_law_is_setting (sq_of h6'') (sq_of h7') (by omega) (by omega)))) ok_in) (fun hb H9 e9 => ?_) fun hb H9 e9 => ?_
              · rw [hb] at hres
                exact s_retTVV (ev_var rfl) (ev_var rfl) fun p H10 hp10 e10 h10 => k1 ws ss hres p sl nl H10 (fresh_back (e18.trans e9) hp10) (fresh_back e15 hsl) (fresh_back (e15.trans e6) hnl) (fun z => by
                  rw [z, hnl] at h6
                  cases h6) ((e18.trans e9).trans e10) h10 (e10 _ _ (e9 _ _ h6'')) (e10 _ _ (e9 _ _ h7'))
              · rw [hb] at hres
                exact s_ret ev_c fun H10 e10 => k2 hres H10 ((e18.trans e9).trans e10)
      · have d0 : decide (w0 = Str.ofString "") = false := decide_eq_false fun z => z0 ((empty_tl w0).mp z)
        have first' := first H7 (Ex.refl H7)
        rw [d0] at first'
        exact q_when (b := (!false) || false) (et_or first' fun q => nomatch q) (fun _ H8 e8 => s_ret ev_c fun H9 e9 => k2 (hrd.trans (restL_first z0)) H9 ((e17.trans e8).trans e9)) fun q => nomatch q
theorem rc_isX {K : PySem.W.Frag} {H : Hp} {a D : Addr} {c : V} {cv : Value} {b : Bool} (h : ExcC K D) (hc : ClsV c cv) (e : PySem.W.kitOne K (.ref D) cv = some b) : RC (rIsX K a (.ref D) none) [.ref a, c] H (.bl b) :=
  fun H1 _ _ q => ⟨D, c, cv, b, rfl, rfl, h, rfl, hc, e, q H1 (Ex.refl H1)⟩
theorem EvA.runS {σ : L2.St} {H : Hp} {ta : TA} {vs : List V} {sp : Sp} {E : L2.St → XK} {Q : VK} (h : EvA ta σ H vs) (k : ∀ H1, Ex H H1 → sp vs H1 Q (E σ)) : tCallS sp E ta σ H Q := h H (Ex.refl H) _ k
def sp_law_refused (K : PySem.W.Frag) (_ : Cs) : Sp := fun vs H Q _ => ∃ v : V, vs = [v] ∧ ((∃ kd, Thg K H v kd ∧ kd.isStr = false) ∨ ∃ t : Str, v = .str t ∧ t.length ≤ 30000 ∧ readL (TL.tl t) = none) ∧ RetV (.bl true) H Q
theorem spv_refused {K : PySem.W.Frag} {C : Cs} {H : Hp} {v : V} (h : (∃ kd, Thg K H v kd ∧ kd.isStr = false) ∨ ∃ t : Str, v = .str t ∧ t.length ≤ 30000 ∧ readL (TL.tl t) = none) : SpV (sp_law_refused K C) [v] H (.bl true) :=
  fun H1 e Q q E => ⟨v, rfl, h.imp (fun ⟨kd, h1, h2⟩ => ⟨kd, h1.mono e, h2⟩) id, q⟩
theorem q_tryOne {σ : L2.St} {H : Hp} {D : Ends} {tz : TS} {sp1 : Sp} {F : Ends → L2.St → XK} {ta : TA} {vs : List V} (ha : EvA ta σ H vs)
    (k : ∀ H1, Ex H H1 → sp1 vs H1 (fun _ H2 => tz D σ H2) (F { D with nx := tz D } σ)) : tSeq (fun D σ H => tDrop (tCallS sp1 (F D) ta) D σ H) tz D σ H := ha H (Ex.refl H) _ fun H1 e1 => k H1 e1
theorem ok_law_refused {P : Program} {w : World} {K : PySem.W.Frag} {mg : Str → Option Value} {base : Heap} {C : Cs} (T : Txt K mg C) : Cl P w K mg base CX0 5 "_law_refused" ["_law_text"] (sp_law_refused K C) := by
  have c_read := ok_read (P := P) (w := w) (base := base) T
  refine cl0 T.d_law_refused sc_law_refused (fun vs H Q E h => ?_) (fun f cdv A outer s H vs Q E hr h => ?_)
  · obtain ⟨v, rfl, hv, k⟩ := h
    rfl
  · obtain ⟨v, rfl, hv, k⟩ := h
    refine ⟨_, (pss_cons (ps_try_asM rfl rfl sc_law_refused.nd (i := 1) rfl rfl ⟨by rfl, by decide, .inl T.g_WheelError⟩ (fun W pn xe tk po => (pss_one (ps_expr (pe_clS (E := WE W) c_read (hr.mono (by decide)) (by rfl) (fun σ => passAtM tk σ) (pa_cons (pv 0) pa_nil))))) (fun a oe cls d pn hz hf hot => (pss_cons (ps_set (i := 2) sc_law_refused.nd rfl (.inl rfl) (pe_lst (pa_cons (pe_callB (call_isX (K := K) rfl hz hf) (by rfl) T.b_isinstance (by decide +kernel) (pa_cons (pv 1) (pa_cons (pe_gv T.g_BadNumber (by rfl)) pa_nil))) (pa_cons (pe_callB (call_isX (K := K) rfl hz hf) (by rfl) T.b_isinstance (by decide +kernel) (pa_cons (pv 1) (pa_cons (pe_gv T.g_BadSetting (by rfl)) pa_nil))) (pa_cons (pe_callB (call_isX (K := K) rfl hz hf) (by rfl) T.b_isinstance (by decide +kernel) (pa_cons (pv 1) (pa_cons (pe_gv T.g_BadWheels (by rfl)) pa_nil))) pa_nil)))))
    (pss_cons (ps_expr (pe_lapp (K := K) rfl (pv 2) (pa_cons (pe_callB (call_isX (K := K) rfl hz hf) (by rfl) T.b_isinstance (by decide +kernel) (pa_cons (pv 1) (pa_cons (pe_gv T.g_NoRing (by rfl)) pa_nil))) pa_nil)))
    (pss_one (ps_ret (pe_and (pe_callB (call_isX (K := K) rfl hz hf) (by rfl) T.b_isinstance (by decide +kernel) (pa_cons (pv 1) (pa_cons (pe_gv T.g_BadText (by rfl)) pa_nil))) (pe_and (pe_callB (call_isX (K := K) rfl hz hf) (by rfl) T.b_isinstance (by decide +kernel) (pa_cons (pv 1) (pa_cons (pe_bltn (by rfl) T.b_ValueError (by decide +kernel) (v := .ty "ValueError") rfl) pa_nil))) (pe_one (pe_not (pe_callB (cr_anyM (K := K) rfl hot) (by rfl) T.b_any (by decide +kernel) (pa_cons (pv 2) pa_nil))))))))))))
    (pss_one (ps_ret pe_bl))), ?_⟩
    dsimp only [cxOf, L2H.cxH, Cx.nox, Cx.wish, L2.start, List.map_cons, List.map_nil, List.length_cons, List.length_nil, List.cons_append, List.nil_append]
    have key : ∀ H1, Ex H H1 → ∀ (D : Ends) (ts : Addr → Value → Option Addr → TS), (∀ H2 a, Ex H1 H2 → ts a (.ref C.BadText) none { nx := fun σ' H' => D.nx (σ'.set 1 none) H', rt := D.rt, bk := fun σ' H' => D.bk (σ'.set 1 none) H', ct := fun σ' H' => D.ct (σ'.set 1 none) H' } [some v, some (.ref a), none] H2) →
        ∀ Q : VK, sp_read K C [v] H1 Q (WE (wAsM K (.ref C.WheelError) 1 ts D) [some v, none, none]) := fun H1 e1 D ts hts Q => by
      have rx : RetX C.BadText H1 (WE (wAsM K (.ref C.WheelError) 1 ts D) [some v, none, none]) := fun H2 e2 => ⟨true, T.exm_BadText_WheelError, fun _ a _ => hts H2 a e2, fun z => nomatch z⟩
      rcases hv with ⟨kd, h1, h2⟩ | ⟨t, rfl, h1, h2⟩
      · exact ⟨v, rfl, .inl ⟨kd, h1.mono e1, h2, rx⟩⟩
      · exact ⟨_, rfl, .inr ⟨t, rfl, h1, fun ws ss z => (by rw [h2] at z; cases z), fun _ => rx⟩⟩
    refine q_tryOne (vs := [v]) (ea_cons (ev_var rfl) ea_nil) fun H1 e1 => ?_
    refine key H1 e1 _ _ (fun H2 a e2 => ?_) _
    have is1 : ∀ {σ : L2.St} {H : Hp} {c : V} {cv : Value} {b : Bool} {tc : TE}, σ[1]? = some (some (.ref a)) → Ev tc σ H c → ClsV c cv → PySem.W.kitOne K (.ref C.BadText) cv = some b → Ev (tCB (rIsX K a (.ref C.BadText) none) (tCons (tVar 1) (tCons tc tNil))) σ H (.bl b) := fun hσ htc hc e =>
      ev_cb (ea_cons (ev_var hσ) (ea_cons htc ea_nil)) (rc_isX T.exc_BadText hc e)
    refine q_asgL (xs := [false, false, false].map V.bl) (el_lst (ea_cons (is1 rfl ev_c (.own _) T.isx_BadText_BadNumber) (ea_cons (is1 rfl ev_c (.own _) T.isx_BadText_BadSetting) (ea_cons (is1 rfl ev_c (.own _) T.isx_BadText_BadWheels) ea_nil))) (by show 3 ≤ 100000; decide)) fun l H3 hl e3 h3 => ?_
    refine q_app (l := l) h3 (ev_var rfl) (is1 rfl ev_c (.own _) T.isx_BadText_NoRing) (by show 3 < 100000; decide) fun H4 e4 => ?_
    have h5 : upd H4 l (.lst ([false, false, false].map V.bl ++ [.bl false])) l = some (.lst ([false, false, false, false].map V.bl)) := upd_same
    have e5 : Ex H2 (upd H4 l (.lst ([false, false, false].map V.bl ++ [.bl false]))) := Ex.mut (e3.trans e4) hl
    generalize upd H4 l (.lst ([false, false, false].map V.bl ++ [.bl false])) = H5 at h5 e5
    exact s_ret (v := .bl (true && (true && !false))) (ev_andV (is1 rfl ev_c (.own _) T.isx_BadText_BadText) fun _ => ev_andV (is1 rfl ev_c (.ty _) T.isx_BadText_ValueError) fun _ => ev_notV (ev_cb (ea_cons (ev_var rfl) ea_nil) (rc_any (sq_of h5)))) fun H6 e6 => k H6 (((e1.trans e2).trans e5).trans e6)
theorem join_nil : ∀ ls : List (List Nat), TL.joinL [] ls = ls.flatten
  | [] => rfl
  | [p] => by simp [TL.joinL]
  | p :: q :: r => by
    show p ++ ([] ++ TL.joinL [] (q :: r)) = _
    rw [List.nil_append, join_nil (q :: r)]
    rfl
theorem tl_numT {n : Int} (h : 0 ≤ n) : TL.tl (numT n) = TL.numL n.toNat := by
  have : n = ((n.toNat : Nat) : Int) := by omega
  unfold numT
  rw [this, TL.tl_num, Int.toNat_natCast]
theorem tl_wrT {ws ss : List Int} (hw : ∀ w ∈ ws, 0 ≤ w) (hs : ∀ s ∈ ss, 0 ≤ s) : TL.tl (wrT ws ss) = wrL ws ss := by
  unfold wrT wrL
  rw [TL.tl_append, TL.tl_append, TL.join_eq, TL.join_eq, TL.tl_join, TL.tl_join, tl_space, tl_colon, show TL.tl (Str.ofString "") = [] by decide +kernel, join_nil, List.map_map, List.map_map]
  have e1 : ws.map (TL.tl ∘ numT) = ws.map fun n => TL.numL n.toNat := List.map_congr_left fun w h => tl_numT (hw w h)
  have e2 : ss.map (TL.tl ∘ fun n => Str.ofString " " ++ numT n) = ss.map fun n => 32 :: TL.numL n.toNat := List.map_congr_left fun s h => by
    show TL.tl (Str.ofString " " ++ numT s) = _
    rw [TL.tl_append, tl_space, tl_numT (hs s h)]
    rfl
  rw [e1, e2, List.append_assoc]
  rfl
/-- what is read is written as it stood -/
theorem wr_back {t : Str} {ws ss : List Int} (h : readL (TL.tl t) = some (ws, ss)) : wrT ws ss = t := by
  obtain ⟨h1, h2, h3, _⟩ := readL_ok h
  refine TL.ext_tl ?_
  rw [tl_wrT (fun w hw => by have := h1 w hw; omega) (fun s hs => (in_bd h2 h3 s hs).1)]
  exact (readL_back h).symm
/-! ### tuples of two lists -/
abbrev dT (ws ss : List Int) : PyData := .tuple [dI ws, dI ss]
theorem eqv_dT (ws ss : List Int) : PyData.eqv (dT ws ss) (dT ws ss) = true := by
  show PyData.eqv (.tuple _) (.tuple _) = true
  rw [PyData.eqv, PyData.eqvAll, PyData.eqvAll, PyData.eqvAll, eqv_dI, eqv_dI, decide_eq_true rfl, decide_eq_true rfl]
  rfl
theorem shaped_dT (ws ss : List Int) : SeqAt.shaped (dT ws ss) = true := by
  unfold SeqAt.shaped
  have h1 : PyData.canLay0 (dT ws ss) = true := by
    show PyData.canLay0 (.tuple _) = true
    rw [PyData.canLay0, PyData.canLayAll0, PyData.canLayAll0, PyData.canLayAll0, can_dI, can_dI]
    rfl
  have h2 : PyData.depth (dT ws ss) = 2 := by
    show PyData.depth (.tuple _) = 2
    rw [PyData.depth, PyData.depthAll, PyData.depthAll, PyData.depthAll, depth_dI, depth_dI]
    rfl
  rw [h1, h2]
  rfl
section
variable {K : PySem.W.Frag} {C : Cs} {σ : L2.St} {H : Hp} {D : Ends} {ta : TA} {tb te : TE} {tz : TS} {vs xs : List V} {ws ss : List Int} {sp : Sp} {E : XK} {p a b p' a' b' : Addr} {x y z : V}
theorem dp_two (h : H p = some (.tup [.ref a, .ref b])) (ha : H a = some (.lst (ws.map V.int))) (hb : H b = some (.lst (ss.map V.int))) : Dp K H (.ref p) (dT ws ss) := .tup (st_of h) (.cons (dp_ints (sq_of ha)) (.cons (dp_ints (sq_of hb)) .nil))
theorem rv_neDT (h : H p = some (.tup [.ref a, .ref b])) (ha : H a = some (.lst (ws.map V.int))) (hb : H b = some (.lst (ss.map V.int))) (h' : H p' = some (.tup [.ref a', .ref b'])) (ha' : H a' = some (.lst (ws.map V.int))) (hb' : H b' = some (.lst (ss.map V.int))) : RV (rNeD K) (.ref p) (.ref p') H (.bl (!true)) := fun H1 e _ k =>
  ⟨dT ws ss, dT ws ss, dp_two (e _ _ h) (e _ _ ha) (e _ _ hb), dp_two (e _ _ h') (e _ _ ha') (e _ _ hb'), shaped_dT ws ss, shaped_dT ws ss, by rw [eqv_dT]; exact k H1 (Ex.refl H1)⟩
theorem rv_eqDT (h : H p = some (.tup [.ref a, .ref b])) (ha : H a = some (.lst (ws.map V.int))) (hb : H b = some (.lst (ss.map V.int))) (h' : H p' = some (.tup [.ref a', .ref b'])) (ha' : H a' = some (.lst (ws.map V.int))) (hb' : H b' = some (.lst (ss.map V.int))) : RV (rEqD K) (.ref p) (.ref p') H (.bl true) := fun H1 e _ k =>
  ⟨dT ws ss, dT ws ss, dp_two (e _ _ h) (e _ _ ha) (e _ _ hb), dp_two (e _ _ h') (e _ _ ha') (e _ _ hb'), shaped_dT ws ss, shaped_dT ws ss, by rw [eqv_dT]; exact k H1 (Ex.refl H1)⟩
theorem rv_isNon : RV (fun x y H Q => y = .non ∧ Q (.bl (decide (x = .non))) H) x .non H (.bl (decide (x = V.non))) := fun H1 _ _ q => ⟨rfl, q H1 (Ex.refl H1)⟩
theorem q_callT {i : Nat} (h : EvA ta σ H vs) (hs : ∀ H1, Ex H H1 → ∀ (Q : VK) (E : XK), RetT ws ss H1 Q → sp vs H1 Q E)
    (k : ∀ p a b H1, H p = none → H a = none → H b = none → a ≠ b → Ex H H1 → H1 p = some (.tup [.ref a, .ref b]) → H1 a = some (.lst (ws.map V.int)) → H1 b = some (.lst (ss.map V.int)) → tz D (σ.set i (some (.ref p))) H1) :
    tSeq (tAsg (tCall sp [] E ta) (gName i)) tz D σ H := h H (Ex.refl H) _ fun H1 e1 => by
  have := hs H1 e1 (fun x H2 => gName i x σ H2 (fun σ' H' => tz D σ' H')) E fun p a b H2 hp ha hb n e2 h1 h2 h3 => k p a b H2 (fresh_back e1 hp) (fresh_back e1 ha) (fresh_back e1 hb) n (e1.trans e2) h1 h2 h3
  rw [← List.append_nil vs] at this
  exact this
theorem ev_opCT {r : R2} (ha : EvA ta σ H vs) (hs : ∀ H1, Ex H H1 → ∀ (Q : VK) (E : XK), RetT ws ss H1 Q → sp vs H1 Q E) (hb : Ev tb σ H y)
    (hr : ∀ p a b H1, H1 p = some (.tup [.ref a, .ref b]) → H1 a = some (.lst (ws.map V.int)) → H1 b = some (.lst (ss.map V.int)) → Ex H H1 → RV r (.ref p) y H1 z) : Ev (tOp r (tCall sp [] E ta) tb) σ H z := fun H1 e Q k =>
  ha H1 e _ fun H2 e2 => by
    have := hs H2 (e.trans e2) (fun x H3 => tb σ H3 fun y H4 => r x y H4 Q) E fun p a b H3 hp hpa hpb n e3 h1 h2 h3 => hb H3 ((e.trans e2).trans e3) _ fun H4 e4 =>
      hr p a b H4 (e4 _ _ h1) (e4 _ _ h2) (e4 _ _ h3) (((e.trans e2).trans e3).trans e4) H4 (Ex.refl H4) Q fun H5 e5 => k H5 (((e2.trans e3).trans e4).trans e5)
    rw [← List.append_nil vs] at this
    exact this
theorem q_clear (hl : H p = some (.lst xs)) (ha : Ev te σ H (.ref p)) (k : ∀ H1, Ex H H1 → tz D σ (upd H1 p (.lst []))) : tSeq (tDrop (tBM0 K "list" rClear te)) tz D σ H := ha H (Ex.refl H) _ fun H1 e1 =>
  ⟨Or.inl ⟨rfl, xs, sq_of (e1 _ _ hl)⟩, p, xs, rfl, rfl, e1 _ _ hl, k H1 e1⟩
theorem in_some {t : Str} (hl : t.length ≤ 30000) (hr : readL (TL.tl t) = some (ws, ss)) : ∀ H1, ∀ (Q : VK) (E : XK), RetT ws ss H1 Q → sp_law_in K C [.str t] H1 Q E := fun H1 Q E k =>
  ⟨t, rfl, hl, fun ws' ss' z => (by rw [hr] at z; cases z; exact k), fun z => (by rw [hr] at z; cases z)⟩
theorem read_some {t : Str} (hl : t.length ≤ 30000) (hr : readL (TL.tl t) = some (ws, ss)) : ∀ H1, ∀ (Q : VK) (E : XK), RetT ws ss H1 Q → sp_read K C [.str t] H1 Q E := fun H1 Q E k =>
  ⟨_, rfl, .inr ⟨t, rfl, hl, fun ws' ss' z => (by rw [hr] at z; cases z; exact k), fun z => (by rw [hr] at z; cases z)⟩⟩
end
def sp_law_right (K : PySem.W.Frag) (_ : Cs) : Sp := fun vs H Q _ => ∃ t : Str, vs = [.str t] ∧ t.length ≤ 30000 ∧ (TL.tl t).count 32 ≤ 900 ∧ RetV (.bl true) H Q
theorem spv_right {K : PySem.W.Frag} {C : Cs} {H : Hp} {t : Str} (h1 : t.length ≤ 30000) (h2 : (TL.tl t).count 32 ≤ 900) : SpV (sp_law_right K C) [.str t] H (.bl true) := fun H1 e Q q E => ⟨t, rfl, h1, h2, q⟩
theorem ok_law_right {P : Program} {w : World} {K : PySem.W.Frag} {mg : Str → Option Value} {base : Heap} {C : Cs} (T : Txt K mg C) : Cl P w K mg base CX0 6 "_law_right" ["_law_text"] (sp_law_right K C) := by
  have c_law_in := ok_law_in (P := P) (w := w) (base := base) T
  have c_law_refused := ok_law_refused (P := P) (w := w) (base := base) T
  have c_read := ok_read (P := P) (w := w) (base := base) T
  have c_written := ok_written (P := P) (w := w) (base := base) T
  refine cl0 T.d_law_right sc_law_right (fun vs H Q E h => ?_) (fun f cdv A outer s H vs Q E hr h => ?_)
  · obtain ⟨t, rfl, hl, hc, k⟩ := h
    rfl
  · obtain ⟨t, rfl, hl, hc, k⟩ := h
    refine ⟨_, (pss_cons (ps_set (i := 1) sc_law_right.nd rfl (.inl rfl) (pe_cl c_law_in (hr.mono (by decide)) (by rfl) pass0 (pa_cons (pv 0) pa_nil)))
    (pss_cons (ps_if (pt_cmpR op_isN (pv 1) pe_non (nomark _)) (pss_one (ps_ret (pe_cl c_law_refused (hr.mono (by decide)) (by rfl) pass0 (pa_cons (pv 0) pa_nil)))) pss_nil)
    (pss_cons (ps_set (i := 2) sc_law_right.nd rfl (.inl rfl) (pe_cl c_read (hr.mono (by decide)) (by rfl) passM0 (pa_cons (pv 0) pa_nil)))
    (pss_cons (ps_if (PW.pt (pw_or (pt_not (pt_val (pe_callB (call_isiK' (K := K) rfl) (by rfl) T.b_isinstance (by decide +kernel) (pa_cons (pv 2) (pa_cons (pe_bltn (by rfl) T.b_tuple (by decide +kernel) (v := .ty "tuple") rfl) pa_nil))) (by intro _; rfl))) (pw_or (pt_cmpR (op_neDK (K := K) rfl hr.units) (pv 2) (pv 1) (nomark _)) (pw_or1 (pt_cmpR op_ne (pe_cl c_written (hr.mono (by decide)) (by rfl) passLN (pa_cons (pe_ix (ix_tupK (K := K) rfl) (pv 2) pe_int (fun _ _ => rfl)) (pa_cons (pe_ix (ix_tupK (K := K) rfl) (pv 2) pe_int (fun _ _ => rfl)) pa_nil))) (pv 0) (nomark _)))))) (pss_one (ps_ret pe_bl)) pss_nil)
    (pss_cons (ps_expr (pe_bm PySem.F.plainAttrs_list PySem.F.slot_list_append PySem.F.type_list_append mt_append (pe_ix (ix_tupK (K := K) rfl) (pv 2) pe_int (fun _ _ => rfl)) (pa_cons pe_int pa_nil)))
    (pss_cons (ps_expr (pe_bm0 PySem.F.plainAttrs_list PySem.F.slot_list_clear PySem.F.type_list_clear mt_clear (pe_ix (ix_tupK (K := K) rfl) (pv 2) pe_int (fun _ _ => rfl))))
    (pss_one (ps_ret (pe_cmpR (op_eqDK (K := K) rfl hr.units) (pe_cl c_read (hr.mono (by decide)) (by rfl) passM0 (pa_cons (pv 0) pa_nil)) (pv 1) (nomark _)))))))))), ?_⟩
    dsimp only [cxOf, L2H.cxH, Cx.nox, Cx.wish, L2.start, List.map_cons, List.map_nil, List.length_cons, List.length_nil, List.cons_append, List.nil_append]
    cases hr : readL (TL.tl t) with
    | none =>
      refine q_asg (v := .non) (ev_call (ea_cons (ev_var rfl) ea_nil) fun H1 e Q q E => ⟨t, rfl, hl, fun ws ss z => (by rw [hr] at z; cases z), fun _ => q⟩) fun H1 e1 => ?_
      exact q_when (b := decide (V.non = V.non)) (et_test (ev_op (ev_var rfl) ev_c rv_isNon)) (fun _ H2 e2 => s_ret (ev_call (ea_cons (ev_var rfl) ea_nil) (spv_refused (.inr ⟨t, rfl, hl, hr⟩))) fun H3 e3 => k H3 ((e1.trans e2).trans e3)) fun q => (by rw [decide_eq_true rfl] at q; cases q)
    | some r =>
      obtain ⟨ws, ss⟩ := r
      obtain ⟨hpos, hin, hbd, hwl⟩ := readL_ok hr
      have hwr := wr_back hr
      refine q_callT (ea_cons (ev_var rfl) ea_nil) (fun H1 _ => in_some hl hr H1) fun p1 a1 b1 H1 hp1 ha1 hb1 n1 e1 hT1 hA1 hB1 => ?_
      refine q_when (b := decide (V.ref p1 = V.non)) (et_test (ev_op (ev_var rfl) ev_c rv_isNon)) (fun q => (by cases of_decide_eq_true q)) fun _ H2 e2 => ?_
      refine q_callT (ea_cons (ev_var rfl) ea_nil) (fun H1 _ => read_some hl hr H1) fun p2 a2 b2 H3 hp2 ha2 hb2 n2 e3 hT2 hA2 hB2 => ?_
      have e23 := e2.trans e3
      refine q_when (b := (!true) || ((!true) || !decide (wrT ws ss = t))) (et_or (et_not (et_B (ev_cb (ea_cons (ev_var rfl) (ea_cons ev_c ea_nil)) (rc_isi (Thg.tup hT2) fun _ => kd_tup)))) fun _ => et_or (et_test (ev_op (ev_var rfl) (ev_var rfl) (rv_neDT hT2 hA2 hB2 (e23 _ _ hT1) (e23 _ _ hA1) (e23 _ _ hB1)))) fun _ =>
        et_test (ev_op (ev_call (ea_cons (ev_op (ev_var rfl) ev_c (rv_ixT (v := .ref a2) (st_of hT2) (show atI _ ((0 : Nat) : Int) = _ from atI_nat rfl))) (ea_cons (ev_op (ev_var rfl) ev_c (rv_ixT (v := .ref b2) (st_of hT2) (show atI _ ((1 : Nat) : Int) = _ from atI_nat rfl))) ea_nil)) (spv_written (sq_of hA2) hpos (by omega) (fits_iff.mpr hbd) (sq_of hB2) hin)) (ev_var rfl) rv_neS)) (fun q => (by rw [decide_eq_true hwr] at q; cases q)) fun _ H4 e4 => ?_
      have hA4 := e4 _ _ hA2
      have hB4 := e4 _ _ hB2
      have hT4 := e4 _ _ hT2
      refine q_app (l := a2) hA4 (ev_op (ev_var rfl) ev_c (rv_ixT (v := .ref a2) (st_of hT4) (show atI _ ((0 : Nat) : Int) = _ from atI_nat rfl))) ev_c (by rw [List.length_map]; omega) fun H5 e5 => ?_
      have m2 : Ex H2 (upd H5 a2 (.lst (ws.map V.int ++ [.int 1]))) := Ex.mut ((e3.trans e4).trans e5) ha2
      have hB5 : upd H5 a2 (.lst (ws.map V.int ++ [.int 1])) b2 = some (.lst (ss.map V.int)) := by
        rw [upd_ne (Ne.symm n2)]
        exact e5 _ _ hB4
      have hT5 : upd H5 a2 (.lst (ws.map V.int ++ [.int 1])) p2 = some (.tup [.ref a2, .ref b2]) := by
        rw [upd_ne (fun z => by rw [z, hA2] at hT2; cases hT2)]
        exact e5 _ _ hT4
      generalize upd H5 a2 (.lst (ws.map V.int ++ [.int 1])) = H6 at m2 hB5 hT5
      refine q_clear (p := b2) hB5 (ev_op (ev_var rfl) ev_c (rv_ixT (v := .ref b2) (st_of hT5) (show atI _ ((1 : Nat) : Int) = _ from atI_nat rfl))) fun H7 e7 => ?_
      have m3 : Ex H2 (upd H7 b2 (.lst [])) := Ex.mut (m2.trans e7) hb2
      generalize upd H7 b2 (.lst []) = H8 at m3
      have m1 := e2.trans m3
      refine s_ret (ev_opCT (ea_cons (ev_var rfl) ea_nil) (fun H1 _ => read_some hl hr H1) (ev_var rfl) fun p a b H9 h1 h2 h3 e9 => rv_eqDT h1 h2 h3 (e9 _ _ (m1 _ _ hT1)) (e9 _ _ (m1 _ _ hA1)) (e9 _ _ (m1 _ _ hB1))) fun H9 e9 => k H9 ((e1.trans m1).trans e9)
/-! ### some forty texts -/
def OkT (x : Str) : Prop := x.length ≤ 30000 ∧ (TL.tl x).count 32 ≤ 900
abbrev lit (s : String) : Str := Str.ofString s
def few1 : List Str := [lit "", lit ":", lit " :", lit ": ", lit "::", lit "1: 0", lit "2: 1", lit "2: 2", lit "0: 0", lit "2 3: 1 2", lit "2 3: 1", lit "2: 1 0", lit "2 3:1 2", lit "2:"]
def few2 : List Str := [lit "2: ", lit ": 0", lit "2 3 : 1 2", lit " 2: 1", lit "2: 1 ", lit "2  3: 1 2", lit "2 3: 1  2", lit "02: 1", lit "2: 01", lit "2: 00"]
def few3 : List Str := [lit "-2: 1", lit "2: -1", lit "2: -0", lit "2,3: 1,2", lit "2: 1: 0", lit "x: 0", lit "2: x", lit "2: 1\n", lit "2\t3: 1 2", lit "2 3: 1\t2"]
def few4 : List Str := [lit "1_0: 5", lit "10: +5", lit "1" ++ Txt.mul (lit "0") 59 ++ lit ": 7", lit "1" ++ Txt.mul (lit "0") 60 ++ lit ": 7", Txt.mul (lit "9") 4000 ++ lit ": 1"]
def few5 : List Str := [lit "2 3", lit "2 1", lit "5: " ++ Txt.mul (lit "4") 4000, lit "2:x 1", lit "2:0 1", lit "2 3:: 1 2"]
def fewL : List Str := few1 ++ few2 ++ few3 ++ few4 ++ few5
theorem okT_lits {l : List Str} (h : l.all (fun x => decide (x.length ≤ 30000) && decide ((TL.tl x).count 32 ≤ 900)) = true) : ∀ x ∈ l, OkT x := fun x hx => by
  have := List.all_eq_true.mp h x hx
  rw [Bool.and_eq_true, decide_eq_true_iff, decide_eq_true_iff] at this
  exact this
theorem mul_tl (s : Str) (c : Nat) (n : Nat) (h : s = ⟨#[c]⟩) : TL.tl (Txt.mul s (n : Int)) = List.replicate n c := by
  rw [h]
  have := PyProof.Rows.mul_one_list c (n : Int)
  rw [Int.toNat_natCast] at this
  exact this
theorem mul_len (s : Str) (c : Nat) (n : Nat) (h : s = ⟨#[c]⟩) : (Txt.mul s (n : Int)).length = n := by
  rw [TL.len_tl, mul_tl s c n h, List.length_replicate]
theorem okT_app {x y : Str} {a b c d : Nat} (h1 : x.length ≤ a) (h2 : (TL.tl x).count 32 ≤ b) (h3 : y.length ≤ c) (h4 : (TL.tl y).count 32 ≤ d) : (x ++ y).length ≤ a + c ∧ (TL.tl (x ++ y)).count 32 ≤ b + d := by
  rw [Str.length_append, TL.tl_append, List.count_append]
  omega
theorem mul_no (s : Str) (c : Nat) (n : Nat) (h : s = ⟨#[c]⟩) (hc : c ≠ 32) : (TL.tl (Txt.mul s (n : Int))).count 32 ≤ 0 := by
  rw [mul_tl s c n h, List.count_replicate, if_neg (by simpa using hc)]
  exact Nat.le_refl _
theorem few_ok : ∀ x ∈ fewL, OkT x := fun x hx => by
  have z0 : lit "0" = ⟨#[48]⟩ := by decide +kernel
  have z4 : lit "4" = ⟨#[52]⟩ := by decide +kernel
  have z9 : lit "9" = ⟨#[57]⟩ := by decide +kernel
  have big : ∀ (p q : Str) (s : Str) (c n : Nat), s = ⟨#[c]⟩ → c ≠ 32 → n ≤ 4000 → p.length ≤ 10 → q.length ≤ 10 → OkT (p ++ Txt.mul s (n : Int) ++ q) := fun p q s c n hs hc hn hp hq => by
    have c1 : (TL.tl p).count 32 ≤ 10 := Nat.le_trans List.count_le_length (by rw [← TL.len_tl]; exact hp)
    have c2 : (TL.tl q).count 32 ≤ 10 := Nat.le_trans List.count_le_length (by rw [← TL.len_tl]; exact hq)
    have m1 : (Txt.mul s (n : Int)).length ≤ 4000 := by rw [mul_len s c n hs]; exact hn
    have r1 := okT_app hp c1 m1 (mul_no s c n hs hc)
    have r2 := okT_app r1.1 r1.2 hq c2
    exact ⟨Nat.le_trans r2.1 (by decide), Nat.le_trans r2.2 (by decide)⟩
  have e0 : ∀ p : Str, p ++ Str.ofString "" = p := fun p => TL.ext_tl (by
    rw [TL.tl_append, show TL.tl (Str.ofString "") = [] by decide +kernel, List.append_nil])
  have e1 : ∀ p : Str, Str.ofString "" ++ p = p := fun p => TL.ext_tl (by
    rw [TL.tl_append, show TL.tl (Str.ofString "") = [] by decide +kernel, List.nil_append])
  rcases List.mem_append.mp hx with hx | hx
  · rcases List.mem_append.mp hx with hx | hx
    · rcases List.mem_append.mp hx with hx | hx
      · rcases List.mem_append.mp hx with hx | hx
        · exact okT_lits (l := few1) (by decide +kernel) x hx
        · exact okT_lits (l := few2) (by decide +kernel) x hx
      · exact okT_lits (l := few3) (by decide +kernel) x hx
    · rcases List.mem_cons.mp hx with rfl | hx
      · exact okT_lits (l := [lit "1_0: 5"]) (by decide +kernel) _ List.mem_cons_self
      rcases List.mem_cons.mp hx with rfl | hx
      · exact okT_lits (l := [lit "10: +5"]) (by decide +kernel) _ List.mem_cons_self
      rcases List.mem_cons.mp hx with rfl | hx
      · exact big (lit "1") (lit ": 7") (lit "0") 48 59 z0 (by decide) (by decide) (by decide +kernel) (by decide +kernel)
      rcases List.mem_cons.mp hx with rfl | hx
      · exact big (lit "1") (lit ": 7") (lit "0") 48 60 z0 (by decide) (by decide) (by decide +kernel) (by decide +kernel)
      rcases List.mem_cons.mp hx with rfl | hx
      · have := big (lit "") (lit ": 1") (lit "9") 57 4000 z9 (by decide) (by decide) (by decide +kernel) (by decide +kernel)
        rw [e1] at this
        exact this
      · cases hx
  · rcases List.mem_cons.mp hx with rfl | hx
    · exact okT_lits (l := [lit "2 3"]) (by decide +kernel) _ List.mem_cons_self
    rcases List.mem_cons.mp hx with rfl | hx
    · exact okT_lits (l := [lit "2 1"]) (by decide +kernel) _ List.mem_cons_self
    rcases List.mem_cons.mp hx with rfl | hx
    · have := big (lit "5: ") (lit "") (lit "4") 52 4000 z4 (by decide) (by decide) (by decide +kernel) (by decide +kernel)
      rw [e0] at this
      exact this
    exact okT_lits (l := [lit "2:x 1", lit "2:0 1", lit "2 3:: 1 2"]) (by decide +kernel) x hx
theorem rv_mulT {H : Hp} {a : Str} {n : Int} (h : MulOk a n) : RV (fun x y H Q => ∃ (a : Str) (n : Int), x = .str a ∧ y = .int n ∧ MulOk a n ∧ Q (.str (Txt.mul a n)) H) (.str a) (.int n) H (.str (Txt.mul a n)) :=
  fun H1 _ _ q => ⟨a, n, rfl, rfl, h, q H1 (Ex.refl H1)⟩
theorem ev_cat3 {σ : L2.St} {H : Hp} {ta tb : TE} {i j : Str} (ha : Ev ta σ H (.str i)) (hb : Ev tb σ H (.str j)) (h : i.length + j.length ≤ 16777216) : Ev (tOp (fun x y H Q => ∃ i j, x = .str i ∧ y = .str j ∧ i.length + j.length ≤ sizeLine ∧ Q (.str (i ++ j)) H) ta tb) σ H (.str (i ++ j)) := ev_op ha hb (rv_cat h)
def sp_law_few (K : PySem.W.Frag) (_ : Cs) : Sp := fun vs H Q _ => vs = [] ∧ RetL (fewL.map V.str) H Q
theorem spl_few {K : PySem.W.Frag} {C : Cs} {H : Hp} : SpL (sp_law_few K C) [] H (fewL.map V.str) := fun H1 e Q q E => ⟨rfl, fun p H2 hp e2 h2 => q p H2 hp e2 h2⟩
theorem ok_law_few {P : Program} {w : World} {K : PySem.W.Frag} {mg : Str → Option Value} {base : Heap} {C : Cs} (T : Txt K mg C) : Cl P w K mg base CX0 1 "_law_few" [] (sp_law_few K C) := by
  refine cl0 T.d_law_few sc_law_few (fun vs H Q E h => ?_) (fun f cdv A outer s H vs Q E hr h => ?_)
  · obtain ⟨rfl, k⟩ := h
    rfl
  · obtain ⟨rfl, k⟩ := h
    refine ⟨_, (pss_cons (ps_set (i := 0) sc_law_few.nd rfl (.inl rfl) (pe_lst (pa_cons pe_str (pa_cons pe_str (pa_cons pe_str (pa_cons pe_str (pa_cons pe_str (pa_cons pe_str (pa_cons pe_str (pa_cons pe_str (pa_cons pe_str (pa_cons pe_str (pa_cons pe_str (pa_cons pe_str (pa_cons pe_str (pa_cons pe_str pa_nil))))))))))))))))
    (pss_cons (ps_set (i := 0) sc_law_few.nd rfl (.inl rfl) (pe_op (op_catK (K := K) rfl) (pv 0) (pe_lst (pa_cons pe_str (pa_cons pe_str (pa_cons pe_str (pa_cons pe_str (pa_cons pe_str (pa_cons pe_str (pa_cons pe_str (pa_cons pe_str (pa_cons pe_str (pa_cons pe_str pa_nil)))))))))))))
    (pss_cons (ps_set (i := 0) sc_law_few.nd rfl (.inl rfl) (pe_op (op_catK (K := K) rfl) (pv 0) (pe_lst (pa_cons pe_str (pa_cons pe_str (pa_cons pe_str (pa_cons pe_str (pa_cons pe_str (pa_cons pe_str (pa_cons pe_str (pa_cons pe_str (pa_cons pe_str (pa_cons pe_str pa_nil)))))))))))))
    (pss_cons (ps_set (i := 0) sc_law_few.nd rfl (.inl rfl) (pe_op (op_catK (K := K) rfl) (pv 0) (pe_lst (pa_cons pe_str (pa_cons pe_str (pa_cons (pe_op op_add_str (pe_op op_add_str pe_str (pe_op op_repS pe_str pe_int)) pe_str) (pa_cons (pe_op op_add_str (pe_op op_add_str pe_str (pe_op op_repS pe_str pe_int)) pe_str) (pa_cons (pe_op op_add_str (pe_op op_repS pe_str pe_int) pe_str) pa_nil))))))))
    (pss_one (ps_ret (pe_op (op_catK (K := K) rfl) (pv 0) (pe_lst (pa_cons pe_str (pa_cons pe_str (pa_cons (pe_op op_add_str pe_str (pe_op op_repS pe_str pe_int)) (pa_cons pe_str (pa_cons pe_str (pa_cons pe_str pa_nil)))))))))))))), ?_⟩
    dsimp only [cxOf, L2H.cxH, Cx.nox, Cx.wish, L2.start, List.map_cons, List.map_nil, List.length_cons, List.length_nil, List.cons_append, List.nil_append]
    have z0 : lit "0" = ⟨#[48]⟩ := by decide +kernel
    have z4 : lit "4" = ⟨#[52]⟩ := by decide +kernel
    have z9 : lit "9" = ⟨#[57]⟩ := by decide +kernel
    have l59 : (Txt.mul (lit "0") 59).length = 59 := mul_len _ 48 59 z0
    have l60 : (Txt.mul (lit "0") 60).length = 60 := mul_len _ 48 60 z0
    have l9 : (Txt.mul (lit "9") 4000).length = 4000 := mul_len _ 57 4000 z9
    have l4 : (Txt.mul (lit "4") 4000).length = 4000 := mul_len _ 52 4000 z4
    have n1 : (lit "1").length = 1 := by decide +kernel
    have n3 : (lit ": 7").length = 3 := by decide +kernel
    have n4 : (lit ": 1").length = 3 := by decide +kernel
    have n5 : (lit "5: ").length = 3 := by decide +kernel
    have m0 : ∀ n : Int, (n = 59 ∨ n = 60) → MulOk (lit "0") n := fun n h => by
      rcases h with rfl | rfl
      · exact (by unfold MulOk; exact ⟨by decide, fun _ _ => by decide +kernel, fun _ _ => by decide +kernel⟩)
      · exact (by unfold MulOk; exact ⟨by decide, fun _ _ => by decide +kernel, fun _ _ => by decide +kernel⟩)
    have m9 : MulOk (lit "9") 4000 := (by unfold MulOk; exact ⟨by decide, fun _ _ => by decide +kernel, fun _ _ => by decide +kernel⟩)
    have m4 : MulOk (lit "4") 4000 := (by unfold MulOk; exact ⟨by decide, fun _ _ => by decide +kernel, fun _ _ => by decide +kernel⟩)
    refine q_asgL (xs := few1.map V.str) (el_lst (by
      show EvA _ _ _ [_, _, _, _, _, _, _, _, _, _, _, _, _, _]
      repeat (first | exact ea_nil | refine ea_cons ev_c ?_)) (by show 14 ≤ 100000; decide)) fun a H1 ha e1 h1 => ?_
    refine q_asgL (xs := (few1 ++ few2).map V.str) (by
      rw [List.map_append]
      exact el_catSL (ev_var rfl) (sq_of h1) (el_lst (by
        show EvA _ _ _ [_, _, _, _, _, _, _, _, _, _]
        repeat (first | exact ea_nil | refine ea_cons ev_c ?_)) (by show 10 ≤ 100000; decide)) (by show 14 + 10 ≤ 100000; decide)) fun b H2 hb e2 h2 => ?_
    refine q_asgL (xs := (few1 ++ few2 ++ few3).map V.str) (by
      rw [List.map_append]
      exact el_catSL (ev_var rfl) (sq_of h2) (el_lst (by
        show EvA _ _ _ [_, _, _, _, _, _, _, _, _, _]
        repeat (first | exact ea_nil | refine ea_cons ev_c ?_)) (by show 10 ≤ 100000; decide)) (by show 24 + 10 ≤ 100000; decide)) fun c H3 hc e3 h3 => ?_
    refine q_asgL (xs := (few1 ++ few2 ++ few3 ++ few4).map V.str) (by
      rw [List.map_append]
      exact el_catSL (ev_var rfl) (sq_of h3) (el_lst (vs := few4.map V.str) (ea_cons ev_c (ea_cons ev_c (ea_cons (ev_cat3 (ev_cat3 ev_c (ev_op ev_c ev_c (rv_mulT (m0 59 (.inl rfl)))) (by rw [l59, n1]; decide)) ev_c (by rw [Str.length_append, l59, n1, n3]; decide))
        (ea_cons (ev_cat3 (ev_cat3 ev_c (ev_op ev_c ev_c (rv_mulT (m0 60 (.inr rfl)))) (by rw [l60, n1]; decide)) ev_c (by rw [Str.length_append, l60, n1, n3]; decide)) (ea_cons (ev_cat3 (ev_op ev_c ev_c (rv_mulT m9)) ev_c (by rw [l9, n4]; decide)) ea_nil))))) (by show 5 ≤ 100000; decide)) (by show 34 + 5 ≤ 100000; decide)) fun d H4 hd e4 h4 => ?_
    refine s_retL (xs := fewL.map V.str) (by
      show EvL _ _ _ ((few1 ++ few2 ++ few3 ++ few4 ++ few5).map V.str)
      rw [List.map_append]
      exact el_catSL (ev_var rfl) (sq_of h4) (el_lst (vs := few5.map V.str) (ea_cons ev_c (ea_cons ev_c (ea_cons (ev_cat3 ev_c (ev_op ev_c ev_c (rv_mulT m4)) (by rw [l4, n5]; decide)) (ea_cons ev_c (ea_cons ev_c (ea_cons ev_c ea_nil)))))) (by show 6 ≤ 100000; decide)) (by show 39 + 6 ≤ 100000; decide)) fun p H5 hp e5 h5 => k p H5 (fresh_back (((e1.trans e2).trans e3).trans e4) hp) ((((e1.trans e2).trans e3).trans e4).trans e5) h5
theorem num_no32 (n : Nat) : (TL.numL n).count 32 = 0 := List.count_eq_zero_of_not_mem (TL.numL_free (by decide))
theorem join_count : ∀ ls : List (List Nat), (∀ l ∈ ls, l.count 32 = 0) → (TL.joinL [32] ls).count 32 ≤ ls.length
  | [], _ => Nat.le_refl _
  | [p], h => by
    show p.count 32 ≤ 1
    rw [h p List.mem_cons_self]
    decide
  | p :: q :: r, h => by
    have ih := join_count (q :: r) fun l hl => h l (List.mem_cons_of_mem _ hl)
    show (p ++ ([32] ++ TL.joinL [32] (q :: r))).count 32 ≤ _
    rw [List.count_append, List.count_append, h p List.mem_cons_self, List.length_cons]
    have : ([32] : List Nat).count 32 = 1 := rfl
    omega
theorem flat_count : ∀ ss : List Int, ((ss.map fun n => 32 :: TL.numL n.toNat).flatten).count 32 ≤ ss.length
  | [] => Nat.le_refl _
  | s :: r => by
    have ih := flat_count r
    rw [List.map_cons, List.flatten_cons, List.count_append, List.count_cons_self, num_no32, List.length_cons]
    omega
theorem wrL_count (ws ss : List Int) : (wrL ws ss).count 32 ≤ ws.length + ss.length := by
  unfold wrL
  rw [List.count_append, List.count_cons_of_ne (by decide)]
  have h1 := join_count (ws.map fun n => TL.numL n.toNat) fun l hl => by
    obtain ⟨n, _, rfl⟩ := List.mem_map.mp hl
    exact num_no32 _
  rw [List.length_map] at h1
  have h2 := flat_count ss
  omega
theorem cut_sub (z : Str) (lo hi : Option Int) : (TL.tl (cutS z lo hi)).count 32 ≤ (TL.tl z).count 32 := by
  unfold cutS
  rw [TL.tl_mk]
  exact List.Sublist.count_le 32 ((List.take_sublist _ _).trans (List.drop_sublist _ _))
section
variable {K : PySem.W.Frag} {C : Cs} {σ : L2.St} {H : Hp} {D : Ends} {ta : TA} {tb te : TE} {tz : TS}
theorem ev_slS {tl' th : TO} {z : Str} {lo hi : Option Int} (h : Ev te σ H (.str z)) (h1 : EvO tl' σ H lo) (h2 : EvO th σ H hi) (hz : z.length ≤ 100000) : Ev (tSl rSlS te tl' th) σ H (.str (cutS z lo hi)) := fun H1 e Q q =>
  h H1 e _ fun H2 e2 => h1 H2 (e.trans e2) _ fun H3 e3 => h2 H3 ((e.trans e2).trans e3) _ fun H4 e4 => ⟨z, rfl, sz_of hz, q H4 ((e2.trans e3).trans e4)⟩
theorem el_lcP {P : Hp → V → Prop} {n j : Nat} {vs : List Nat} {y : V} (h : EvAP P ta σ H n) (g : Grows P) (hz : n ≤ 1000) (hw : ∀ x, wipe ((wipe σ vs).set j (some x)) vs = wipe σ vs) (he : ∀ (x : V) H1, Ex H H1 → P H1 x → Ev te ((wipe σ vs).set j (some x)) H1 y) :
    EvL (tLc (iList K (tLst ta)) (gName j) tYes te vs) σ H (List.replicate n y) := fun H0 e Q q => h H0 e _ fun xs H1 e1 hn hx => ⟨by rw [hn]; exact Nat.le_trans hz (by decide), fun a ha => ⟨a, rfl, ⟨xs, sq_of upd_same⟩, fun Dl hD => by
  have ea : Ex H1 (upd H1 a (.lst xs)) := Ex.new ha
  refine lc_list (xs := xs) (fun i H' => Ex (upd H1 a (.lst xs)) H' ∧ H' Dl = some (.lst (List.replicate i y))) ⟨Ex.new hD, upd_same⟩ (fun i H' _ p => sq_of (p.1 a _ upd_same)) (fun i x H' hi p => ⟨hw x, ?_⟩) (fun H' p => q Dl H' (fresh_back (e1.trans ea) hD) ((e1.trans ea).trans p.1) (by rw [p.2, hn]))
  have hi' := (List.getElem?_eq_some_iff.mp hi).1
  unfold tYes
  dsimp only
  rw [if_pos rfl]
  refine he x H' ((e.trans (e1.trans ea)).trans p.1) (g _ _ _ (ea.trans p.1) (hx x (List.mem_of_getElem? hi))) H' (Ex.refl H') _ fun H4 e4 => ⟨List.replicate i y, e4 _ _ p.2, sz_lt (by rw [List.length_replicate]; omega), Ex.mut (p.1.trans e4) hD, ?_⟩
  rw [upd_same, List.replicate_succ']⟩⟩
theorem q_asgAR5 {nss : List (List Int)} {i : Nat} (h : EvAR K ta σ H nss) (hz : nss.length ≤ 1000) (k : ∀ p xs H1, H p = none → Ex H H1 → H1 p = some (.lst xs) → Rows K H1 xs nss → tz D (σ.set i (some (.ref p))) H1) :
    tSeq (tAsg (tLst ta) (gName i)) tz D σ H := h H (Ex.refl H) _ fun vs H1 e r => ⟨by rw [r.len]; exact Nat.le_trans hz (by decide), fun p hp => k p vs _ (fresh_back e hp) (e.trans (Ex.new hp)) upd_same (r.mono (Ex.new hp))⟩
/-- what is no text -/
def NoT (K : PySem.W.Frag) (H : Hp) (v : V) : Prop := ∃ kd, Thg K H v kd ∧ kd.isStr = false
theorem noT_grows : Grows (NoT K) := fun _ _ _ e ⟨kd, h1, h2⟩ => ⟨kd, h1.mono e, h2⟩
end
theorem all_rep (n : Nat) : (List.replicate n true).all id = true := by
  rw [List.all_replicate]
  cases n <;> rfl
theorem signs15 : (TL.tl (Str.ofString "0123456789: -x\n")).length = 15 := by decide +kernel
def sp_law (K : PySem.W.Frag) (_ : Cs) : Sp := fun vs H Q _ => ∃ (a : Addr) (ns : List Int), vs = [.ref a] ∧ SqL K H a (ns.map V.int) ∧ ns.length ≤ 63 ∧ ∀ H', Q (.bl true) H'
theorem ok_law {P : Program} {w : World} {K : PySem.W.Frag} {mg : Str → Option Value} {base : Heap} {C : Cs} {fa : Addr} {fd : FuncData} (F : Fun K "law" "law" S_law fa fd) (T : Txt K mg C) : FnOk P w K mg base CX0 7 fa fd ["_law_script"] (sp_law K C) := by
  have c_law_wheels := ok_law_wheels (P := P) (w := w) (base := base) T
  have c_law_setting := ok_law_setting (P := P) (w := w) (base := base) T
  have c_law_right := ok_law_right (P := P) (w := w) (base := base) T
  have c_written := ok_written (P := P) (w := w) (base := base) T
  have c_law_cell_at := ok_law_cell_at (P := P) (w := w) (base := base) T
  have c_law_draw := ok_law_draw (P := P) (w := w) (base := base) T
  have c_law_few := ok_law_few (P := P) (w := w) (base := base) T
  have c_law_refused := ok_law_refused (P := P) (w := w) (base := base) T
  refine F.ok sc_law (fun vs H Q E h => ?_) (fun cdv A outer s H vs Q E hr h => ?_)
  · obtain ⟨a, ns, rfl, hS, hl, k⟩ := h
    rfl
  · obtain ⟨a, ns, rfl, hS, hl, k⟩ := h
    refine ⟨_, (pss_cons (ps_set (i := 1) sc_law.nd rfl (.inl rfl) (pe_cl c_law_wheels (hr.mono (by decide)) (by rfl) pass0 (pa_cons (pv 0) pa_nil)))
    (pss_cons (ps_set (i := 2) sc_law.nd rfl (.inl rfl) (pe_cl c_law_setting (hr.mono (by decide)) (by rfl) pass0 (pa_cons (pv 0) (pa_cons (pv 1) (pa_cons pe_int pa_nil)))))
    (pss_cons (ps_set (i := 3) sc_law.nd rfl (.inl rfl) (pe_op op_add_str (pe_op op_add_str (pe_join pe_str (pe_lc (own := [("_law_size", 12)]) (g := gName 12) (tt := tYes) rfl sc_law.nd (pi_listK (K := K) rfl (pv 1)) (blkOk_by (N := ["_law_script", "_law_wheels_here", "_law_setting_here", "_law_text", "_law_handed", "_law_cell", "_law_k", "_law_at", "_law_sign", "_law_thing", "_law_number_here", "_law_other", "_law_size"]) (sc := defScope S_law) (own := [("_law_size", 12)]) (by decide +kernel)) (fun _ _ _ _ _ => (pg_name (i := 12) sc_law.nd rfl (.inl rfl))) (fun _ _ _ _ _ => pts_nil) (fun _ _ _ _ _ => (pe_callTy call_str_int (by rfl) T.b_str (by decide +kernel) (pa_cons (pv 12) pa_nil))))) pe_str) (pe_join pe_str (pe_lc (own := [("_law_number_here", 10)]) (g := gName 10) (tt := tYes) rfl sc_law.nd (pi_listK (K := K) rfl (pv 2)) (blkOk_by (N := ["_law_script", "_law_wheels_here", "_law_setting_here", "_law_text", "_law_handed", "_law_cell", "_law_k", "_law_at", "_law_sign", "_law_thing", "_law_number_here", "_law_other", "_law_size"]) (sc := defScope S_law) (own := [("_law_number_here", 10)]) (by decide +kernel)) (fun _ _ _ _ _ => (pg_name (i := 10) sc_law.nd rfl (.inl rfl))) (fun _ _ _ _ _ => pts_nil) (fun _ _ _ _ _ => (pe_op op_add_str pe_str (pe_callTy call_str_int (by rfl) T.b_str (by decide +kernel) (pa_cons (pv 10) pa_nil))))))))
    (pss_cons (ps_set (i := 4) sc_law.nd rfl (.inl rfl) (pe_lst (pa_cons (pe_callTy (call_listK (K := K) rfl) (by rfl) T.b_list (by decide +kernel) (pa_cons (pv 1) pa_nil)) (pa_cons (pe_callTy (call_listK (K := K) rfl) (by rfl) T.b_list (by decide +kernel) (pa_cons (pv 2) pa_nil)) pa_nil))))
    (pss_cons (ps_if (PW.pt (pw_or (pt_cmpR op_ne (pe_cl c_written (hr.mono (by decide)) (by rfl) passLN (pa_cons (pe_ix (ix_listK (K := K) rfl) (pv 4) pe_int (fun _ _ => rfl)) (pa_cons (pe_ix (ix_listK (K := K) rfl) (pv 4) pe_int (fun _ _ => rfl)) pa_nil))) (pv 3) (nomark _)) (pw_or (pt_cmpR (op_neDK (K := K) rfl hr.units) (pv 4) (pe_lst (pa_cons (pv 1) (pa_cons (pv 2) pa_nil))) (nomark _)) (pw_or1 (pt_not (pt_val (pe_cl c_law_right (hr.mono (by decide)) (by rfl) pass0 (pa_cons (pv 3) pa_nil)) (by intro _; rfl))))))) (pss_one (ps_ret pe_bl)) pss_nil)
    (pss_cons (ps_set (i := 5) sc_law.nd rfl (.inl rfl) (pe_op op_add (pe_cl c_law_cell_at (hr.mono (by decide)) (by rfl) pass0 (pa_cons (pv 0) (pa_cons pe_int pa_nil))) (pe_op op_mulA pe_int (pe_cl c_law_cell_at (hr.mono (by decide)) (by rfl) pass0 (pa_cons (pv 0) (pa_cons pe_int pa_nil))))))
    (pss_cons (ps_for PassesOwn.never rfl (pi_range1 (by rfl) T.b_range (pa_cons pe_int pa_nil)) (pg_name (i := 6) sc_law.nd rfl (.inl rfl))
    (pss_cons (ps_set (i := 7) sc_law.nd rfl (.inl rfl) (pe_cl c_law_draw (hr.mono (by decide)) (by rfl) pass0 (pa_cons (pe_op op_add (pv 5) (pv 6)) (pa_cons pe_int (pa_cons (pe_op op_add (pe_callB call_len_str (by rfl) T.b_len PySem.boot_len (pa_cons (pv 3) pa_nil)) pe_int) pa_nil)))))
    (pss_cons (ps_set (i := 8) sc_law.nd rfl (.inl rfl) (pe_ix (ix_tupK (K := K) rfl) (pe_tup (pa_cons pe_str (pa_cons (pe_ix ix_str pe_str (pe_cl c_law_draw (hr.mono (by decide)) (by rfl) pass0 (pa_cons (pe_op op_add (pv 5) (pv 6)) (pa_cons pe_int (pa_cons pe_int pa_nil)))) (fun _ _ => rfl)) pa_nil))) (pe_cl c_law_draw (hr.mono (by decide)) (by rfl) pass0 (pa_cons (pe_op op_add (pv 5) (pv 6)) (pa_cons pe_int (pa_cons pe_int pa_nil)))) (fun _ _ => rfl)))
    (pss_one (ps_if (pt_not (pt_val (pe_cl c_law_right (hr.mono (by decide)) (by rfl) pass0 (pa_cons (pe_op op_add_str (pe_op op_add_str (pe_slice sl_str (pv 3) po_none (po_some (pv 7))) (pv 8)) (pe_slice sl_str (pv 3) (po_some (pe_op op_add (pv 7) (pe_cl c_law_draw (hr.mono (by decide)) (by rfl) pass0 (pa_cons (pe_op op_add (pv 5) (pv 6)) (pa_cons pe_int (pa_cons pe_int pa_nil)))))) po_none)) pa_nil)) (by intro _; rfl))) (pss_one (ps_ret pe_bl)) pss_nil)))))
    (pss_cons (ps_if (pt_not (pt_val (pe_callB (cr_allK (K := K) rfl rfl) (by rfl) T.b_all (by decide +kernel) (pa_cons (pe_lc (own := [("_law_other", 11)]) (g := gName 11) (tt := tYes) rfl sc_law.nd (pi_listK (K := K) rfl (pe_cl0 c_law_few (hr.mono (by decide)) (by rfl) pass0)) (blkOk_by (N := ["_law_script", "_law_wheels_here", "_law_setting_here", "_law_text", "_law_handed", "_law_cell", "_law_k", "_law_at", "_law_sign", "_law_thing", "_law_number_here", "_law_other", "_law_size"]) (sc := defScope S_law) (own := [("_law_other", 11)]) (by decide +kernel)) (fun _ _ _ _ _ => (pg_name (i := 11) sc_law.nd rfl (.inl rfl))) (fun _ _ _ _ _ => pts_nil) (fun _ _ _ _ _ => (pe_cl c_law_right (hr.mono (by decide)) (by rfl) pass0 (pa_cons (pv 11) pa_nil)))) pa_nil)) (by intro _; rfl))) (pss_one (ps_ret pe_bl)) pss_nil)
    (pss_one (ps_ret (pe_callB (cr_allK (K := K) rfl rfl) (by rfl) T.b_all (by decide +kernel) (pa_cons (pe_lc (own := [("_law_thing", 9)]) (g := gName 9) (tt := tYes) rfl sc_law.nd (pi_listK (K := K) rfl (pe_lst (pa_cons pe_non (pa_cons pe_int (pa_cons (pe_lst (pa_cons pe_str pa_nil)) (pa_cons pe_bl pa_nil)))))) (blkOk_by (N := ["_law_script", "_law_wheels_here", "_law_setting_here", "_law_text", "_law_handed", "_law_cell", "_law_k", "_law_at", "_law_sign", "_law_thing", "_law_number_here", "_law_other", "_law_size"]) (sc := defScope S_law) (own := [("_law_thing", 9)]) (by decide +kernel)) (fun _ _ _ _ _ => (pg_name (i := 9) sc_law.nd rfl (.inl rfl))) (fun _ _ _ _ _ => pts_nil) (fun _ _ _ _ _ => (pe_cl c_law_refused (hr.mono (by decide)) (by rfl) pass0 (pa_cons (pv 9) pa_nil)))) pa_nil)))))))))))), ?_⟩
    dsimp only [cxOf, L2H.cxH, Cx.nox, Cx.wish, L2.start, List.map_cons, List.map_nil, List.length_cons, List.length_nil, List.cons_append, List.nil_append]
    have hp := wheels_pos ns
    have hm := wheels_sm ns
    have hwl : (wheelsI ns).length ≤ ns.length := by rw [wheels_len]; omega
    have hW := spl_wheels (C := C) hS
    have hbig : ∀ w ∈ wheelsI ns, w < 10 ^ 60 := fun w hw => Int.lt_of_le_of_lt (wheels_bd hw).2 (by decide)
    generalize wheelsI ns = ws at hp hm hwl hW hbig
    have hfit : fits ws = true := fits_iff.mpr hbig
    refine q_asgL (xs := ws.map V.int) (el_call (ea_cons (ev_var rfl) ea_nil) hW) fun b H1 hb e1 h1 => ?_
    have hS1 := ex_l e1 hS
    have hi := setting_in (ns := ns) (b := 2) hp
    have hsl := setting_len ns ws 2
    have hSt := spl_setting (C := C) (b := 2) hS1 (sq_of h1) hwl (by omega) hp
    generalize settingI ns ws 2 = ss at hi hsl hSt
    refine q_asgL (xs := ss.map V.int) (el_call (ea_cons (ev_var rfl) (ea_cons (ev_var rfl) (ea_cons ev_c ea_nil))) hSt) fun c H2 hc e2 h2 => ?_
    have w2 := e2 _ _ h1
    have hS2 := ex_l e2 hS1
    have hsb := in_bd hi hbig
    -- the text
    have n1 : ∀ y ∈ ws.map numT, y.length ≤ 60 := fun y hy => by
      obtain ⟨w, hw, rfl⟩ := List.mem_map.mp hy
      exact numT_len (by have := hp w hw; omega) (hbig w hw)
    have sp1 : (Str.ofString " ").length = 1 := by decide +kernel
    have sp0 : (Str.ofString "").length = 0 := by decide +kernel
    have spc : (Str.ofString ":").length = 1 := by decide +kernel
    have n2 : ∀ y ∈ ss.map (fun n => Str.ofString " " ++ numT n), y.length ≤ 61 := fun y hy => by
      obtain ⟨w, hw, rfl⟩ := List.mem_map.mp hy
      have := numT_len (hsb w hw).1 (hsb w hw).2
      rw [Str.length_append, sp1]
      omega
    have m1 := sum_le n1
    have m2 := sum_le n2
    have j1 := join_le (Str.ofString " ") n1
    have j2 := join_le (Str.ofString "") n2
    rw [List.length_map] at m1 m2 j1 j2
    rw [sp1] at j1
    rw [sp0] at j2
    refine q_asg (v := .str (wrT ws ss)) (ev_op (ev_op (ev_join ev_c (el_list (by rw [List.length_map, List.length_map, List.length_map]) (ev_var rfl) (sq_of w2) (by rw [List.length_map]; omega) (fun _ => rfl) fun i x y H6 e6 hx hy => ?_) (by rw [List.length_map, sp1]; omega)) ev_c (rv_cat (by rw [spc]; omega)))
      (ev_join ev_c (el_list (by rw [List.length_map, List.length_map, List.length_map]) (ev_var rfl) (sq_of h2) (by rw [List.length_map]; omega) (fun _ => rfl) fun i x y H7 e7 hx hy => ?_) (by rw [List.length_map, sp0]; omega)) (rv_cat (by rw [Str.length_append, spc]; omega))) fun H3 e3 => ?_
    · obtain ⟨w, rfl, hw, hmm⟩ := map_get hx
      rw [List.map_map, List.getElem?_map, hw] at hy
      cases hy
      exact ev_strI (ev_var rfl) (log_ok (by have := hp w hmm; omega) (hbig w hmm))
    · obtain ⟨w, rfl, hw, hmm⟩ := map_get hx
      rw [List.map_map, List.getElem?_map, hw] at hy
      cases hy
      have := numT_len (hsb w hmm).1 (hsb w hmm).2
      exact ev_op ev_c (ev_strI (ev_var rfl) (log_ok (hsb w hmm).1 (hsb w hmm).2)) (rv_cat (by rw [sp1]; omega))
    have htl : (wrT ws ss).length ≤ 8000 := by
      unfold wrT
      rw [Str.length_append, Str.length_append, spc]
      omega
    have htc : (TL.tl (wrT ws ss)).count 32 ≤ 126 := by
      rw [tl_wrT (fun w hw => by have := hp w hw; omega) (fun s hs => (hsb s hs).1)]
      have := wrL_count ws ss
      omega
    have w3 := e3 _ _ w2
    have s3 := e3 _ _ h2
    have hS3 := ex_l e3 hS2
    refine q_asgAR5 (K := K) (nss := [ws, ss]) (ear_consL (el_copy (ev_var rfl) (sq_of w3)) (ear_consL (el_copy (ev_var rfl) (sq_of s3)) ear_nil)) (by show 2 ≤ 1000; decide) fun hd hxs H4 hhd e4 h4 hr4 => ?_
    have w4 := e4 _ _ w3
    have s4 := e4 _ _ s3
    have hS4 := ex_l e4 hS3
    obtain ⟨x0, x1, rfl, r0, r1⟩ : ∃ x0 x1 : Addr, hxs = [.ref x0, .ref x1] ∧ SqL K H4 x0 (ws.map V.int) ∧ SqL K H4 x1 (ss.map V.int) := by
      cases hr4 with
      | cons q t =>
        cases t with
        | cons q2 t =>
          cases t
          obtain ⟨y0, rfl, g0⟩ := q
          obtain ⟨y1, rfl, g1⟩ := q2
          exact ⟨y0, y1, rfl, g0, g1⟩
    refine q_when (b := (!decide (wrT ws ss = wrT ws ss)) || ((!decide ([ws, ss] = [ws, ss])) || !true)) (et_or (et_test (ev_op (ev_call (ea_cons (ev_op (ev_var rfl) ev_c (rv_ixL (v := .ref x0) (sq_of h4) (show atI _ ((0 : Nat) : Int) = _ from atI_nat rfl))) (ea_cons (ev_op (ev_var rfl) ev_c (rv_ixL (v := .ref x1) (sq_of h4) (show atI _ ((1 : Nat) : Int) = _ from atI_nat rfl))) ea_nil)) (spv_written r0 hp (by omega) hfit r1 hi)) (ev_var rfl) rv_neS)) fun _ =>
      et_or (et_test (ev_opSL (ev_var rfl) (el_lst (ea_cons (ev_var rfl) (ea_cons (ev_var rfl) ea_nil)) (by show 2 ≤ 100000; decide)) fun q H5 hq e5 => rv_neDL (sq_of (e5 _ _ h4)) (hr4.mono e5) (sq_of hq) (.cons ⟨b, rfl, sq_of (e5 _ _ w4)⟩ (.cons ⟨c, rfl, sq_of (e5 _ _ s4)⟩ .nil)))) fun _ =>
      et_not (et_B (ev_call (ea_cons (ev_var rfl) ea_nil) (spv_right (by omega) (by omega))))) (fun q => by simp at q) fun _ H5 e5 => ?_
    generalize wrT ws ss = t at htl htc
    have hS5 := ex_l e5 hS4
    refine q_asg (v := .int (ns.getD 3 0 + 7 * ns.getD 0 0)) (ev_op (ev_call (ea_cons (ev_var rfl) (ea_cons ev_c ea_nil)) (spv_cell hS5 (by decide))) (ev_op ev_c (ev_call (ea_cons (ev_var rfl) (ea_cons ev_c ea_nil)) (spv_cell hS5 (by decide))) (rv_I (CMul.ok (.inl ⟨by decide, by decide⟩)))) rv_I0) fun H6 e6 => ?_
    generalize ns.getD 3 0 + 7 * ns.getD 0 0 = cell
    refine q_forR1 (n := 2) (ea_cons ev_c ea_nil) (by decide) (fun i σ' H' => ∃ v6 v7 v8, σ' = [some (.ref a), some (.ref b), some (.ref c), some (.str t), some (.ref hd), some (.int cell), v6, v7, v8, none, none, none, none]) (fun H7 e7 => ⟨none, none, none, rfl⟩) ?_ ?_
    · rintro i σ' H7 hi7 ⟨v6, v7, v8, rfl⟩
      have dp : ∀ {m x y : Int}, 0 < m → 0 ≤ drawI x y m ∧ drawI x y m < m := fun h => ⟨draw_nn h, draw_lt h⟩
      refine q_asg (v := .int (drawI (cell + i) 1 ((t.length : Int) + 1))) (ev_call (ea_cons (ev_op (ev_var rfl) (ev_var rfl) rv_I0) (ea_cons ev_c (ea_cons (ev_op (ev_lenStr (ev_var rfl) (by omega)) ev_c rv_I0) ea_nil))) (spv_draw (by omega))) fun H8 e8 => ?_
      generalize drawI (cell + i) 1 ((t.length : Int) + 1) = at_
      obtain ⟨j, hj, ej⟩ : ∃ j : Nat, j < 15 ∧ drawI (cell + i) 2 15 = (j : Int) := ⟨(drawI (cell + i) 2 15).toNat, by have := dp (m := 15) (x := cell + i) (y := 2) (by decide); omega, by have := dp (m := 15) (x := cell + i) (y := 2) (by decide); omega⟩
      obtain ⟨g, hg⟩ : ∃ g, (TL.tl (Str.ofString "0123456789: -x\n"))[j]? = some g := ⟨_, List.getElem?_eq_getElem (by rw [signs15]; exact hj)⟩
      obtain ⟨l, hll, el⟩ : ∃ l : Nat, l < 2 ∧ drawI (cell + i) 3 2 = (l : Int) := ⟨(drawI (cell + i) 3 2).toNat, by have := dp (m := 2) (x := cell + i) (y := 3) (by decide); omega, by have := dp (m := 2) (x := cell + i) (y := 3) (by decide); omega⟩
      obtain ⟨sg, hsg, hsl1⟩ : ∃ sg : Str, ([V.str (Str.ofString ""), V.str ⟨#[g]⟩] : List V)[l]? = some (.str sg) ∧ sg.length ≤ 1 := by
        match l, hll with
        | 0, _ => exact ⟨_, rfl, by rw [sp0]; decide⟩
        | 1, _ => exact ⟨_, rfl, Nat.le_refl 1⟩
      refine q_asg (v := .str sg) (ev_ixU (i := (l : Int)) (eu_tup (vs := [.str (Str.ofString ""), .str ⟨#[g]⟩]) (ea_cons ev_c (ea_cons (ev_op ev_c (ev_to (ev_call (ea_cons (ev_op (ev_var rfl) (ev_var rfl) rv_I0) (ea_cons ev_c (ea_cons ev_c ea_nil))) (spv_draw (by decide))) (by rw [ej])) (rv_ixS (by decide +kernel) (atI_nat hg))) ea_nil)) (by show 2 ≤ 100000; decide)) (fun H9 _ => ev_to (ev_call (ea_cons (ev_op (ev_var rfl) (ev_var rfl) rv_I0) (ea_cons ev_c (ea_cons ev_c ea_nil))) (spv_draw (by decide))) (by rw [el])) (atI_nat hsg)) fun H9 e9 => ?_
      have la := cutS_length t none (some at_)
      have lb := cutS_length t (some (at_ + drawI (cell + i) 4 2)) none
      have ca := cut_sub t none (some at_)
      have cb := cut_sub t (some (at_ + drawI (cell + i) 4 2)) none
      have cs : (TL.tl sg).count 32 ≤ 1 := Nat.le_trans List.count_le_length (by rw [← TL.len_tl]; exact hsl1)
      exact s_when (b := !true) (et_not (et_B (ev_call (ea_cons (ev_op (ev_op (ev_slS (ev_var rfl) eo_none (eo_some (ev_var rfl)) (by omega)) (ev_var rfl) (rv_cat (by omega))) (ev_slS (ev_var rfl) (eo_some (ev_op (ev_var rfl) (ev_call (ea_cons (ev_op (ev_var rfl) (ev_var rfl) rv_I0) (ea_cons ev_c (ea_cons ev_c ea_nil))) (spv_draw (by decide))) rv_I0)) eo_none (by omega)) (rv_cat (by rw [Str.length_append]; omega))) ea_nil)
        (spv_right (by rw [Str.length_append, Str.length_append]; omega) (by rw [TL.tl_append, TL.tl_append, List.count_append, List.count_append]; omega))))) (fun z => nomatch z) fun _ H10 e10 => ⟨_, _, _, rfl⟩
    rintro σ' H7 ⟨v6, v7, v8, rfl⟩
    refine q_when (b := !((List.replicate fewL.length true).all id)) (et_not (et_B (ev_allN (bs := List.replicate fewL.length true) (el_lcLst (xs := fewL.map V.str) (by rw [List.length_map, List.length_map, List.length_replicate]) (el_call ea_nil spl_few) (by rw [List.length_map]; decide) (fun _ => rfl) fun i x y H8 e8 hx hy => ?_)))) (fun q => by rw [all_rep] at q; cases q) fun _ H8 e8 => ?_
    · rw [List.getElem?_map] at hx hy
      cases q : fewL[i]? with
      | none => rw [q] at hx; cases hx
      | some w =>
        rw [q] at hx
        cases hx
        obtain ⟨g1, g2⟩ := few_ok w (List.mem_of_getElem? q)
        rw [List.getElem?_replicate] at hy
        split at hy
        · cases hy
          exact ev_call (ea_cons (ev_var rfl) ea_nil) (spv_right g1 g2)
        · cases hy
    refine s_ret (v := .bl ((List.replicate 4 true).all id)) (ev_allN (bs := List.replicate 4 true) (el_lcP (P := NoT K) (n := 4) (y := .bl true) (eap_cons noT_grows (ep_val ev_c fun _ _ => ⟨_, .non, rfl⟩) (eap_cons noT_grows (ep_val ev_c fun _ _ => ⟨_, .int _, rfl⟩) (eap_cons noT_grows (ep_lst (el_lst (ea_cons ev_c ea_nil) (by show 1 ≤ 100000; decide)) fun p H1 _ hp => ⟨_, .lst (sq_of hp), rfl⟩) (eap_cons noT_grows (ep_val ev_c fun _ _ => ⟨_, .bl _, rfl⟩) eap_nil)))) noT_grows (by decide) (fun _ => rfl) fun x H9 e9 hx => ev_call (ea_cons (ev_var rfl) ea_nil) (spv_refused (.inl hx)))) fun H9 e9 => k H9
section
/-! ### what the top has written; the law's own head -/
theorem all_mk {l : PySem.W.OpenLaw} {w : World} {K : PySem.W.Frag} {h : Heap} {mg : Str → Option Value} {fa : Addr} (X : K.In h) (G : h.Ns mainGlobals mg) (hfa : mg "law" = some (.ref fa))
    {f0 : Addr} {od0 an0 : Option Addr} {sl0 : Array (Option Value)} {oc0 kV0 dc0 pm0 cd0 ct0 : Value}
    {f1 : Addr} {od1 an1 : Option Addr} {sl1 : Array (Option Value)} {oc1 kV1 dc1 pm1 cd1 ct1 : Value}
    {f2 : Addr} {od2 an2 : Option Addr} {sl2 : Array (Option Value)} {oc2 kV2 dc2 pm2 cd2 ct2 : Value}
    {f3 : Addr} {od3 an3 : Option Addr} {sl3 : Array (Option Value)} {oc3 kV3 dc3 pm3 cd3 ct3 : Value}
    {f4 : Addr} {od4 an4 : Option Addr} {sl4 : Array (Option Value)} {oc4 kV4 dc4 pm4 cd4 ct4 : Value}
    {f5 : Addr} {od5 an5 : Option Addr} {sl5 : Array (Option Value)} {oc5 kV5 dc5 pm5 cd5 ct5 : Value}
    {f6 : Addr} {od6 an6 : Option Addr} {sl6 : Array (Option Value)} {oc6 kV6 dc6 pm6 cd6 ct6 : Value}
    {f7 : Addr} {od7 an7 : Option Addr} {sl7 : Array (Option Value)} {oc7 kV7 dc7 pm7 cd7 ct7 : Value}
    {f8 : Addr} {od8 an8 : Option Addr} {sl8 : Array (Option Value)} {oc8 kV8 dc8 pm8 cd8 ct8 : Value}
    {f9 : Addr} {od9 an9 : Option Addr} {sl9 : Array (Option Value)} {oc9 kV9 dc9 pm9 cd9 ct9 : Value}
    {f10 : Addr} {od10 an10 : Option Addr} {sl10 : Array (Option Value)} {oc10 kV10 dc10 pm10 cd10 ct10 : Value}
    {f11 : Addr} {od11 an11 : Option Addr} {sl11 : Array (Option Value)} {oc11 kV11 dc11 pm11 cd11 ct11 : Value}
    {f12 : Addr} {od12 an12 : Option Addr} {sl12 : Array (Option Value)} {oc12 kV12 dc12 pm12 cd12 ct12 : Value}
    {f13 : Addr} {od13 an13 : Option Addr} {sl13 : Array (Option Value)} {oc13 kV13 dc13 pm13 cd13 ct13 : Value}
    {f14 : Addr} {od14 an14 : Option Addr} {sl14 : Array (Option Value)} {oc14 kV14 dc14 pm14 cd14 ct14 : Value}
    {f15 : Addr} {od15 an15 : Option Addr} {sl15 : Array (Option Value)} {oc15 kV15 dc15 pm15 cd15 ct15 : Value}
    {f16 : Addr} {od16 an16 : Option Addr} {sl16 : Array (Option Value)} {oc16 kV16 dc16 pm16 cd16 ct16 : Value}
    {f17 : Addr} {od17 an17 : Option Addr} {sl17 : Array (Option Value)} {oc17 kV17 dc17 pm17 cd17 ct17 : Value}
    {CBadSetting : Addr}
    {CBadText : Addr}
    {CBadWheels : Addr}
    {CBadNumber : Addr}
    {CNoRing : Addr}
    {CWheelError : Addr}
    (a0 : PySem.W.nsIn K mainGlobals "is_whole" = some (some (.ref f0))) (l0 : K.lookup f0 = some ⟨oc0, od0, .func (PySem.W.fnOf "is_whole" "is_whole" (defArgs S_is_whole) (defBody S_is_whole) (defScope S_is_whole) .none kV0 dc0 pm0 an0 cd0 ct0), sl0⟩) (c0 : PySem.W.codeIn K cd0 "is_whole" = true) (k0 : PySem.W.keepIn K (.ref f0) = true)
    (a1 : PySem.W.nsIn K mainGlobals "check_wheels" = some (some (.ref f1))) (l1 : K.lookup f1 = some ⟨oc1, od1, .func (PySem.W.fnOf "check_wheels" "check_wheels" (defArgs S_check_wheels) (defBody S_check_wheels) (defScope S_check_wheels) .none kV1 dc1 pm1 an1 cd1 ct1), sl1⟩) (c1 : PySem.W.codeIn K cd1 "check_wheels" = true) (k1 : PySem.W.keepIn K (.ref f1) = true)
    (a2 : PySem.W.nsIn K mainGlobals "is_setting" = some (some (.ref f2))) (l2 : K.lookup f2 = some ⟨oc2, od2, .func (PySem.W.fnOf "is_setting" "is_setting" (defArgs S_is_setting) (defBody S_is_setting) (defScope S_is_setting) .none kV2 dc2 pm2 an2 cd2 ct2), sl2⟩) (c2 : PySem.W.codeIn K cd2 "is_setting" = true) (k2 : PySem.W.keepIn K (.ref f2) = true)
    (a3 : PySem.W.nsIn K mainGlobals "check_setting" = some (some (.ref f3))) (l3 : K.lookup f3 = some ⟨oc3, od3, .func (PySem.W.fnOf "check_setting" "check_setting" (defArgs S_check_setting) (defBody S_check_setting) (defScope S_check_setting) .none kV3 dc3 pm3 an3 cd3 ct3), sl3⟩) (c3 : PySem.W.codeIn K cd3 "check_setting" = true) (k3 : PySem.W.keepIn K (.ref f3) = true)
    (a4 : PySem.W.nsIn K mainGlobals "written" = some (some (.ref f4))) (l4 : K.lookup f4 = some ⟨oc4, od4, .func (PySem.W.fnOf "written" "written" (defArgs S_written) (defBody S_written) (defScope S_written) .none kV4 dc4 pm4 an4 cd4 ct4), sl4⟩) (c4 : PySem.W.codeIn K cd4 "written" = true) (k4 : PySem.W.keepIn K (.ref f4) = true)
    (a5 : PySem.W.nsIn K mainGlobals "number_in" = some (some (.ref f5))) (l5 : K.lookup f5 = some ⟨oc5, od5, .func (PySem.W.fnOf "number_in" "number_in" (defArgs S_number_in) (defBody S_number_in) (defScope S_number_in) .none kV5 dc5 pm5 an5 cd5 ct5), sl5⟩) (c5 : PySem.W.codeIn K cd5 "number_in" = true) (k5 : PySem.W.keepIn K (.ref f5) = true)
    (a6 : PySem.W.nsIn K mainGlobals "read" = some (some (.ref f6))) (l6 : K.lookup f6 = some ⟨oc6, od6, .func (PySem.W.fnOf "read" "read" (defArgs S_read) (defBody S_read) (defScope S_read) .none kV6 dc6 pm6 an6 cd6 ct6), sl6⟩) (c6 : PySem.W.codeIn K cd6 "read" = true) (k6 : PySem.W.keepIn K (.ref f6) = true)
    (a7 : PySem.W.nsIn K mainGlobals "_law_cell_at" = some (some (.ref f7))) (l7 : K.lookup f7 = some ⟨oc7, od7, .func (PySem.W.fnOf "_law_cell_at" "_law_cell_at" (defArgs S_law_cell_at) (defBody S_law_cell_at) (defScope S_law_cell_at) .none kV7 dc7 pm7 an7 cd7 ct7), sl7⟩) (c7 : PySem.W.codeIn K cd7 "_law_cell_at" = true) (k7 : PySem.W.keepIn K (.ref f7) = true)
    (a8 : PySem.W.nsIn K mainGlobals "_law_draw" = some (some (.ref f8))) (l8 : K.lookup f8 = some ⟨oc8, od8, .func (PySem.W.fnOf "_law_draw" "_law_draw" (defArgs S_law_draw) (defBody S_law_draw) (defScope S_law_draw) .none kV8 dc8 pm8 an8 cd8 ct8), sl8⟩) (c8 : PySem.W.codeIn K cd8 "_law_draw" = true) (k8 : PySem.W.keepIn K (.ref f8) = true)
    (a9 : PySem.W.nsIn K mainGlobals "_law_wheels" = some (some (.ref f9))) (l9 : K.lookup f9 = some ⟨oc9, od9, .func (PySem.W.fnOf "_law_wheels" "_law_wheels" (defArgs S_law_wheels) (defBody S_law_wheels) (defScope S_law_wheels) .none kV9 dc9 pm9 an9 cd9 ct9), sl9⟩) (c9 : PySem.W.codeIn K cd9 "_law_wheels" = true) (k9 : PySem.W.keepIn K (.ref f9) = true)
    (a10 : PySem.W.nsIn K mainGlobals "_law_setting" = some (some (.ref f10))) (l10 : K.lookup f10 = some ⟨oc10, od10, .func (PySem.W.fnOf "_law_setting" "_law_setting" (defArgs S_law_setting) (defBody S_law_setting) (defScope S_law_setting) .none kV10 dc10 pm10 an10 cd10 ct10), sl10⟩) (c10 : PySem.W.codeIn K cd10 "_law_setting" = true) (k10 : PySem.W.keepIn K (.ref f10) = true)
    (a11 : PySem.W.nsIn K mainGlobals "_law_is_setting" = some (some (.ref f11))) (l11 : K.lookup f11 = some ⟨oc11, od11, .func (PySem.W.fnOf "_law_is_setting" "_law_is_setting" (defArgs S_law_is_setting) (defBody S_law_is_setting) (defScope S_law_is_setting) .none kV11 dc11 pm11 an11 cd11 ct11), sl11⟩) (c11 : PySem.W.codeIn K cd11 "_law_is_setting" = true) (k11 : PySem.W.keepIn K (.ref f11) = true)
    (a12 : PySem.W.nsIn K mainGlobals "_law_number" = some (some (.ref f12))) (l12 : K.lookup f12 = some ⟨oc12, od12, .func (PySem.W.fnOf "_law_number" "_law_number" (defArgs S_law_number) (defBody S_law_number) (defScope S_law_number) .none kV12 dc12 pm12 an12 cd12 ct12), sl12⟩) (c12 : PySem.W.codeIn K cd12 "_law_number" = true) (k12 : PySem.W.keepIn K (.ref f12) = true)
    (a13 : PySem.W.nsIn K mainGlobals "_law_in" = some (some (.ref f13))) (l13 : K.lookup f13 = some ⟨oc13, od13, .func (PySem.W.fnOf "_law_in" "_law_in" (defArgs S_law_in) (defBody S_law_in) (defScope S_law_in) .none kV13 dc13 pm13 an13 cd13 ct13), sl13⟩) (c13 : PySem.W.codeIn K cd13 "_law_in" = true) (k13 : PySem.W.keepIn K (.ref f13) = true)
    (a14 : PySem.W.nsIn K mainGlobals "_law_refused" = some (some (.ref f14))) (l14 : K.lookup f14 = some ⟨oc14, od14, .func (PySem.W.fnOf "_law_refused" "_law_refused" (defArgs S_law_refused) (defBody S_law_refused) (defScope S_law_refused) .none kV14 dc14 pm14 an14 cd14 ct14), sl14⟩) (c14 : PySem.W.codeIn K cd14 "_law_refused" = true) (k14 : PySem.W.keepIn K (.ref f14) = true)
    (a15 : PySem.W.nsIn K mainGlobals "_law_right" = some (some (.ref f15))) (l15 : K.lookup f15 = some ⟨oc15, od15, .func (PySem.W.fnOf "_law_right" "_law_right" (defArgs S_law_right) (defBody S_law_right) (defScope S_law_right) .none kV15 dc15 pm15 an15 cd15 ct15), sl15⟩) (c15 : PySem.W.codeIn K cd15 "_law_right" = true) (k15 : PySem.W.keepIn K (.ref f15) = true)
    (a16 : PySem.W.nsIn K mainGlobals "_law_few" = some (some (.ref f16))) (l16 : K.lookup f16 = some ⟨oc16, od16, .func (PySem.W.fnOf "_law_few" "_law_few" (defArgs S_law_few) (defBody S_law_few) (defScope S_law_few) .none kV16 dc16 pm16 an16 cd16 ct16), sl16⟩) (c16 : PySem.W.codeIn K cd16 "_law_few" = true) (k16 : PySem.W.keepIn K (.ref f16) = true)
    (a17 : PySem.W.nsIn K mainGlobals "law" = some (some (.ref f17))) (l17 : K.lookup f17 = some ⟨oc17, od17, .func (PySem.W.fnOf "law" "law" (defArgs S_law) (defBody S_law) (defScope S_law) .none kV17 dc17 pm17 an17 cd17 ct17), sl17⟩) (c17 : PySem.W.codeIn K cd17 "law" = true) (k17 : PySem.W.keepIn K (.ref f17) = true)
    (gBadSetting : PySem.W.nsIn K mainGlobals "BadSetting" = some (some (.ref CBadSetting))) (xBadSetting : PySem.W.excIn K CBadSetting [.type "ValueError", .type "Exception", .type "BaseException", .type "object"] "ValueError.__new__" = true) (kBadSetting : PySem.W.keepIn K (.ref CBadSetting) = true) (bBadSetting : PySem.W.subIn K (.ref CBadSetting) (.type "BaseException") = some true) (tBadSetting : PySem.W.typeIn K (.ref CBadSetting) = some (.type "type"))
    (gBadText : PySem.W.nsIn K mainGlobals "BadText" = some (some (.ref CBadText))) (xBadText : PySem.W.excIn K CBadText [.type "ValueError", .type "Exception", .type "BaseException", .type "object"] "ValueError.__new__" = true) (kBadText : PySem.W.keepIn K (.ref CBadText) = true) (bBadText : PySem.W.subIn K (.ref CBadText) (.type "BaseException") = some true) (tBadText : PySem.W.typeIn K (.ref CBadText) = some (.type "type"))
    (gBadWheels : PySem.W.nsIn K mainGlobals "BadWheels" = some (some (.ref CBadWheels))) (xBadWheels : PySem.W.excIn K CBadWheels [.type "ValueError", .type "Exception", .type "BaseException", .type "object"] "ValueError.__new__" = true) (kBadWheels : PySem.W.keepIn K (.ref CBadWheels) = true) (bBadWheels : PySem.W.subIn K (.ref CBadWheels) (.type "BaseException") = some true) (tBadWheels : PySem.W.typeIn K (.ref CBadWheels) = some (.type "type"))
    (glBadNumber : PySem.W.nsIn K mainGlobals "BadNumber" = some (some (.ref CBadNumber)))
    (glBadSetting : PySem.W.nsIn K mainGlobals "BadSetting" = some (some (.ref CBadSetting)))
    (glBadText : PySem.W.nsIn K mainGlobals "BadText" = some (some (.ref CBadText)))
    (glBadWheels : PySem.W.nsIn K mainGlobals "BadWheels" = some (some (.ref CBadWheels)))
    (glNoRing : PySem.W.nsIn K mainGlobals "NoRing" = some (some (.ref CNoRing)))
    (glWheelError : PySem.W.nsIn K mainGlobals "WheelError" = some (some (.ref CWheelError)))
    {tFIGURES : Nat} (coFIGURES : PySem.W.nsIn K mainGlobals "FIGURES" = some (some (.str "0123456789" tFIGURES)))
    {tMOST : Nat} (coMOST : PySem.W.nsIn K mainGlobals "MOST" = some (some (.int (10 ^ 60) tMOST)))
    (r0_exc_BadText : PySem.W.findIn K (.ref CBadText) "__getattribute__" = some (some (.builtin "BaseException.__getattribute__")))
    (r1_exc_BadText : PySem.W.findIn K (.ref CBadText) "__getattr__" = some none)
    (r2_exc_BadText : PySem.W.subIn K (.ref CBadText) (.type "BaseException") = some true)
    (r3_exc_BadText : PySem.W.hasDictIn K CBadText = true)
    (r4_exc_BadText : PySem.W.findIn K (.ref CBadText) "__class__" = some (some (.builtin "object.__class__")))
    (r5_exc_BadText : PySem.W.specialIn K (.builtin "object.__class__") "__get__" = some (some (.builtin "getset_descriptor.__get__")))
    (r6_exc_BadText : PySem.W.takesIn K (.builtin "object.__class__") = some true)
    (r7_exc_BadText : PySem.W.mroIn K CBadText (.type "object") = some true)
    (r0_isx_BadText_BadNumber : PySem.W.isClsIn K CBadNumber = true)
    (r1_isx_BadText_BadNumber : PySem.W.typeIn K (.ref CBadNumber) = some (.type "type"))
    (r2_isx_BadText_BadNumber : PySem.W.subIn K (.ref CBadNumber) (.ref CBadNumber) = some true)
    (r3_isx_BadText_BadNumber : PySem.W.subIn K (.ref CBadText) (.ref CBadNumber) = some false)
    (r0_isx_BadText_BadSetting : PySem.W.isClsIn K CBadSetting = true)
    (r1_isx_BadText_BadSetting : PySem.W.typeIn K (.ref CBadSetting) = some (.type "type"))
    (r2_isx_BadText_BadSetting : PySem.W.subIn K (.ref CBadSetting) (.ref CBadSetting) = some true)
    (r3_isx_BadText_BadSetting : PySem.W.subIn K (.ref CBadText) (.ref CBadSetting) = some false)
    (r0_isx_BadText_BadText : PySem.W.isClsIn K CBadText = true)
    (r1_isx_BadText_BadText : PySem.W.typeIn K (.ref CBadText) = some (.type "type"))
    (r2_isx_BadText_BadText : PySem.W.subIn K (.ref CBadText) (.ref CBadText) = some true)
    (r3_isx_BadText_BadText : PySem.W.subIn K (.ref CBadText) (.ref CBadText) = some true)
    (r0_isx_BadText_BadWheels : PySem.W.isClsIn K CBadWheels = true)
    (r1_isx_BadText_BadWheels : PySem.W.typeIn K (.ref CBadWheels) = some (.type "type"))
    (r2_isx_BadText_BadWheels : PySem.W.subIn K (.ref CBadWheels) (.ref CBadWheels) = some true)
    (r3_isx_BadText_BadWheels : PySem.W.subIn K (.ref CBadText) (.ref CBadWheels) = some false)
    (r0_isx_BadText_NoRing : PySem.W.isClsIn K CNoRing = true)
    (r1_isx_BadText_NoRing : PySem.W.typeIn K (.ref CNoRing) = some (.type "type"))
    (r2_isx_BadText_NoRing : PySem.W.subIn K (.ref CNoRing) (.ref CNoRing) = some true)
    (r3_isx_BadText_NoRing : PySem.W.subIn K (.ref CBadText) (.ref CNoRing) = some false)
    (r0_isx_BadText_ValueError : PySem.W.subIn K (.ref CBadText) (.type "ValueError") = some true)
    (r0_exm_BadText_WheelError : PySem.W.subIn K (.ref CWheelError) (.type "BaseException") = some true)
    (r1_exm_BadText_WheelError : PySem.W.hasDictIn K CWheelError = true)
    (r2_exm_BadText_WheelError : PySem.W.typeIn K (.ref CWheelError) = some (.type "type"))
    (r3_exm_BadText_WheelError : PySem.W.subIn K (.ref CBadText) (.ref CWheelError) = some true)
    (r0_exm_BadWheels_BadWheels : PySem.W.subIn K (.ref CBadWheels) (.type "BaseException") = some true)
    (r1_exm_BadWheels_BadWheels : PySem.W.hasDictIn K CBadWheels = true)
    (r2_exm_BadWheels_BadWheels : PySem.W.typeIn K (.ref CBadWheels) = some (.type "type"))
    (r3_exm_BadWheels_BadWheels : PySem.W.subIn K (.ref CBadWheels) (.ref CBadWheels) = some true)
    (r0_exm_BadWheels_BadSetting : PySem.W.subIn K (.ref CBadSetting) (.type "BaseException") = some true)
    (r1_exm_BadWheels_BadSetting : PySem.W.hasDictIn K CBadSetting = true)
    (r2_exm_BadWheels_BadSetting : PySem.W.typeIn K (.ref CBadSetting) = some (.type "type"))
    (r3_exm_BadWheels_BadSetting : PySem.W.subIn K (.ref CBadWheels) (.ref CBadSetting) = some false)
    (r0_exm_BadSetting_BadWheels : PySem.W.subIn K (.ref CBadWheels) (.type "BaseException") = some true)
    (r1_exm_BadSetting_BadWheels : PySem.W.hasDictIn K CBadWheels = true)
    (r2_exm_BadSetting_BadWheels : PySem.W.typeIn K (.ref CBadWheels) = some (.type "type"))
    (r3_exm_BadSetting_BadWheels : PySem.W.subIn K (.ref CBadSetting) (.ref CBadWheels) = some false)
    (r0_exm_BadSetting_BadSetting : PySem.W.subIn K (.ref CBadSetting) (.type "BaseException") = some true)
    (r1_exm_BadSetting_BadSetting : PySem.W.hasDictIn K CBadSetting = true)
    (r2_exm_BadSetting_BadSetting : PySem.W.typeIn K (.ref CBadSetting) = some (.type "type"))
    (r3_exm_BadSetting_BadSetting : PySem.W.subIn K (.ref CBadSetting) (.ref CBadSetting) = some true)
    (zValueError : PySem.W.nsIn K mainGlobals "ValueError" = some none)
    (zall : PySem.W.nsIn K mainGlobals "all" = some none)
    (zany : PySem.W.nsIn K mainGlobals "any" = some none)
    (zbool : PySem.W.nsIn K mainGlobals "bool" = some none)
    (zenumerate : PySem.W.nsIn K mainGlobals "enumerate" = some none)
    (zint : PySem.W.nsIn K mainGlobals "int" = some none)
    (zisinstance : PySem.W.nsIn K mainGlobals "isinstance" = some none)
    (zlen : PySem.W.nsIn K mainGlobals "len" = some none)
    (zlist : PySem.W.nsIn K mainGlobals "list" = some none)
    (zmin : PySem.W.nsIn K mainGlobals "min" = some none)
    (zrange : PySem.W.nsIn K mainGlobals "range" = some none)
    (zstr : PySem.W.nsIn K mainGlobals "str" = some none)
    (ztuple : PySem.W.nsIn K mainGlobals "tuple" = some none)
    : ∃ fd : FuncData, (∀ (s : Shared) (v : Value), BindsTo s fd ⟨[v], []⟩ [("_law_script", v)]) ∧ ∀ base : Heap, K.In base → base.Ns mainGlobals mg → FnOk l.prog w K mg base CX0 7 fa fd ["_law_script"] (sp_law K ⟨0, 0, 0, 0, 0, 0, 0, 0, 0, 0, 0, 0, 0, 0, 0⟩) := by
  have e := hfa.symm.trans (PySem.W.mg_of X G a17)
  cases e
  have T : Txt K mg ⟨CWheelError, CBadWheels, CBadSetting, CBadNumber, CNoRing, CBadText, 0, 0, 0, 0, 0, 0, 0, 0, 0⟩ := {
    d_is_whole := ⟨_, _, fun_mk (st := S_is_whole) l0 c0 k0, PySem.W.mg_of X G a0, (fun_mk (st := S_is_whole) l0 c0 k0).binds (ps := ["thing"]) fun _ _ _ _ _ _ us hl => match us, hl with | [_], _ => rfl⟩
    d_check_wheels := ⟨_, _, fun_mk (st := S_check_wheels) l1 c1 k1, PySem.W.mg_of X G a1, (fun_mk (st := S_check_wheels) l1 c1 k1).binds (ps := ["wheels"]) fun _ _ _ _ _ _ us hl => match us, hl with | [_], _ => rfl⟩
    d_is_setting := ⟨_, _, fun_mk (st := S_is_setting) l2 c2 k2, PySem.W.mg_of X G a2, (fun_mk (st := S_is_setting) l2 c2 k2).binds (ps := ["wheels", "setting"]) fun _ _ _ _ _ _ us hl => match us, hl with | [_, _], _ => rfl⟩
    d_check_setting := ⟨_, _, fun_mk (st := S_check_setting) l3 c3 k3, PySem.W.mg_of X G a3, (fun_mk (st := S_check_setting) l3 c3 k3).binds (ps := ["wheels", "setting"]) fun _ _ _ _ _ _ us hl => match us, hl with | [_, _], _ => rfl⟩
    d_written := ⟨_, _, fun_mk (st := S_written) l4 c4 k4, PySem.W.mg_of X G a4, (fun_mk (st := S_written) l4 c4 k4).binds (ps := ["wheels", "setting"]) fun _ _ _ _ _ _ us hl => match us, hl with | [_, _], _ => rfl⟩
    d_number_in := ⟨_, _, fun_mk (st := S_number_in) l5 c5 k5, PySem.W.mg_of X G a5, (fun_mk (st := S_number_in) l5 c5 k5).binds (ps := ["word"]) fun _ _ _ _ _ _ us hl => match us, hl with | [_], _ => rfl⟩
    d_read := ⟨_, _, fun_mk (st := S_read) l6 c6 k6, PySem.W.mg_of X G a6, (fun_mk (st := S_read) l6 c6 k6).binds (ps := ["text"]) fun _ _ _ _ _ _ us hl => match us, hl with | [_], _ => rfl⟩
    d_law_cell_at := ⟨_, _, fun_mk (st := S_law_cell_at) l7 c7 k7, PySem.W.mg_of X G a7, (fun_mk (st := S_law_cell_at) l7 c7 k7).binds (ps := ["_law_script", "_law_k"]) fun _ _ _ _ _ _ us hl => match us, hl with | [_, _], _ => rfl⟩
    d_law_draw := ⟨_, _, fun_mk (st := S_law_draw) l8 c8 k8, PySem.W.mg_of X G a8, (fun_mk (st := S_law_draw) l8 c8 k8).binds (ps := ["_law_cell", "_law_k", "_law_many"]) fun _ _ _ _ _ _ us hl => match us, hl with | [_, _, _], _ => rfl⟩
    d_law_wheels := ⟨_, _, fun_mk (st := S_law_wheels) l9 c9 k9, PySem.W.mg_of X G a9, (fun_mk (st := S_law_wheels) l9 c9 k9).binds (ps := ["_law_script"]) fun _ _ _ _ _ _ us hl => match us, hl with | [_], _ => rfl⟩
    d_law_setting := ⟨_, _, fun_mk (st := S_law_setting) l10 c10 k10, PySem.W.mg_of X G a10, (fun_mk (st := S_law_setting) l10 c10 k10).binds (ps := ["_law_script", "_law_wheels_here", "_law_by"]) fun _ _ _ _ _ _ us hl => match us, hl with | [_, _, _], _ => rfl⟩
    d_law_is_setting := ⟨_, _, fun_mk (st := S_law_is_setting) l11 c11 k11, PySem.W.mg_of X G a11, (fun_mk (st := S_law_is_setting) l11 c11 k11).binds (ps := ["_law_wheels_here", "_law_found"]) fun _ _ _ _ _ _ us hl => match us, hl with | [_, _], _ => rfl⟩
    d_law_number := ⟨_, _, fun_mk (st := S_law_number) l12 c12 k12, PySem.W.mg_of X G a12, (fun_mk (st := S_law_number) l12 c12 k12).binds (ps := ["_law_text"]) fun _ _ _ _ _ _ us hl => match us, hl with | [_], _ => rfl⟩
    d_law_in := ⟨_, _, fun_mk (st := S_law_in) l13 c13 k13, PySem.W.mg_of X G a13, (fun_mk (st := S_law_in) l13 c13 k13).binds (ps := ["_law_text"]) fun _ _ _ _ _ _ us hl => match us, hl with | [_], _ => rfl⟩
    d_law_refused := ⟨_, _, fun_mk (st := S_law_refused) l14 c14 k14, PySem.W.mg_of X G a14, (fun_mk (st := S_law_refused) l14 c14 k14).binds (ps := ["_law_text"]) fun _ _ _ _ _ _ us hl => match us, hl with | [_], _ => rfl⟩
    d_law_right := ⟨_, _, fun_mk (st := S_law_right) l15 c15 k15, PySem.W.mg_of X G a15, (fun_mk (st := S_law_right) l15 c15 k15).binds (ps := ["_law_text"]) fun _ _ _ _ _ _ us hl => match us, hl with | [_], _ => rfl⟩
    d_law_few := ⟨_, _, fun_mk (st := S_law_few) l16 c16 k16, PySem.W.mg_of X G a16, (fun_mk (st := S_law_few) l16 c16 k16).binds (ps := []) fun _ _ _ _ _ _ us hl => match us, hl with | [], _ => rfl⟩
    d_law := ⟨_, _, fun_mk (st := S_law) l17 c17 k17, PySem.W.mg_of X G a17, (fun_mk (st := S_law) l17 c17 k17).binds (ps := ["_law_script"]) fun _ _ _ _ _ _ us hl => match us, hl with | [_], _ => rfl⟩
    b_ValueError := PySem.W.mg_none_of X G zValueError
    b_all := PySem.W.mg_none_of X G zall
    b_any := PySem.W.mg_none_of X G zany
    b_bool := PySem.W.mg_none_of X G zbool
    b_enumerate := PySem.W.mg_none_of X G zenumerate
    b_int := PySem.W.mg_none_of X G zint
    b_isinstance := PySem.W.mg_none_of X G zisinstance
    b_len := PySem.W.mg_none_of X G zlen
    b_list := PySem.W.mg_none_of X G zlist
    b_min := PySem.W.mg_none_of X G zmin
    b_range := PySem.W.mg_none_of X G zrange
    b_str := PySem.W.mg_none_of X G zstr
    b_tuple := PySem.W.mg_none_of X G ztuple
    e_BadSetting := ⟨PySem.W.mg_of X G gBadSetting, xBadSetting, kBadSetting, bBadSetting, tBadSetting⟩
    e_BadText := ⟨PySem.W.mg_of X G gBadText, xBadText, kBadText, bBadText, tBadText⟩
    e_BadWheels := ⟨PySem.W.mg_of X G gBadWheels, xBadWheels, kBadWheels, bBadWheels, tBadWheels⟩
    g_BadNumber := PySem.W.mg_of X G glBadNumber
    g_BadSetting := PySem.W.mg_of X G glBadSetting
    g_BadText := PySem.W.mg_of X G glBadText
    g_BadWheels := PySem.W.mg_of X G glBadWheels
    g_NoRing := PySem.W.mg_of X G glNoRing
    g_WheelError := PySem.W.mg_of X G glWheelError
    k_FIGURES := ⟨_, PySem.W.mg_of X G coFIGURES⟩
    k_MOST := ⟨_, PySem.W.mg_of X G coMOST⟩
    exc_BadText := ⟨r0_exc_BadText, r1_exc_BadText, r2_exc_BadText, r3_exc_BadText, r4_exc_BadText, r5_exc_BadText, r6_exc_BadText, r7_exc_BadText⟩
    isx_BadText_BadNumber := kit_ref r0_isx_BadText_BadNumber r1_isx_BadText_BadNumber r2_isx_BadText_BadNumber r3_isx_BadText_BadNumber
    isx_BadText_BadSetting := kit_ref r0_isx_BadText_BadSetting r1_isx_BadText_BadSetting r2_isx_BadText_BadSetting r3_isx_BadText_BadSetting
    isx_BadText_BadText := kit_ref r0_isx_BadText_BadText r1_isx_BadText_BadText r2_isx_BadText_BadText r3_isx_BadText_BadText
    isx_BadText_BadWheels := kit_ref r0_isx_BadText_BadWheels r1_isx_BadText_BadWheels r2_isx_BadText_BadWheels r3_isx_BadText_BadWheels
    isx_BadText_NoRing := kit_ref r0_isx_BadText_NoRing r1_isx_BadText_NoRing r2_isx_BadText_NoRing r3_isx_BadText_NoRing
    isx_BadText_ValueError := kit_typ (by decide +kernel) r0_isx_BadText_ValueError
    exm_BadText_WheelError := PySem.W.exm_ref r0_exm_BadText_WheelError r1_exm_BadText_WheelError r2_exm_BadText_WheelError r3_exm_BadText_WheelError
    exm_BadWheels_BadWheels := PySem.W.exm_ref r0_exm_BadWheels_BadWheels r1_exm_BadWheels_BadWheels r2_exm_BadWheels_BadWheels r3_exm_BadWheels_BadWheels
    exm_BadWheels_BadSetting := PySem.W.exm_ref r0_exm_BadWheels_BadSetting r1_exm_BadWheels_BadSetting r2_exm_BadWheels_BadSetting r3_exm_BadWheels_BadSetting
    exm_BadSetting_BadWheels := PySem.W.exm_ref r0_exm_BadSetting_BadWheels r1_exm_BadSetting_BadWheels r2_exm_BadSetting_BadWheels r3_exm_BadSetting_BadWheels
    exm_BadSetting_BadSetting := PySem.W.exm_ref r0_exm_BadSetting_BadSetting r1_exm_BadSetting_BadSetting r2_exm_BadSetting_BadSetting r3_exm_BadSetting_BadSetting
  }
  refine ⟨PySem.W.fnOf "law" "law" (defArgs S_law) (defBody S_law) (defScope S_law) .none kV17 dc17 pm17 an17 cd17 ct17, fun s v => .of_eq rfl, fun base _ _ => ?_⟩
  have z := ok_law (P := l.prog) (w := w) (base := base) (fun_mk (st := S_law) l17 c17 k17) T
  exact z
end
end WW
open PySem PySem.W PyProof.Rows
set_option maxHeartbeats 0 in
theorem PySem.Challenge.cw_wheelways_k05_written_holds : PySem.Challenge.rw_wheelways_k05_written.Holds := by
  w_on; o_law; k_head; (case hw => w_witness2)
  k_fill
  refine L2.walk_of (l := PySem.Challenge.rw_wheelways_k05_written) (n := 63) (k := 7) (x := "_law_script") (CX := fun _ => L2.CX0) (sp := fun w => WW.sp_law _ ⟨0, 0, 0, 0, 0, 0, 0, 0, 0, 0, 0, 0, 0, 0, 0⟩) rfl (by decide) rfl ⟨rfl, by decide, by decide⟩ (fun w h Y => PySem.W.kIn_of Y) ?F (fun _ _ a ns hl _ hS => ⟨a, ns, rfl, hS, hl, fun _ => rfl⟩) (fun _ _ _ _ _ h => h)
  case F =>
    intro w mg fa h KX G hmg
    refine' WW.all_mk KX G hmg ?a0 ?l0 ?c0 ?k0 ?a1 ?l1 ?c1 ?k1 ?a2 ?l2 ?c2 ?k2 ?a3 ?l3 ?c3 ?k3 ?a4 ?l4 ?c4 ?k4 ?a5 ?l5 ?c5 ?k5 ?a6 ?l6 ?c6 ?k6 ?a7 ?l7 ?c7 ?k7 ?a8 ?l8 ?c8 ?k8 ?a9 ?l9 ?c9 ?k9 ?a10 ?l10 ?c10 ?k10 ?a11 ?l11 ?c11 ?k11 ?a12 ?l12 ?c12 ?k12 ?a13 ?l13 ?c13 ?k13 ?a14 ?l14 ?c14 ?k14 ?a15 ?l15 ?c15 ?k15 ?a16 ?l16 ?c16 ?k16 ?a17 ?l17 ?c17 ?k17 ?gBadSetting ?xBadSetting ?kBadSetting ?bBadSetting ?tBadSetting ?gBadText ?xBadText ?kBadText ?bBadText ?tBadText ?gBadWheels ?xBadWheels ?kBadWheels ?bBadWheels ?tBadWheels ?glBadNumber ?glBadSetting ?glBadText ?glBadWheels ?glNoRing ?glWheelError ?coFIGURES ?coMOST ?r0_exc_BadText ?r1_exc_BadText ?r2_exc_BadText ?r3_exc_BadText ?r4_exc_BadText ?r5_exc_BadText ?r6_exc_BadText ?r7_exc_BadText ?r0_isx_BadText_BadNumber ?r1_isx_BadText_BadNumber ?r2_isx_BadText_BadNumber ?r3_isx_BadText_BadNumber ?r0_isx_BadText_BadSetting ?r1_isx_BadText_BadSetting ?r2_isx_BadText_BadSetting ?r3_isx_BadText_BadSetting ?r0_isx_BadText_BadText ?r1_isx_BadText_BadText ?r2_isx_BadText_BadText ?r3_isx_BadText_BadText ?r0_isx_BadText_BadWheels ?r1_isx_BadText_BadWheels ?r2_isx_BadText_BadWheels ?r3_isx_BadText_BadWheels ?r0_isx_BadText_NoRing ?r1_isx_BadText_NoRing ?r2_isx_BadText_NoRing ?r3_isx_BadText_NoRing ?r0_isx_BadText_ValueError ?r0_exm_BadText_WheelError ?r1_exm_BadText_WheelError ?r2_exm_BadText_WheelError ?r3_exm_BadText_WheelError ?r0_exm_BadWheels_BadWheels ?r1_exm_BadWheels_BadWheels ?r2_exm_BadWheels_BadWheels ?r3_exm_BadWheels_BadWheels ?r0_exm_BadWheels_BadSetting ?r1_exm_BadWheels_BadSetting ?r2_exm_BadWheels_BadSetting ?r3_exm_BadWheels_BadSetting ?r0_exm_BadSetting_BadWheels ?r1_exm_BadSetting_BadWheels ?r2_exm_BadSetting_BadWheels ?r3_exm_BadSetting_BadWheels ?r0_exm_BadSetting_BadSetting ?r1_exm_BadSetting_BadSetting ?r2_exm_BadSetting_BadSetting ?r3_exm_BadSetting_BadSetting ?zValueError ?zall ?zany ?zbool ?zenumerate ?zint ?zisinstance ?zlen ?zlist ?zmin ?zrange ?zstr ?ztuple
    (case a0 => k_is); (case l0 => k_is); (case c0 => k_is); (case k0 => k_is); (case a1 => k_is); (case l1 => k_is); (case c1 => k_is); (case k1 => k_is); (case a2 => k_is); (case l2 => k_is); (case c2 => k_is); (case k2 => k_is); (case a3 => k_is); (case l3 => k_is); (case c3 => k_is); (case k3 => k_is); (case a4 => k_is); (case l4 => k_is); (case c4 => k_is); (case k4 => k_is); (case a5 => k_is); (case l5 => k_is); (case c5 => k_is); (case k5 => k_is); (case a6 => k_is); (case l6 => k_is); (case c6 => k_is); (case k6 => k_is); (case a7 => k_is); (case l7 => k_is); (case c7 => k_is); (case k7 => k_is); (case a8 => k_is); (case l8 => k_is); (case c8 => k_is); (case k8 => k_is); (case a9 => k_is); (case l9 => k_is); (case c9 => k_is); (case k9 => k_is); (case a10 => k_is); (case l10 => k_is); (case c10 => k_is); (case k10 => k_is); (case a11 => k_is); (case l11 => k_is); (case c11 => k_is); (case k11 => k_is); (case a12 => k_is); (case l12 => k_is); (case c12 => k_is); (case k12 => k_is); (case a13 => k_is); (case l13 => k_is); (case c13 => k_is); (case k13 => k_is); (case a14 => k_is); (case l14 => k_is); (case c14 => k_is); (case k14 => k_is); (case a15 => k_is); (case l15 => k_is); (case c15 => k_is); (case k15 => k_is); (case a16 => k_is); (case l16 => k_is); (case c16 => k_is); (case k16 => k_is); (case a17 => k_is); (case l17 => k_is); (case c17 => k_is); (case k17 => k_is); (case gBadSetting => k_is); (case xBadSetting => k_exc); (case kBadSetting => k_is); (case bBadSetting => k_is); (case tBadSetting => k_is); (case gBadText => k_is); (case xBadText => k_exc); (case kBadText => k_is); (case bBadText => k_is); (case tBadText => k_is); (case gBadWheels => k_is); (case xBadWheels => k_exc); (case kBadWheels => k_is); (case bBadWheels => k_is); (case tBadWheels => k_is); (case glBadNumber => k_is); (case glBadSetting => k_is); (case glBadText => k_is); (case glBadWheels => k_is); (case glNoRing => k_is); (case glWheelError => k_is); (case coFIGURES => k_is); (case coMOST => k_is); (case r0_exc_BadText => k_is); (case r1_exc_BadText => k_is); (case r2_exc_BadText => k_is); (case r3_exc_BadText => k_is); (case r4_exc_BadText => k_is); (case r5_exc_BadText => k_is); (case r6_exc_BadText => k_is); (case r7_exc_BadText => k_is); (case r0_isx_BadText_BadNumber => k_is); (case r1_isx_BadText_BadNumber => k_is); (case r2_isx_BadText_BadNumber => k_is); (case r3_isx_BadText_BadNumber => k_is); (case r0_isx_BadText_BadSetting => k_is); (case r1_isx_BadText_BadSetting => k_is); (case r2_isx_BadText_BadSetting => k_is); (case r3_isx_BadText_BadSetting => k_is); (case r0_isx_BadText_BadText => k_is); (case r1_isx_BadText_BadText => k_is); (case r2_isx_BadText_BadText => k_is); (case r3_isx_BadText_BadText => k_is); (case r0_isx_BadText_BadWheels => k_is); (case r1_isx_BadText_BadWheels => k_is); (case r2_isx_BadText_BadWheels => k_is); (case r3_isx_BadText_BadWheels => k_is); (case r0_isx_BadText_NoRing => k_is); (case r1_isx_BadText_NoRing => k_is); (case r2_isx_BadText_NoRing => k_is); (case r3_isx_BadText_NoRing => k_is); (case r0_isx_BadText_ValueError => k_is); (case r0_exm_BadText_WheelError => k_is); (case r1_exm_BadText_WheelError => k_is); (case r2_exm_BadText_WheelError => k_is); (case r3_exm_BadText_WheelError => k_is); (case r0_exm_BadWheels_BadWheels => k_is); (case r1_exm_BadWheels_BadWheels => k_is); (case r2_exm_BadWheels_BadWheels => k_is); (case r3_exm_BadWheels_BadWheels => k_is); (case r0_exm_BadWheels_BadSetting => k_is); (case r1_exm_BadWheels_BadSetting => k_is); (case r2_exm_BadWheels_BadSetting => k_is); (case r3_exm_BadWheels_BadSetting => k_is); (case r0_exm_BadSetting_BadWheels => k_is); (case r1_exm_BadSetting_BadWheels => k_is); (case r2_exm_BadSetting_BadWheels => k_is); (case r3_exm_BadSetting_BadWheels => k_is); (case r0_exm_BadSetting_BadSetting => k_is); (case r1_exm_BadSetting_BadSetting => k_is); (case r2_exm_BadSetting_BadSetting => k_is); (case r3_exm_BadSetting_BadSetting => k_is); (case zValueError => k_is); (case zall => k_is); (case zany => k_is); (case zbool => k_is); (case zenumerate => k_is); (case zint => k_is); (case zisinstance => k_is); (case zlen => k_is); (case zlist => k_is); (case zmin => k_is); (case zrange => k_is); (case zstr => k_is); (case ztuple => k_is)
