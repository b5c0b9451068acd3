import PyProof.Rows.All
import Wide.All
import OpenK.AllK
import Wide.FinOn
import HandS.ForMost
import HandS.ForExc
import HandS.Evl
import HandS.IsInst
import HandS.WideBits
import HandS.RevRange
import HandS.Conv
import HandS.Style
import HandS.StrMore
import HandS.Codes
import HandS.NoneIn
import HandS.ExcCtx
import KE.SortData
import HandS.ExcIs
import HandS.ExcOwn
import HandS.CallLocal
import HandS.SetFor
import HandS.HotCalls
import HandS.ExcValue
import PySem.Challenge.RW_wheelways_k06_refused
set_option Elab.async false
set_option linter.all false
set_option maxRecDepth 100000
set_option maxHeartbeats 4000000
namespace WW
open PySem PySem.Spec PyProof.Rows L2 Evl

/-! ### defs and calls -/
/-- a def of the text, by its name -/
structure Df (K : PySem.W.Frag) (mg : Str → Option Value) (x : Str) (ps : List Str) (st : Stmt) : Prop where
  ex : ∃ f fd, Fun K x x st f fd ∧ mg x = some (.ref f) ∧ Binds K fd ps []
/-- a def that may be called, with its promise -/
structure Cl (P : Program) (w : World) (K : PySem.W.Frag) (mg : Str → Option Value) (base : Heap) (CX : CXT) (k : Nat) (x : Str) (ps : List Str) (sp : Sp) : Prop where
  ex : ∃ f fd, FnOk P w K mg base CX k f fd ps sp ∧ mg x = some (.ref f) ∧ PySem.W.keepIn K (.ref f) = true ∧ Binds K fd ps []
section
variable {P : Program} {w : World} {K : PySem.W.Frag} {mg : Str → Option Value} {base : Heap}
theorem cl0 {x : Str} {st : Stmt} {N ps : List Str} {k : Nat} {sp : Sp} (D : Df K mg x ps st) (S : FnScope N ps (defScope st)) (len : ∀ vs H Q E, sp vs H Q E → vs.length = ps.length)
    (hbody : ∀ (f : Addr) (cdv : Value) (A : Around) (outer : List Env) (s : Shared) (H : Hp) (vs : List V) (Q : VK) (E : XK), Room k (A.deeper (envOfC x (defScope st) s.heap.objs.size f cdv)) → sp vs H Q E →
      ∃ t, PSs (cxOf CX0 P w K mg base N x (defScope st) f cdv A outer s H E).nox (defBody st) t ∧ t { nx := fun _ H' => Q .non H', rt := Q } (start N vs) H) : Cl P w K mg base CX0 (k + 1) x ps sp := by
  obtain ⟨f, fd, F, m, b⟩ := D.ex
  exact ⟨f, fd, F.ok S len (hbody f), m, F.kp, b⟩
theorem passLN {X : Cx} : Passes (L2N.CX X.prog X.w) X E0 := fun _ _ _ _ _ _ _ h => by
  obtain ⟨_, _, _, _, _, _, _, _, _, _, _, _, z⟩ := h
  exact z.elim
theorem takes_no {X : Cx} : L2N.Takes X (fun _ _ _ _ => False) := fun _ _ x => by
  obtain ⟨_, _, _, _, _, _, _, _, _, _, _, _, _, _, _, _, z⟩ := x
  exact z.elim
theorem fn_okXN {x qual : Str} {st : Stmt} {f : Addr} {fd : FuncData} {N ps : List Str} {k : Nat} {sp : Sp} (F : Fun K x qual st f fd) (S : FnScope N ps (defScope st)) (len : ∀ vs H Q E, sp vs H Q E → vs.length = ps.length)
    (hbody : ∀ (cdv : Value) (A : Around) (outer : List Env) (s : Shared) (H : Hp) (vs : List V) (Q : VK) (E : XK), Room k (A.deeper (envOfC qual (defScope st) s.heap.objs.size f cdv)) → sp vs H Q E →
      ∃ t, PSs (cxOf (L2N.CX P w) P w K mg base N qual (defScope st) f cdv A outer s H E) (defBody st) t ∧ t { nx := fun _ H' => Q .non H', rt := Q } (start N vs) H) : FnOk P w K mg base (L2N.CX P w) (k + 1) f fd ps sp := by
  obtain ⟨oc, od, kV, doc, pm, an, cdv, ct, osl, rfl, lk, hcd⟩ := F.ex
  exact fn_of lk hcd S len fun A outer s H vs Q E hr hsp => hbody cdv A outer s H vs Q E hr hsp
theorem clX {x : Str} {st : Stmt} {N ps : List Str} {k : Nat} {sp : Sp} (D : Df K mg x ps st) (S : FnScope N ps (defScope st)) (len : ∀ vs H Q E, sp vs H Q E → vs.length = ps.length)
    (hbody : ∀ (f : Addr) (cdv : Value) (A : Around) (outer : List Env) (s : Shared) (H : Hp) (vs : List V) (Q : VK) (E : XK), Room k (A.deeper (envOfC x (defScope st) s.heap.objs.size f cdv)) → sp vs H Q E →
      ∃ t, PSs (cxOf (L2N.CX P w) P w K mg base N x (defScope st) f cdv A outer s H E) (defBody st) t ∧ t { nx := fun _ H' => Q .non H', rt := Q } (start N vs) H) : Cl P w K mg base (L2N.CX P w) (k + 1) x ps sp := by
  obtain ⟨f, fd, F, m, b⟩ := D.ex
  exact ⟨f, fd, fn_okXN F S len (hbody f), m, F.kp, b⟩
end
section
variable {X : Cx} {CX : CXT} {k : Nat} {ps : List Str} {sp : Sp} {E : XK} {x : Str} {p pos : Pos} {e : Expr} {es : List Expr} {t : TA}
theorem pe_cl (C : Cl X.prog X.w X.K X.mg X.base CX k x ps sp) (hr : Room k X.A) (hg : Gl X x) (hx : Passes CX X E)
    (ha : PA X (e :: es) t) (hdb : (x == ("__debug__" : Str)) = false := by decide) (he : starEach (e :: es) X.env = (false, eval e X.env) :: starEach es X.env := by rfl) (hpl : (backTo pos (starEach es X.env)).any (·.1) = false := by rfl) :
    PE X (.Call (.Name x p) (e :: es) [] pos) (tCall sp [] E t) := by
  obtain ⟨f, fd, F, m, kp, b⟩ := C.ex
  exact pe_call F hr hg m kp b .nil hx ha hdb he hpl
theorem pe_cl0 (C : Cl X.prog X.w X.K X.mg X.base CX k x ps sp) (hr : Room k X.A) (hg : Gl X x) (hx : Passes CX X E)
    (hdb : (x == ("__debug__" : Str)) = false := by decide) :
    PE X (.Call (.Name x p) [] [] pos) (tCall sp [] E tNil) := by
  obtain ⟨f, fd, F, m, kp, b⟩ := C.ex
  exact pe_call0 F hr hg m kp b .nil hx hdb
/-- a raising callee in a body that lets its own exceptions out as they come -/
theorem pass1 {X : Cx} {E : XK} (tk : L2N.Takes X (fun cls d _ H => E cls d H)) : Passes (L2N.CX X.prog X.w) X E := L2N.passes_call tk fun _ _ _ _ h => h
theorem PE.or {X : Cx} {e : Expr} {t u : TE} (h1 : PE X e t) (h2 : PE X e u) : PE X e (fun σ H Q => t σ H Q ∨ u σ H Q) :=
  ⟨fun pins s σ H Q I h => h.elim (h1.run pins s σ H Q I) (h2.run pins s σ H Q I)⟩
end
/-- an own exception class -/
structure ExcF (K : PySem.W.Frag) (mg : Str → Option Value) (x : Str) (c : Addr) : Prop where
  g : mg x = some (.ref c)
  x : PySem.W.excIn K c [.type "ValueError", .type "Exception", .type "BaseException", .type "object"] "ValueError.__new__" = true
  k : PySem.W.keepIn K (.ref c) = true
  b : PySem.W.subIn K (.ref c) (.type "BaseException") = some true
  t : PySem.W.typeIn K (.ref c) = some (.type "type")
/-! ### operators -/
section
variable {X : Cx}
theorem ip_mulX : PIp X .Mult (fun x y H Q => ∃ i j, x = .int i ∧ y = .int j ∧ CMulX i j ∧ Q (.int (i * j)) H) := by
  intro pins s σ H x y v u Q I r1 r2 h
  obtain ⟨i, j, e1, e2, c, q⟩ := h
  subst e1; subst e2
  obtain ⟨t, rfl⟩ := r1
  obtain ⟨t', rfl⟩ := r2
  exact imul_int ⟨.int _, H, I.tok _, ⟨_, rfl⟩, q⟩ c.ok
theorem op_mulA : OpR X (binaryOp .Mult) (rI IntMulOk fun i j => .int (i * j)) := opI fun _ _ _ _ _ _ _ hc q => mul_int q hc
theorem mulC {i j : Int} (h0 : -(2 ^ 64) < j) (h1 : j < 2 ^ 64) : IntMulOk i j := CMul.ok (.inr ⟨h0, h1⟩)
theorem mulX {i j : Int} (h : CMulX i j) : IntMulOk i j := h.ok
def rCatQ (K : PySem.W.Frag) : R2 := fun x y H Q => ∃ l b xs zs, x = .ref l ∧ y = .ref b ∧ SqL K H l xs ∧ SqL K H b zs ∧ xs.length + zs.length ≤ sizeLine ∧ ∀ p, H p = none → Q (.ref p) (upd H p (.lst (xs ++ zs)))
theorem op_catQ : OpR X (binaryOp .Add) (rCatQ X.K) := by
  intro pins s σ H x y v u Q I rx ry h
  obtain ⟨l, b, xs, zs, rfl, rfl, hH, hB, hz, q⟩ := h
  cases rx
  cases ry
  obtain ⟨its, r, pl, z1⟩ := I.list hH
  obtain ⟨its2, r2, pl2, z2⟩ := I.list hB
  have hl := r.length
  have hl2 := r2.length
  obtain ⟨⟨cls, dd, data, sl⟩, ho, hc, n, hd⟩ := pl.isList
  obtain ⟨⟨cls2, dd2, data2, sl2⟩, ho2, hc2, n2, hd2⟩ := pl2.isList
  simp only at hc hd hc2 hd2
  subst hc hd hc2 hd2
  have ea : its.toArray ++ its2.toArray = (its ++ its2).toArray := by simp
  refine concat_meets ⟨_, ho, rfl⟩ ⟨_, ho2, rfl⟩ noFill_list_add seq_list_add PySem.F.slot_list_add PySem.F.entry_list_add (PySem.F.args_list_add_2 _ _) (list_addW l b its.toArray its2.toArray n n2 dd dd2 sl sl2 (by simp only [List.size_toArray]; omega)) ⟨ho, ho2, ?_⟩
  rw [ea]
  exact ⟨.ref _, _, I.lnew (t' := s.toks) (r.append r2) (by rw [List.length_append]; omega), rfl, q _ I.fresh⟩
end
/-! ### the rules that speak of the written part, by its name (for a comprehension's block) -/
section
variable {X : Cx} {K : PySem.W.Frag}
theorem ix_listK (e : X.K = K) : IxR X (rIxL K) := e ▸ ix_list
theorem ix_tupK (e : X.K = K) : IxR X (rIxT K) := e ▸ ix_tup
theorem sl_listK (e : X.K = K) : SlR X (rSlL K) := e ▸ sl_list
theorem call_isiK' (e : X.K = K) : CallR X (.builtin "isinstance") (rIsi K) := e ▸ call_isi
theorem call_lenK (e : X.K = K) : CallR X (.builtin "len") (fun xs H Q => ∃ p ys, xs = [.ref p] ∧ (SqL K H p ys ∨ SqT K H p ys) ∧ Q (.int ys.length) H) := e ▸ call_len_seq
theorem cr_allK (e : X.K = K) (hc : X.calm = true) : CallR X (.builtin "all") (rAll K) := e ▸ cr_all hc
theorem cr_anyK (e : X.K = K) (hc : X.calm = true) : CallR X (.builtin "any") (rAny K) := e ▸ cr_any hc
theorem cr_sumK (e : X.K = K) (hc : X.calm = true) : CallR X (.builtin "sum") (rSum K) := e ▸ cr_sum hc
theorem cr_minK (e : X.K = K) (hc : X.calm = true) : CallR X (.builtin "min") (rMin K) := e ▸ cr_min hc
theorem op_catK (e : X.K = K) : OpR X (binaryOp .Add) (rCatQ K) := e ▸ op_catQ
theorem op_eqDK (e : X.K = K) (hu : X.A.units + 64 < cLine) : OpR X (compareOp .Eq) (rEqD K) := e ▸ op_eqD hu
theorem op_neDK (e : X.K = K) (hu : X.A.units + 64 < cLine) : OpR X (compareOp .NotEq) (rNeD K) := e ▸ op_neD hu
theorem call_listK (e : X.K = K) : CallR X (.type "list") (fun xs H Q => ∃ p ys, xs = [.ref p] ∧ (SqL K H p ys ∨ SqT K H p ys) ∧ ∀ l, H l = none → Q (.ref l) (upd H l (.lst ys))) := e ▸ call_list_of
theorem call_tupleK (e : X.K = K) : CallR X (.type "tuple") (fun xs H Q => ∃ p ys, xs = [.ref p] ∧ ((SqL K H p ys ∧ ∀ l, H l = none → Q (.ref l) (upd H l (.tup ys))) ∨ (SqT K H p ys ∧ Q (.ref p) H))) := e ▸ call_tuple_of
theorem pi_listK {tg l : Expr} {tl : TE} (e : X.K = K) (hl : PE X l tl) : PI X tg l (iList K tl) := e ▸ pi_list hl
theorem pi_tupK {tg l : Expr} {tl : TE} (e : X.K = K) (hl : PE X l tl) : PI X tg l (iTup K tl) := e ▸ pi_tup hl
theorem op_inK (e : X.K = K) : OpR X (compareOp .In) (rIn K false) := e ▸ op_in_seq
theorem op_notInK (e : X.K = K) : OpR X (compareOp .NotIn) (rIn K true) := e ▸ op_notIn_seq
theorem pe_fldK {o : Expr} {f : Str} {pos : Pos} {ta : TE} (e : X.K = K) (he : PE X o ta) (hb : attributeBase o f X.env (eval o X.env) = eval o X.env) : PE X (.Attribute o f pos) (tFld K ta f) := e ▸ pe_fld he hb
theorem pg_tupK {es : List Expr} {k : Nat} {pos : Pos} {t : TGs} {n : Nat} (e : X.K = K) (hc : X.calm = true) (h : PGs X es t)
    (hn : (assignEach es X.env).length = n := by rfl) (hst : (assignEach es X.env).findIdx? (·.1) = none := by rfl) : PG X (.Tuple es k pos) (gTup K n t) := e ▸ pg_tup hc h hn hst
end
/-! ### the mathematics of wheels: the way forth -/
def cnt : List Int → Int
  | [] => 1
  | w :: ws => w * cnt ws
def setAt : List Int → Int → List Int
  | [], _ => []
  | w :: ws, n => (if n / w % 2 = 0 then n % w else w - 1 - n % w) :: setAt ws (n / w)
def numAt : List Int → List Int → Int
  | w :: ws, s :: ss => numAt ws ss * w + (if numAt ws ss % 2 = 0 then s else w - 1 - s)
  | _, _ => 0
def iabs (i : Int) : Int := if i < 0 then -i else i
def dist : List Int → List Int → Int
  | a :: r, b :: q => iabs (a - b) + dist r q
  | _, _ => 0
/-- all sizes from 1 on -/
def Pos (ws : List Int) : Prop := ∀ w ∈ ws, 1 ≤ w
/-- a setting of wheels -/
def InS : List Int → List Int → Prop
  | [], [] => True
  | w :: ws, s :: ss => (0 ≤ s ∧ s < w) ∧ InS ws ss
  | _, _ => False
theorem Pos.head {w : Int} {ws : List Int} (h : Pos (w :: ws)) : 1 ≤ w := h w List.mem_cons_self
theorem Pos.tail {w : Int} {ws : List Int} (h : Pos (w :: ws)) : Pos ws := fun x hx => h x (List.mem_cons_of_mem _ hx)
theorem Pos.take {ws : List Int} (h : Pos ws) (n : Nat) : Pos (ws.take n) := fun x hx => h x (List.mem_of_mem_take hx)
theorem cnt_pos : ∀ {ws : List Int}, Pos ws → 1 ≤ cnt ws
  | [], _ => by show (1 : Int) ≤ 1; omega
  | w :: ws, h => by
    have h1 := h.head
    have h2 := cnt_pos h.tail
    show 1 ≤ w * cnt ws
    have := Int.mul_le_mul h1 h2 (by omega) (by omega)
    omega
theorem InS.len : ∀ {ws ss : List Int}, InS ws ss → ss.length = ws.length
  | [], [], _ => rfl
  | w :: ws, s :: ss, h => by
    have := InS.len h.2
    simp [this]
  | [], _ :: _, h => h.elim
  | _ :: _, [], h => h.elim
theorem cnt_snoc : ∀ (ws : List Int) (w : Int), cnt (ws ++ [w]) = cnt ws * w
  | [], w => by show w * 1 = 1 * w; omega
  | v :: ws, w => by
    show v * cnt (ws ++ [w]) = v * cnt ws * w
    rw [cnt_snoc ws w, Int.mul_assoc]
theorem cnt_append : ∀ (ws vs : List Int), cnt (ws ++ vs) = cnt ws * cnt vs
  | [], vs => by show cnt vs = 1 * cnt vs; omega
  | v :: ws, vs => by
    show v * cnt (ws ++ vs) = v * cnt ws * cnt vs
    rw [cnt_append ws vs, Int.mul_assoc]
theorem cnt_reverse : ∀ (ws : List Int), cnt ws.reverse = cnt ws
  | [] => rfl
  | w :: ws => by
    rw [List.reverse_cons, cnt_snoc, cnt_reverse ws]
    show cnt ws * w = w * cnt ws
    exact Int.mul_comm _ _
theorem setAt_len : ∀ (ws : List Int) (n : Int), (setAt ws n).length = ws.length
  | [], _ => rfl
  | w :: ws, n => by
    show (setAt ws (n / w)).length + 1 = ws.length + 1
    rw [setAt_len]
theorem setAt_in : ∀ {ws : List Int} (n : Int), Pos ws → InS ws (setAt ws n)
  | [], _, _ => trivial
  | w :: ws, n, h => by
    have h1 := h.head
    have a := Int.emod_nonneg n (b := w) (by omega)
    have b := Int.emod_lt_of_pos n (b := w) (by omega)
    refine ⟨?_, setAt_in _ h.tail⟩
    split <;> omega
theorem num_set : ∀ {ws : List Int} {n : Int}, Pos ws → 0 ≤ n → n < cnt ws → numAt ws (setAt ws n) = n
  | [], n, _, h0, h1 => by
    have : n < 1 := h1
    show (0 : Int) = n
    omega
  | w :: ws, n, h, h0, h1 => by
    have hw := h.head
    have hn : n < w * cnt ws := h1
    have e := Int.mul_ediv_add_emod n w
    have q0 : 0 ≤ n / w := Int.ediv_nonneg h0 (by omega)
    have q1 : n / w < cnt ws := Int.ediv_lt_of_lt_mul (by omega) (by rw [Int.mul_comm]; exact hn)
    have ih := num_set h.tail q0 q1
    show numAt ws (setAt ws (n / w)) * w + (if numAt ws (setAt ws (n / w)) % 2 = 0 then (if n / w % 2 = 0 then n % w else w - 1 - n % w) else w - 1 - (if n / w % 2 = 0 then n % w else w - 1 - n % w)) = n
    rw [ih]
    have e2 : n / w * w = w * (n / w) := Int.mul_comm _ _
    split <;> omega
theorem num_bd : ∀ {ws ss : List Int}, InS ws ss → 0 ≤ numAt ws ss ∧ numAt ws ss < cnt ws
  | [], [], _ => by
    show (0 : Int) ≤ 0 ∧ (0 : Int) < 1
    omega
  | w :: ws, s :: ss, h => by
    obtain ⟨⟨h0, h1⟩, h2⟩ := h
    obtain ⟨a, b⟩ := num_bd h2
    have r0 : 0 ≤ (if numAt ws ss % 2 = 0 then s else w - 1 - s) ∧ (if numAt ws ss % 2 = 0 then s else w - 1 - s) < w := by split <;> omega
    have m0 : 0 ≤ numAt ws ss * w := Int.mul_nonneg a (by omega)
    have m1 : (numAt ws ss + 1) * w ≤ cnt ws * w := Int.mul_le_mul_of_nonneg_right (by omega) (by omega)
    have m2 : (numAt ws ss + 1) * w = numAt ws ss * w + w := by rw [Int.add_mul, Int.one_mul]
    have m3 : cnt ws * w = w * cnt ws := Int.mul_comm _ _
    show 0 ≤ numAt ws ss * w + (if numAt ws ss % 2 = 0 then s else w - 1 - s) ∧ numAt ws ss * w + (if numAt ws ss % 2 = 0 then s else w - 1 - s) < w * cnt ws
    omega
  | [], _ :: _, h => h.elim
  | _ :: _, [], h => h.elim
theorem div_of {f w r : Int} (h0 : 0 ≤ r) (h1 : r < w) : (f * w + r) / w = f ∧ (f * w + r) % w = r := by
  have e : f * w + r = r + f * w := Int.add_comm _ _
  have hw : w ≠ 0 := by omega
  rw [e, Int.add_mul_ediv_right _ _ hw, Int.add_mul_emod_self_right, Int.ediv_eq_zero_of_lt h0 h1, Int.emod_eq_of_lt h0 h1]
  omega
theorem set_num : ∀ {ws ss : List Int}, InS ws ss → setAt ws (numAt ws ss) = ss
  | [], [], _ => rfl
  | w :: ws, s :: ss, h => by
    obtain ⟨⟨h0, h1⟩, h2⟩ := h
    have ih := set_num h2
    have r0 : 0 ≤ (if numAt ws ss % 2 = 0 then s else w - 1 - s) ∧ (if numAt ws ss % 2 = 0 then s else w - 1 - s) < w := by split <;> omega
    obtain ⟨d1, d2⟩ := div_of (f := numAt ws ss) r0.1 r0.2
    show (if (numAt ws ss * w + (if numAt ws ss % 2 = 0 then s else w - 1 - s)) / w % 2 = 0 then (numAt ws ss * w + (if numAt ws ss % 2 = 0 then s else w - 1 - s)) % w else w - 1 - (numAt ws ss * w + (if numAt ws ss % 2 = 0 then s else w - 1 - s)) % w) :: setAt ws ((numAt ws ss * w + (if numAt ws ss % 2 = 0 then s else w - 1 - s)) / w) = s :: ss
    rw [d1, d2, ih]
    congr 1
    split <;> omega
  | [], _ :: _, h => h.elim
  | _ :: _, [], h => h.elim
theorem iabs_self (i : Int) : iabs (i - i) = 0 := by
  unfold iabs
  split <;> omega
theorem dist_self : ∀ (s : List Int), dist s s = 0
  | [] => rfl
  | a :: r => by
    show iabs (a - a) + dist r r = 0
    rw [iabs_self, dist_self r]
    omega
theorem dist_comm : ∀ (s t : List Int), dist s t = dist t s
  | [], [] => rfl
  | [], _ :: _ => rfl
  | _ :: _, [] => rfl
  | a :: r, b :: q => by
    show iabs (a - b) + dist r q = iabs (b - a) + dist q r
    rw [dist_comm r q]
    have : iabs (a - b) = iabs (b - a) := by
      unfold iabs
      split <;> split <;> omega
    omega
theorem set_step : ∀ {ws : List Int} {n : Int}, Pos ws → 0 ≤ n → n + 1 < cnt ws → dist (setAt ws n) (setAt ws (n + 1)) = 1
  | [], n, _, h0, h1 => by
    have : n + 1 < 1 := h1
    omega
  | w :: ws, n, h, h0, h1 => by
    have hw := h.head
    have hn : n + 1 < w * cnt ws := h1
    have e := Int.mul_ediv_add_emod n w
    have r0 := Int.emod_nonneg n (b := w) (by omega)
    have r1 := Int.emod_lt_of_pos n (b := w) (by omega)
    have q0 : 0 ≤ n / w := Int.ediv_nonneg h0 (by omega)
    have e2 : n / w * w = w * (n / w) := Int.mul_comm _ _
    show iabs ((if n / w % 2 = 0 then n % w else w - 1 - n % w) - (if (n + 1) / w % 2 = 0 then (n + 1) % w else w - 1 - (n + 1) % w)) + dist (setAt ws (n / w)) (setAt ws ((n + 1) / w)) = 1
    by_cases c : n % w + 1 < w
    · obtain ⟨d1, d2⟩ := div_of (f := n / w) (w := w) (r := n % w + 1) (by omega) c
      have en : n / w * w + (n % w + 1) = n + 1 := by omega
      rw [en] at d1 d2
      rw [d1, d2, dist_self]
      unfold iabs
      split <;> split <;> omega
    · obtain ⟨d1, d2⟩ := div_of (f := n / w + 1) (w := w) (r := 0) (by omega) (by omega)
      have em : (n / w + 1) * w = n / w * w + w := by rw [Int.add_mul, Int.one_mul]
      have en : (n / w + 1) * w + 0 = n + 1 := by omega
      rw [en] at d1 d2
      have q1 : n / w + 1 < cnt ws := by
        have : (n + 1) / w < cnt ws := Int.ediv_lt_of_lt_mul (by omega) (by rw [Int.mul_comm]; exact hn)
        omega
      rw [d1, d2, set_step h.tail q0 q1]
      unfold iabs
      split <;> split <;> split <;> omega
theorem set_zero : ∀ {ws : List Int}, Pos ws → setAt ws 0 = List.replicate ws.length 0
  | [], _ => rfl
  | w :: ws, h => by
    have hw := h.head
    show (if (0 : Int) / w % 2 = 0 then 0 % w else w - 1 - 0 % w) :: setAt ws (0 / w) = _
    rw [Int.zero_ediv, Int.zero_emod, set_zero h.tail]
    rfl
/-- |a - b| summed up by places -/
theorem dist_sum : ∀ (a b : List Int), a.length = b.length → ((List.range a.length).map fun k => iabs (a.getD k 0 - b.getD k 0)).sum = dist a b
  | [], [], _ => rfl
  | x :: a, y :: b, h => by
    have hl : a.length = b.length := by simpa using h
    rw [List.length_cons, List.range_succ_eq_map, List.map_cons, List.sum_cons, List.map_map]
    have := dist_sum a b hl
    show iabs (x - y) + _ = iabs (x - y) + dist a b
    rw [← this]
    rfl
  | [], _ :: _, h => by simp at h
  | _ :: _, [], h => by simp at h
/-! ### the mathematics of the ring -/
/-- height and place of a number on the ring: z the even wheel's size, P one below the count of the others -/
def rH (z P n : Int) : Int := if n < z then n else z - 1 - (n - z) / P
def rP (z P n : Int) : Int := if n < z then 0 else if (n - z) / P % 2 = 0 then (n - z) % P + 1 else P - (n - z) % P
def rN (z P h p : Int) : Int := if p = 0 then h else z + (z - 1 - h) * P + (if (z - 1 - h) % 2 = 0 then p - 1 else P - p)
theorem r_lo {z P n : Int} (h : n < z) : rH z P n = n ∧ rP z P n = 0 := by
  unfold rH rP
  rw [if_pos h, if_pos h]
  exact ⟨rfl, rfl⟩
theorem r_hi {z P d a : Int} (hd : 0 ≤ d) (h0 : 0 ≤ a) (h1 : a < P) : rH z P (z + (d * P + a)) = z - 1 - d ∧ rP z P (z + (d * P + a)) = if d % 2 = 0 then a + 1 else P - a := by
  have hm : 0 ≤ d * P := Int.mul_nonneg hd (by omega)
  obtain ⟨e1, e2⟩ := div_of (f := d) h0 h1
  have e3 : z + (d * P + a) - z = d * P + a := by omega
  unfold rH rP
  rw [if_neg (by omega), if_neg (by omega), e3, e1, e2]
  exact ⟨rfl, rfl⟩
theorem r_dec {z P n : Int} (hP : 1 ≤ P) (h0 : z ≤ n) (h1 : n < z + z * P) : ∃ d a, n = z + (d * P + a) ∧ 0 ≤ d ∧ d < z ∧ 0 ≤ a ∧ a < P := by
  refine ⟨(n - z) / P, (n - z) % P, ?_, Int.ediv_nonneg (by omega) (by omega), Int.ediv_lt_of_lt_mul (by omega) (by omega), Int.emod_nonneg _ (by omega), Int.emod_lt_of_pos _ (by omega)⟩
  have e := Int.mul_ediv_add_emod (n - z) P
  have e2 : (n - z) / P * P = P * ((n - z) / P) := Int.mul_comm _ _
  omega
theorem r_bd {z P n : Int} (hP : 1 ≤ P) (h0 : 0 ≤ n) (h1 : n < z + z * P) : (0 ≤ rH z P n ∧ rH z P n < z) ∧ 0 ≤ rP z P n ∧ rP z P n < P + 1 := by
  by_cases c : n < z
  · obtain ⟨e1, e2⟩ := r_lo (P := P) c
    rw [e1, e2]
    omega
  · obtain ⟨d, a, rfl, hd, hd2, ha, ha2⟩ := r_dec hP (by omega) h1
    obtain ⟨e1, e2⟩ := r_hi (z := z) hd ha ha2
    rw [e1, e2]
    split <;> omega
theorem rN_of {z P n : Int} (hP : 1 ≤ P) (h0 : 0 ≤ n) (h1 : n < z + z * P) : rN z P (rH z P n) (rP z P n) = n := by
  by_cases c : n < z
  · obtain ⟨e1, e2⟩ := r_lo (P := P) c
    rw [e1, e2]
    rfl
  · obtain ⟨d, a, rfl, hd, hd2, ha, ha2⟩ := r_dec hP (by omega) h1
    obtain ⟨e1, e2⟩ := r_hi (z := z) hd ha ha2
    rw [e1, e2]
    have ed : z - 1 - (z - 1 - d) = d := by omega
    unfold rN
    rw [ed]
    by_cases q : d % 2 = 0
    · rw [if_pos q, if_pos q, if_neg (by omega)]
      omega
    · rw [if_neg q, if_neg q, if_neg (by omega)]
      omega
theorem of_rN {z P h p : Int} (hP : 1 ≤ P) (h0 : 0 ≤ h) (h1 : h < z) (p0 : 0 ≤ p) (p1 : p < P + 1) : (0 ≤ rN z P h p ∧ rN z P h p < z + z * P) ∧ rH z P (rN z P h p) = h ∧ rP z P (rN z P h p) = p := by
  have hz : 0 ≤ z * P := Int.mul_nonneg (by omega) (by omega)
  by_cases c : p = 0
  · have e : rN z P h p = h := by unfold rN; rw [if_pos c]
    rw [e, (r_lo (P := P) h1).1, (r_lo (P := P) h1).2]
    omega
  · have e : rN z P h p = z + ((z - 1 - h) * P + (if (z - 1 - h) % 2 = 0 then p - 1 else P - p)) := by unfold rN; rw [if_neg c]; omega
    have a0 : 0 ≤ (if (z - 1 - h) % 2 = 0 then p - 1 else P - p) := by split <;> omega
    have a1 : (if (z - 1 - h) % 2 = 0 then p - 1 else P - p) < P := by split <;> omega
    obtain ⟨e1, e2⟩ := r_hi (z := z) (d := z - 1 - h) (by omega) a0 a1
    have m0 : 0 ≤ (z - 1 - h) * P := Int.mul_nonneg (by omega) (by omega)
    have m1 : (z - 1 - h + 1) * P ≤ z * P := Int.mul_le_mul_of_nonneg_right (by omega) (by omega)
    rw [Int.add_mul, Int.one_mul] at m1
    rw [e, e1, e2]
    refine ⟨⟨by omega, by omega⟩, by omega, ?_⟩
    by_cases q : (z - 1 - h) % 2 = 0
    · rw [if_pos q, if_pos q]; omega
    · rw [if_neg q, if_neg q]; omega
/-- from each number to the next one, of the last to the first: one step -/
theorem r_step {z P n : Int} (hP : 1 ≤ P) (hz : 0 < z) (hz2 : z % 2 = 0) (h0 : 0 ≤ n) (h1 : n < z + z * P) :
    (rP z P n = rP z P ((n + 1) % (z + z * P)) ∧ iabs (rH z P n - rH z P ((n + 1) % (z + z * P))) = 1) ∨
    (rH z P n = rH z P ((n + 1) % (z + z * P)) ∧ (rP z P ((n + 1) % (z + z * P)) = rP z P n + 1 ∨ rP z P n = rP z P ((n + 1) % (z + z * P)) + 1)) := by
  have hzP : z * 1 ≤ z * P := Int.mul_le_mul_of_nonneg_left hP (by omega)
  by_cases cl : n + 1 = z + z * P
  · have e : (n + 1) % (z + z * P) = 0 := by rw [cl, Int.emod_self]
    rw [e]
    obtain ⟨d, a, rfl, hd, hd2, ha, ha2⟩ := r_dec hP (by omega) h1
    obtain ⟨e1, e2⟩ := r_hi (z := z) hd ha ha2
    obtain ⟨f1, f2⟩ := r_lo (P := P) hz
    have m1 : (d + 1) * P ≤ z * P := Int.mul_le_mul_of_nonneg_right (by omega) (by omega)
    rw [Int.add_mul, Int.one_mul] at m1
    have ea : a = P - 1 := by omega
    have ed : d = z - 1 := by
      by_cases q : d + 1 < z
      · have m2 : (d + 1 + 1) * P ≤ z * P := Int.mul_le_mul_of_nonneg_right (by omega) (by omega)
        rw [Int.add_mul, Int.add_mul, Int.one_mul] at m2
        omega
      · omega
    rw [e1, e2, f1, f2]
    refine .inr ⟨by omega, .inr ?_⟩
    rw [if_neg (by omega)]
    omega
  · have e : (n + 1) % (z + z * P) = n + 1 := Int.emod_eq_of_lt (by omega) (by omega)
    rw [e]
    by_cases c : n + 1 < z
    · obtain ⟨e1, e2⟩ := r_lo (P := P) (show n < z by omega)
      obtain ⟨f1, f2⟩ := r_lo (P := P) c
      rw [e1, e2, f1, f2]
      refine .inl ⟨rfl, ?_⟩
      unfold iabs
      split <;> omega
    · by_cases c2 : n < z
      · obtain ⟨e1, e2⟩ := r_lo (P := P) c2
        obtain ⟨f1, f2⟩ := r_hi (z := z) (P := P) (d := 0) (a := 0) (by omega) (by omega) (by omega)
        have en : z + (0 * P + 0) = n + 1 := by omega
        rw [en] at f1 f2
        rw [e1, e2, f1, f2]
        refine .inr ⟨by omega, .inl rfl⟩
      · obtain ⟨d, a, rfl, hd, hd2, ha, ha2⟩ := r_dec hP (by omega) h1
        obtain ⟨e1, e2⟩ := r_hi (z := z) hd ha ha2
        by_cases q : a + 1 < P
        · obtain ⟨f1, f2⟩ := r_hi (z := z) (P := P) (d := d) (a := a + 1) hd (by omega) q
          have en : z + (d * P + (a + 1)) = z + (d * P + a) + 1 := by omega
          rw [en] at f1 f2
          rw [e1, e2, f1, f2]
          refine .inr ⟨rfl, ?_⟩
          by_cases r : d % 2 = 0
          · rw [if_pos r, if_pos r]; omega
          · rw [if_neg r, if_neg r]; omega
        · obtain ⟨f1, f2⟩ := r_hi (z := z) (P := P) (d := d + 1) (a := 0) (by omega) (by omega) (by omega)
          have en : z + ((d + 1) * P + 0) = z + (d * P + a) + 1 := by
            rw [Int.add_mul, Int.one_mul]
            omega
          rw [en] at f1 f2
          rw [e1, e2, f1, f2]
          refine .inl ⟨?_, ?_⟩
          · by_cases r : d % 2 = 0
            · rw [if_pos r, if_neg (by omega)]; omega
            · rw [if_neg r, if_pos (by omega)]; omega
          · unfold iabs
            split <;> omega
/-! ### lists: without a place, with a height at a place -/
def wo (s : List Int) (k : Nat) : List Int := s.take k ++ s.drop (k + 1)
def ins (s : List Int) (k : Nat) (h : Int) : List Int := s.take k ++ [h] ++ s.drop k
theorem InS.append : ∀ {ws vs ss ts : List Int}, InS ws ss → InS vs ts → InS (ws ++ vs) (ss ++ ts)
  | [], vs, [], ts, _, h => h
  | w :: ws, vs, s :: ss, ts, h, h2 => ⟨h.1, InS.append h.2 h2⟩
theorem InS.takeN : ∀ {ws ss : List Int}, InS ws ss → ∀ n : Nat, InS (ws.take n) (ss.take n)
  | [], [], _, n => by rw [List.take_nil]; exact True.intro
  | w :: ws, s :: ss, h, 0 => True.intro
  | w :: ws, s :: ss, h, n + 1 => ⟨h.1, InS.takeN h.2 n⟩
theorem InS.dropN : ∀ {ws ss : List Int}, InS ws ss → ∀ n : Nat, InS (ws.drop n) (ss.drop n)
  | [], [], _, n => by rw [List.drop_nil]; exact True.intro
  | w :: ws, s :: ss, h, 0 => h
  | w :: ws, s :: ss, h, n + 1 => InS.dropN h.2 n
theorem InS.at : ∀ {ws ss : List Int}, InS ws ss → ∀ n : Nat, n < ws.length → 0 ≤ ss.getD n 0 ∧ ss.getD n 0 < ws.getD n 0
  | w :: ws, s :: ss, h, 0, _ => h.1
  | w :: ws, s :: ss, h, n + 1, hn => InS.at h.2 n (Nat.lt_of_succ_lt_succ hn)
theorem split_at : ∀ {ws : List Int} {k : Nat}, k < ws.length → ws = ws.take k ++ ([ws.getD k 0] ++ ws.drop (k + 1))
  | w :: ws, 0, _ => rfl
  | w :: ws, k + 1, h => by
    show w :: ws = w :: (ws.take k ++ ([ws.getD k 0] ++ ws.drop (k + 1)))
    rw [← split_at (Nat.lt_of_succ_lt_succ h)]
theorem cnt_wo {ws : List Int} {k : Nat} (h : k < ws.length) : cnt ws = ws.getD k 0 * cnt (wo ws k) := by
  have e : cnt ws = cnt (ws.take k ++ ([ws.getD k 0] ++ ws.drop (k + 1))) := by rw [← split_at h]
  rw [e, wo, cnt_append, cnt_append, cnt_append]
  show _ * (_ * 1 * _) = _
  rw [Int.mul_one, ← Int.mul_assoc, ← Int.mul_assoc, Int.mul_comm (cnt (ws.take k))]
theorem Pos.wo {ws : List Int} (h : Pos ws) (k : Nat) : Pos (wo ws k) := fun w hw => (List.mem_append.mp hw).elim (fun z => h w (List.mem_of_mem_take z)) (fun z => h w (List.mem_of_mem_drop z))
theorem len_wo {ws : List Int} {k : Nat} (h : k < ws.length) : (wo ws k).length + 1 = ws.length := by
  rw [wo, List.length_append, List.length_take, List.length_drop]
  omega
theorem wo_ins {s : List Int} {k : Nat} {h : Int} (hk : k ≤ s.length) : wo (ins s k h) k = s := by
  have l1 : (s.take k).length = k := by rw [List.length_take]; omega
  have e1 : (ins s k h).take k = s.take k := by
    rw [ins, List.append_assoc, List.take_append_of_le_length (by omega), List.take_of_length_le (by omega)]
  have e2 : (ins s k h).drop (k + 1) = s.drop k := by
    rw [ins, List.drop_append_of_le_length (by rw [List.length_append, l1]; exact Nat.le_refl _), List.drop_of_length_le (by rw [List.length_append, l1]; exact Nat.le_refl _), List.nil_append]
  rw [wo, e1, e2, List.take_append_drop]
theorem at_ins {s : List Int} {k : Nat} {h : Int} (hk : k ≤ s.length) : (ins s k h).getD k 0 = h := by
  have l1 : (s.take k).length = k := by rw [List.length_take]; omega
  rw [ins, List.append_assoc, List.getD_eq_getElem?_getD, List.getElem?_append_right (by omega), l1, Nat.sub_self]
  rfl
theorem ins_wo {s : List Int} {k : Nat} (hk : k < s.length) : ins (wo s k) k (s.getD k 0) = s := by
  have l1 : (s.take k).length = k := by rw [List.length_take]; omega
  have e1 : (wo s k).take k = s.take k := by
    rw [wo, List.take_append_of_le_length (by omega), List.take_of_length_le (by omega)]
  have e2 : (wo s k).drop k = s.drop (k + 1) := by
    rw [wo, List.drop_append_of_le_length (by omega), List.drop_of_length_le (by omega), List.nil_append]
  rw [ins, e1, e2, List.append_assoc, ← split_at hk]
theorem len_ins {s : List Int} {k : Nat} {h : Int} : (ins s k h).length = s.length + 1 := by
  rw [ins, List.length_append, List.length_append, List.length_take, List.length_drop]
  show min k _ + 1 + _ = _
  omega
theorem InS.wo {ws ss : List Int} (h : InS ws ss) (k : Nat) : InS (wo ws k) (WW.wo ss k) := (h.takeN k).append (h.dropN (k + 1))
theorem ins_in {ws s : List Int} {k : Nat} {h : Int} (hk : k < ws.length) (hs : InS (wo ws k) s) (h0 : 0 ≤ h) (h1 : h < ws.getD k 0) : InS ws (ins s k h) := by
  have l1 : (ws.take k).length = k := by rw [List.length_take]; omega
  have e1 : (wo ws k).take k = ws.take k := by
    rw [WW.wo, List.take_append_of_le_length (by omega), List.take_of_length_le (by omega)]
  have e2 : (wo ws k).drop k = ws.drop (k + 1) := by
    rw [WW.wo, List.drop_append_of_le_length (by omega), List.drop_of_length_le (by omega), List.nil_append]
  have t := hs.takeN k
  have d := hs.dropN k
  rw [e1] at t
  rw [e2] at d
  have z : InS ([ws.getD k 0] ++ ws.drop (k + 1)) ([h] ++ s.drop k) := InS.append (ws := [ws.getD k 0]) (ss := [h]) ⟨⟨h0, h1⟩, True.intro⟩ d
  have y := t.append z
  rw [← split_at hk, ← List.append_assoc] at y
  exact y
theorem dist_append : ∀ {a b c d : List Int}, a.length = b.length → dist (a ++ c) (b ++ d) = dist a b + dist c d
  | [], [], c, d, _ => (Int.zero_add _).symm
  | x :: a, y :: b, c, d, h => by
    show iabs (x - y) + dist (a ++ c) (b ++ d) = iabs (x - y) + dist a b + dist c d
    rw [dist_append (Nat.succ.inj h), Int.add_assoc]
theorem dist_take_drop {s t : List Int} (k : Nat) (h : s.length = t.length) : dist (s.take k) (t.take k) + dist (s.drop k) (t.drop k) = dist s t := by
  rw [← dist_append (by rw [List.length_take, List.length_take, h]), List.take_append_drop, List.take_append_drop]
theorem dist_ins {s t : List Int} {k : Nat} {g h : Int} (hl : s.length = t.length) : dist (ins s k g) (ins t k h) = iabs (g - h) + dist s t := by
  have e := dist_take_drop k hl
  have lt : (s.take k).length = (t.take k).length := by rw [List.length_take, List.length_take, hl]
  rw [ins, ins, dist_append (by rw [List.length_append, List.length_append, lt]; rfl), dist_append lt]
  have : dist [g] [h] = iabs (g - h) := by
    show iabs (g - h) + 0 = _
    omega
  omega
/-! ### the ring -/
def evenAt (ws : List Int) : Nat := ((List.range ws.length).filter fun i => decide (ws.getD i 0 % 2 = 0)).headD 0
theorem even_some : ∀ {ws : List Int}, cnt ws % 2 = 0 → ∃ i, i < ws.length ∧ ws.getD i 0 % 2 = 0
  | [], h => by
    have : (1 : Int) % 2 = 0 := h
    omega
  | w :: ws, h => by
    by_cases c : w % 2 = 0
    · exact ⟨0, Nat.zero_lt_succ _, c⟩
    · have h2 : w * cnt ws % 2 = 0 := h
      have : cnt ws % 2 = 0 := by
        rw [Int.mul_emod] at h2
        have a : w % 2 = 1 := by omega
        rw [a, Int.one_mul, Int.emod_emod_of_dvd _ (Int.dvd_refl 2)] at h2
        exact h2
      obtain ⟨i, hi, q⟩ := even_some this
      exact ⟨i + 1, Nat.succ_lt_succ hi, q⟩
theorem even_at {ws : List Int} (h : cnt ws % 2 = 0) : ∃ r, ((List.range ws.length).filter fun i => decide (ws.getD i 0 % 2 = 0)) = evenAt ws :: r ∧ evenAt ws < ws.length ∧ ws.getD (evenAt ws) 0 % 2 = 0 := by
  obtain ⟨i, hi, q⟩ := even_some h
  have hm : i ∈ (List.range ws.length).filter fun i => decide (ws.getD i 0 % 2 = 0) := List.mem_filter.mpr ⟨List.mem_range.mpr hi, decide_eq_true q⟩
  unfold evenAt
  cases e : (List.range ws.length).filter fun i => decide (ws.getD i 0 % 2 = 0) with
  | nil => rw [e] at hm; cases hm
  | cons x r =>
    have hx : x ∈ (List.range ws.length).filter fun i => decide (ws.getD i 0 % 2 = 0) := by rw [e]; exact List.mem_cons_self
    obtain ⟨h1, h2⟩ := List.mem_filter.mp hx
    exact ⟨r, rfl, List.mem_range.mp h1, of_decide_eq_true h2⟩
theorem le_cnt : ∀ {ws : List Int}, Pos ws → ∀ w ∈ ws, w ≤ cnt ws
  | x :: ws, h, w, hw => by
    have h1 := h.head
    have h2 := cnt_pos h.tail
    show w ≤ x * cnt ws
    rcases List.mem_cons.mp hw with rfl | m
    · have := Int.mul_le_mul_of_nonneg_left h2 (show 0 ≤ w by omega)
      omega
    · have h3 := le_cnt h.tail w m
      have := Int.mul_le_mul_of_nonneg_right h1 (show 0 ≤ cnt ws by omega)
      omega
def turnN (ws : List Int) : Nat := ((List.range ws.length).filter fun i => decide (1 < ws.getD i 0)).length
theorem mem_wo {ws : List Int} {k i : Nat} (hi : i < ws.length) (hk : i ≠ k) : ws.getD i 0 ∈ wo ws k := by
  have e : ws.getD i 0 = ws[i] := by rw [List.getD_eq_getElem?_getD, List.getElem?_eq_getElem hi]; rfl
  rw [e]
  refine List.mem_append.mpr ?_
  by_cases c : i < k
  · exact .inl (List.mem_take_iff_getElem.mpr ⟨i, by omega, rfl⟩)
  · refine .inr (List.mem_drop_iff_getElem.mpr ⟨i - (k + 1), by omega, ?_⟩)
    congr 1
    omega
theorem others_big {ws : List Int} (hp : Pos ws) (ht : 1 < turnN ws) (k : Nat) : 2 ≤ cnt (wo ws k) := by
  have hpw : ((List.range ws.length).filter fun i => decide (1 < ws.getD i 0)).Pairwise (· < ·) := List.pairwise_lt_range.filter _
  have hmem : ∀ i ∈ (List.range ws.length).filter fun i => decide (1 < ws.getD i 0), i < ws.length ∧ 1 < ws.getD i 0 := fun i hi => by
    obtain ⟨h1, h2⟩ := List.mem_filter.mp hi
    exact ⟨List.mem_range.mp h1, of_decide_eq_true h2⟩
  unfold turnN at ht
  generalize (List.range ws.length).filter (fun i => decide (1 < ws.getD i 0)) = l at ht hpw hmem
  match l, ht, hpw, hmem with
  | a :: b :: r, _, hpw, hmem =>
    have hab : a < b := (List.pairwise_cons.mp hpw).1 b List.mem_cons_self
    have key : ∀ i, i < ws.length → 1 < ws.getD i 0 → i ≠ k → 2 ≤ cnt (wo ws k) := fun i h1 h2 h3 => by
      have := le_cnt (hp.wo k) _ (mem_wo h1 h3)
      omega
    by_cases c : a = k
    · obtain ⟨h1, h2⟩ := hmem b (List.mem_cons_of_mem _ List.mem_cons_self)
      exact key b h1 h2 (by omega)
    · obtain ⟨h1, h2⟩ := hmem a List.mem_cons_self
      exact key a h1 h2 c
/-- wheels of a ring -/
structure Ring (ws : List Int) : Prop where
  pos : Pos ws
  tn : 1 < turnN ws
  ev : cnt ws % 2 = 0
def ringS (ws : List Int) (n : Int) : List Int := ins (setAt (wo ws (evenAt ws)) (rP (ws.getD (evenAt ws) 0) (cnt (wo ws (evenAt ws)) - 1) n)) (evenAt ws) (rH (ws.getD (evenAt ws) 0) (cnt (wo ws (evenAt ws)) - 1) n)
def ringN (ws ss : List Int) : Int := rN (ws.getD (evenAt ws) 0) (cnt (wo ws (evenAt ws)) - 1) (ss.getD (evenAt ws) 0) (numAt (wo ws (evenAt ws)) (wo ss (evenAt ws)))
structure RingF (ws : List Int) (z P : Int) : Prop where
  lt : evenAt ws < ws.length
  z2 : z % 2 = 0
  z0 : 0 < z
  P1 : 1 ≤ P
  c : cnt ws = z + z * P
theorem Ring.facts {ws : List Int} (R : Ring ws) : RingF ws (ws.getD (evenAt ws) 0) (cnt (wo ws (evenAt ws)) - 1) := by
  obtain ⟨_, _, h1, h2⟩ := even_at R.ev
  have b := others_big R.pos R.tn (evenAt ws)
  have m : 1 ≤ ws.getD (evenAt ws) 0 := by
    have e : ws.getD (evenAt ws) 0 = ws[evenAt ws] := by rw [List.getD_eq_getElem?_getD, List.getElem?_eq_getElem h1]; rfl
    rw [e]
    exact R.pos _ (List.getElem_mem h1)
  refine ⟨h1, h2, by omega, by omega, ?_⟩
  rw [cnt_wo h1, Int.mul_sub, Int.mul_one]
  omega
theorem ring_in {ws : List Int} {n : Int} (R : Ring ws) (h0 : 0 ≤ n) (h1 : n < cnt ws) : InS ws (ringS ws n) := by
  have F := R.facts
  obtain ⟨⟨b1, b2⟩, _⟩ := r_bd F.P1 h0 (F.c ▸ h1)
  exact ins_in F.lt (setAt_in _ (R.pos.wo _)) b1 b2
theorem ring_len {ws : List Int} {n : Int} (h : evenAt ws < ws.length) : (ringS ws n).length = ws.length := by
  rw [ringS, len_ins, setAt_len, len_wo h]
theorem ring_num {ws : List Int} {n : Int} (R : Ring ws) (h0 : 0 ≤ n) (h1 : n < cnt ws) : ringN ws (ringS ws n) = n := by
  have F := R.facts
  have hb : n < _ := F.c ▸ h1
  obtain ⟨_, p0, p1⟩ := r_bd F.P1 h0 hb
  have hk : evenAt ws ≤ (setAt (wo ws (evenAt ws)) (rP (ws.getD (evenAt ws) 0) (cnt (wo ws (evenAt ws)) - 1) n)).length := by
    have := len_wo F.lt
    have := F.lt
    rw [setAt_len]
    omega
  rw [ringN, ringS, wo_ins hk, at_ins hk, num_set (R.pos.wo _) p0 (by omega)]
  exact rN_of F.P1 h0 hb
theorem num_ring {ws ss : List Int} (R : Ring ws) (h : InS ws ss) : (0 ≤ ringN ws ss ∧ ringN ws ss < cnt ws) ∧ ringS ws (ringN ws ss) = ss := by
  have F := R.facts
  obtain ⟨a0, a1⟩ := h.at _ F.lt
  obtain ⟨b0, b1⟩ := num_bd (h.wo (evenAt ws))
  obtain ⟨c, e1, e2⟩ := of_rN F.P1 a0 a1 b0 (by omega)
  refine ⟨by rw [F.c]; exact c, ?_⟩
  unfold ringS ringN
  rw [e1, e2, set_num (h.wo _)]
  exact ins_wo (by rw [h.len]; exact F.lt)
theorem ring_step {ws : List Int} {n : Int} (R : Ring ws) (h0 : 0 ≤ n) (h1 : n < cnt ws) : dist (ringS ws n) (ringS ws ((n + 1) % cnt ws)) = 1 := by
  have F := R.facts
  have hb : n < _ := F.c ▸ h1
  have hp := R.pos.wo (evenAt ws)
  have hc := cnt_pos R.pos
  have m0 := Int.emod_nonneg (n + 1) (b := cnt ws) (by omega)
  have m1 := Int.emod_lt_of_pos (n + 1) (b := cnt ws) (by omega)
  obtain ⟨_, p0, p1⟩ := r_bd F.P1 h0 hb
  obtain ⟨_, q0, q1⟩ := r_bd F.P1 m0 (Int.lt_of_lt_of_le m1 (Int.le_of_eq F.c))
  have s := r_step F.P1 F.z0 F.z2 h0 hb
  rw [← F.c] at s
  rw [ringS, ringS, dist_ins (by rw [setAt_len, setAt_len])]
  rcases s with ⟨e1, e2⟩ | ⟨e1, e2 | e2⟩
  · rw [← e1, dist_self, e2]; rfl
  · rw [← e1, iabs_self, e2, set_step hp p0 (by omega)]; rfl
  · rw [← e1, iabs_self, dist_comm, e2, set_step hp q0 (by omega)]; rfl
theorem turnN_filter (ws : List Int) : turnN ws = (ws.filter fun w => decide (1 < w)).length := by
  have e : ws = (List.range ws.length).map fun i => ws.getD i 0 := by
    refine List.ext_getElem (by rw [List.length_map, List.length_range]) fun i h1 h2 => ?_
    rw [List.getElem_map, List.getElem_range, List.getD_eq_getElem?_getD, List.getElem?_eq_getElem h1]
    rfl
  have e2 : (ws.filter fun w => decide (1 < w)).length = (((List.range ws.length).map fun i => ws.getD i 0).filter fun w => decide (1 < w)).length := by rw [← e]
  rw [e2, List.filter_map, List.length_map]
  rfl
theorem turnN_rev (ws : List Int) : turnN ws.reverse = turnN ws := by rw [turnN_filter, turnN_filter, List.filter_reverse, List.length_reverse]
/-! ### what a value is -/
inductive Kd where
  | int (i : Int) | bool | list | str | tup | rest
  deriving DecidableEq
def Kd.isInt : Kd → Bool
  | .int _ => true
  | .bool => true
  | _ => false
def Kd.isBool : Kd → Bool
  | .bool => true
  | _ => false
def Kd.isList : Kd → Bool
  | .list => true
  | _ => false
def Kd.isStr : Kd → Bool
  | .str => true
  | _ => false
def Kd.isTup : Kd → Bool
  | .tup => true
  | _ => false
def Kd.whole : Kd → Bool
  | .int _ => true
  | _ => false
inductive Thg (K : PySem.W.Frag) (H : Hp) : V → Kd → Prop where
  | int (i : Int) : Thg K H (.int i) (.int i)
  | bl (b : Bool) : Thg K H (.bl b) .bool
  | non : Thg K H .non .rest
  | str (x : Str) : Thg K H (.str x) .str
  | lst {a : Addr} {xs : List V} (h : SqL K H a xs) : Thg K H (.ref a) .list
  | tup {a : Addr} {xs : List V} (h : H a = some (.tup xs)) : Thg K H (.ref a) .tup
  | dct {a : Addr} {kvs : List (Key × V)} (h : H a = some (.dK kvs)) : Thg K H (.ref a) .rest
section
variable {K : PySem.W.Frag} {H H' : Hp} {v : V} {kd : Kd} {a : Addr} {xs : List V}
theorem Thg.mono (e : Ex H H') (h : Thg K H v kd) : Thg K H' v kd := by
  cases h with
  | int i => exact .int i
  | bl b => exact .bl b
  | non => exact .non
  | str x => exact .str x
  | lst h => exact .lst (ex_l e h)
  | tup h => exact .tup (e _ _ h)
  | dct h => exact .dct (e _ _ h)
abbrev Thgs (K : PySem.W.Frag) (H : Hp) (vs : List V) (ks : List Kd) : Prop := Paired (Thg K H) vs ks
theorem Thgs.mono (e : Ex H H') {vs : List V} {ks : List Kd} (h : Thgs K H vs ks) : Thgs K H' vs ks := Paired.mapP h fun _ _ => Thg.mono e
theorem Thgs.ints : ∀ (ns : List Int), Thgs K H (ns.map V.int) (ns.map Kd.int)
  | [] => .nil
  | n :: ns => .cons (.int n) (Thgs.ints ns)
theorem Thgs.get : ∀ {vs : List V} {ks : List Kd} {i : Nat} {x : V}, Thgs K H vs ks → vs[i]? = some x → ∃ k, ks[i]? = some k ∧ Thg K H x k
  | _, _, _, _, .nil, e => by simp at e
  | _, _, 0, _, .cons r _, e => by simp at e; subst e; exact ⟨_, rfl, r⟩
  | _, _, i + 1, x, .cons _ t, e => by
    obtain ⟨u, h1, h2⟩ := Thgs.get (i := i) (x := x) t (by simpa using e)
    exact ⟨u, by simpa using h1, h2⟩
theorem Thgs.len {vs : List V} {ks : List Kd} (h : Thgs K H vs ks) : vs.length = ks.length := Paired.length h
theorem ty_list (h : SqL K H a xs) : TyX K H (.ref a) (.type "list") := by
  rcases h with (h | ⟨o, h⟩) | ⟨o, its, n, hk, hc, _⟩
  · exact .base (.lst h)
  · exact .base (.frz h)
  · exact .kList hk hc
def Kd.names : Kd → V → String
  | .int _, _ => "int"
  | .bool, _ => "bool"
  | .list, _ => "list"
  | .str, _ => "str"
  | .tup, _ => "tuple"
  | .rest, .non => "NoneType"
  | .rest, _ => "dict"
theorem Thg.ty (h : Thg K H v kd) : TyX K H v (.type (kd.names v)) := by
  cases h with
  | int i => exact .base (.int i)
  | bl b => exact .base (.bl b)
  | non => exact .base .non
  | str x => exact .base (.str x)
  | lst h => exact ty_list h
  | tup h => exact .base (.tup h)
  | dct h => exact .base (.dK h)
theorem kd_int (h : Thg K H v kd) : PySem.W.kitOne K (.type (kd.names v)) (.type "int") = some kd.isInt := by
  cases h with
  | int _ => exact kit_ty (a := "int") (b := "int") (r := true) (by decide +kernel)
  | bl _ => exact kit_ty (a := "bool") (b := "int") (r := true) (by decide +kernel)
  | non => exact kit_ty (a := "NoneType") (b := "int") (r := false) (by decide +kernel)
  | str _ => exact kit_ty (a := "str") (b := "int") (r := false) (by decide +kernel)
  | lst _ => exact kit_ty (a := "list") (b := "int") (r := false) (by decide +kernel)
  | tup _ => exact kit_ty (a := "tuple") (b := "int") (r := false) (by decide +kernel)
  | dct _ => exact kit_ty (a := "dict") (b := "int") (r := false) (by decide +kernel)
theorem kd_bool (h : Thg K H v kd) : PySem.W.kitOne K (.type (kd.names v)) (.type "bool") = some kd.isBool := by
  cases h with
  | int _ => exact kit_ty (a := "int") (b := "bool") (r := false) (by decide +kernel)
  | bl _ => exact kit_ty (a := "bool") (b := "bool") (r := true) (by decide +kernel)
  | non => exact kit_ty (a := "NoneType") (b := "bool") (r := false) (by decide +kernel)
  | str _ => exact kit_ty (a := "str") (b := "bool") (r := false) (by decide +kernel)
  | lst _ => exact kit_ty (a := "list") (b := "bool") (r := false) (by decide +kernel)
  | tup _ => exact kit_ty (a := "tuple") (b := "bool") (r := false) (by decide +kernel)
  | dct _ => exact kit_ty (a := "dict") (b := "bool") (r := false) (by decide +kernel)
theorem kd_list (h : Thg K H v kd) : PySem.W.kitOne K (.type (kd.names v)) (.type "list") = some kd.isList := by
  cases h with
  | int _ => exact kit_ty (a := "int") (b := "list") (r := false) (by decide +kernel)
  | bl _ => exact kit_ty (a := "bool") (b := "list") (r := false) (by decide +kernel)
  | non => exact kit_ty (a := "NoneType") (b := "list") (r := false) (by decide +kernel)
  | str _ => exact kit_ty (a := "str") (b := "list") (r := false) (by decide +kernel)
  | lst _ => exact kit_ty (a := "list") (b := "list") (r := true) (by decide +kernel)
  | tup _ => exact kit_ty (a := "tuple") (b := "list") (r := false) (by decide +kernel)
  | dct _ => exact kit_ty (a := "dict") (b := "list") (r := false) (by decide +kernel)
theorem kd_str (h : Thg K H v kd) : PySem.W.kitOne K (.type (kd.names v)) (.type "str") = some kd.isStr := by
  cases h with
  | int _ => exact kit_ty (a := "int") (b := "str") (r := false) (by decide +kernel)
  | bl _ => exact kit_ty (a := "bool") (b := "str") (r := false) (by decide +kernel)
  | non => exact kit_ty (a := "NoneType") (b := "str") (r := false) (by decide +kernel)
  | str _ => exact kit_ty (a := "str") (b := "str") (r := true) (by decide +kernel)
  | lst _ => exact kit_ty (a := "list") (b := "str") (r := false) (by decide +kernel)
  | tup _ => exact kit_ty (a := "tuple") (b := "str") (r := false) (by decide +kernel)
  | dct _ => exact kit_ty (a := "dict") (b := "str") (r := false) (by decide +kernel)
theorem kd_tup (h : Thg K H v kd) : PySem.W.kitOne K (.type (kd.names v)) (.type "tuple") = some kd.isTup := by
  cases h with
  | int _ => exact kit_ty (a := "int") (b := "tuple") (r := false) (by decide +kernel)
  | bl _ => exact kit_ty (a := "bool") (b := "tuple") (r := false) (by decide +kernel)
  | non => exact kit_ty (a := "NoneType") (b := "tuple") (r := false) (by decide +kernel)
  | str _ => exact kit_ty (a := "str") (b := "tuple") (r := false) (by decide +kernel)
  | lst _ => exact kit_ty (a := "list") (b := "tuple") (r := false) (by decide +kernel)
  | tup _ => exact kit_ty (a := "tuple") (b := "tuple") (r := true) (by decide +kernel)
  | dct _ => exact kit_ty (a := "dict") (b := "tuple") (r := false) (by decide +kernel)
theorem rc_isi {c : String} {b : Bool} (h : Thg K H v kd) (hk : ∀ H1, Thg K H1 v kd → PySem.W.kitOne K (.type (kd.names v)) (.type c) = some b) : RC (rIsi K) [v, .ty c] H (.bl b) :=
  fun H1 e _ q => ⟨v, .ty c, _, _, b, rfl, .ty c, (h.mono e).ty, hk H1 (h.mono e), q H1 (Ex.refl H1)⟩
end
/-! ### more of what evaluates to what -/
section
variable {K : PySem.W.Frag} {σ : L2.St} {H H' : Hp} {ta tb te tx : TE} {t u : TT} {x y z v : V} {r : R2} {D : Ends} {tu tw tz : TS} {g : TG}
/-- a call of one argument, a new list -/
theorem ev_cbN {r : List V → Hp → VK → Prop} {xs : List V} (h : EvL te σ H xs) (hr : ∀ p H1, H1 p = some (.lst xs) → Ex H H1 → RC r [.ref p] H1 z) : Ev (tCB r (tCons te tNil)) σ H z := fun H1 e Q q =>
  h H1 e _ fun p H2 _ e2 hp => hr p H2 hp (e.trans e2) H2 (Ex.refl H2) Q fun H3 e3 => q H3 (e2.trans e3)
theorem rc_all {p : Addr} {bs : List Bool} (h : SqL K H p (bs.map V.bl)) : RC (rAll K) [.ref p] H (.bl (bs.all id)) := fun H1 e _ q => ⟨p, bs, rfl, ex_l e h, q H1 (Ex.refl H1)⟩
theorem rc_any {p : Addr} {bs : List Bool} (h : SqL K H p (bs.map V.bl)) : RC (rAny K) [.ref p] H (.bl (bs.any id)) := fun H1 e _ q => ⟨p, bs, rfl, ex_l e h, q H1 (Ex.refl H1)⟩
theorem rc_sum {p : Addr} {ns : List Int} (h : SqL K H p (ns.map V.int)) : RC (rSum K) [.ref p] H (.int ns.sum) := fun H1 e _ q => ⟨p, ns, rfl, ex_l e h, q H1 (Ex.refl H1)⟩
theorem ev_allN {bs : List Bool} (h : EvL te σ H (bs.map V.bl)) : Ev (tCB (rAll K) (tCons te tNil)) σ H (.bl (bs.all id)) := ev_cbN h fun _ _ hp _ => rc_all (sq_of hp)
theorem ev_anyN {bs : List Bool} (h : EvL te σ H (bs.map V.bl)) : Ev (tCB (rAny K) (tCons te tNil)) σ H (.bl (bs.any id)) := ev_cbN h fun _ _ hp _ => rc_any (sq_of hp)
theorem ev_sumN {ns : List Int} (h : EvL te σ H (ns.map V.int)) : Ev (tCB (rSum K) (tCons te tNil)) σ H (.int ns.sum) := ev_cbN h fun _ _ hp _ => rc_sum (sq_of hp)
theorem ev_abs {i : Int} (h : Ev te σ H (.int i)) : Ev (tCB (fun xs H Q => ∃ i, xs = [.int i] ∧ Q (.int (if i < 0 then -i else i)) H) (tCons te tNil)) σ H (.int (iabs i)) :=
  ev_cb (ea_cons h ea_nil) fun H1 _ _ q => ⟨i, rfl, q H1 (Ex.refl H1)⟩
theorem range_map_getD (ys : List V) (i : Nat) : ((List.range ys.length).map fun i => ys.getD i .non)[i]? = ys[i]? := by
  rw [List.getElem?_map]
  by_cases hi : i < ys.length
  · rw [List.getElem?_eq_getElem hi, List.getElem?_range hi, Option.map_some, List.getD_eq_getElem?_getD, List.getElem?_eq_getElem hi]
    rfl
  · rw [List.getElem?_eq_none (by rw [List.length_range]; omega), List.getElem?_eq_none (by omega)]
    rfl
/-- a comprehension over a list without a test: the items ys one for one -/
theorem el_list {a : Addr} {xs ys : List V} {tl : TE} {j : Nat} {vs : List Nat} (hl : ys.length = xs.length) (h : Ev tl σ H (.ref a)) (hx : SqL K H a xs) (hz : xs.length ≤ 40000) (hw : ∀ x, wipe ((wipe σ vs).set j (some x)) vs = wipe σ vs)
    (he : ∀ (i : Nat) (x y : V) H1, Ex H H1 → xs[i]? = some x → ys[i]? = some y → Ev te ((wipe σ vs).set j (some x)) H1 y) :
    EvL (tLc (iList K tl) (gName j) tYes te vs) σ H ys := by
  have e : given xs.length (fun _ => true) (fun i => ys.getD i .non) = ys := by
    unfold given
    rw [List.filter_eq_self.mpr (fun _ _ => rfl), ← hl]
    apply List.ext_getElem?
    intro i
    exact range_map_getD ys i
  rw [← e]
  refine el_lcL (fun _ => true) (fun i => ys.getD i .non) h hx hz hw (fun i x H1 _ _ => fun H2 _ _ q => q H2 (Ex.refl H2)) fun i x H1 e1 hi _ => ?_
  have hi' : i < ys.length := by
    have := (List.getElem?_eq_some_iff.mp hi).1
    omega
  have hy : ys[i]? = some (ys.getD i .non) := by
    rw [List.getD_eq_getElem?_getD, List.getElem?_eq_getElem hi']
    rfl
  exact he i x _ H1 e1 hi hy
theorem el_range {ta : TA} {ys : List V} {n : Nat} {j : Nat} {vs : List Nat} (hl : ys.length = n) (h : EvA ta σ H [.int (n : Int)]) (hz : n ≤ 40000) (hw : ∀ x, wipe ((wipe σ vs).set j (some x)) vs = wipe σ vs)
    (he : ∀ (i : Nat) (y : V) H1, Ex H H1 → i < n → ys[i]? = some y → Ev te ((wipe σ vs).set j (some (.int (i : Int)))) H1 y) :
    EvL (tLc (iRng1 ta) (gName j) tYes te vs) σ H ys := by
  have e : given (n : Int).toNat (fun _ => true) (fun i => ys.getD i .non) = ys := by
    unfold given
    rw [List.filter_eq_self.mpr (fun _ _ => rfl), Int.toNat_natCast, ← hl]
    apply List.ext_getElem?
    intro i
    exact range_map_getD ys i
  rw [← e]
  refine el_lcR1 (fun _ => true) (fun i => ys.getD i .non) h (by omega) hw (fun i H1 _ _ => fun H2 _ _ q => q H2 (Ex.refl H2)) fun i H1 e1 hi _ => ?_
  have hi' : i < ys.length := by omega
  have hy : ys[i]? = some (ys.getD i .non) := by
    rw [List.getD_eq_getElem?_getD, List.getElem?_eq_getElem hi']
    rfl
  exact he i _ H1 e1 (by omega) hy
/-! ### loops -/
/-- for j, k in enumerate(xs) -/
theorem s_forE {a : Addr} {xs : List V} {ta : TA} {j k : Nat} (h : EvA ta σ H [.ref a]) (hx : SqL K H a xs) (Pv : Nat → L2.St → Hp → Prop) (h0 : ∀ H1, Ex H H1 → Pv 0 σ H1) (hl : ∀ i σ' H', i ≤ xs.length → Pv i σ' H' → SqL K H' a xs)
    (hs : ∀ i x σ' H' H'', xs[i]? = some x → Pv i σ' H' → Ex H' H'' → tu { D with nx := Pv (i + 1), ct := Pv (i + 1), bk := D.nx } ((σ'.set j (some (.int (i : Int)))).set k (some x)) H'') (hd : ∀ σ' H', Pv xs.length σ' H' → D.nx σ' H') :
    tFor (iEnum K ta) (gTup K 2 (gCons (gName j) (gCons (gName k) gNil))) tu D σ H := by
  refine h H (Ex.refl H) _ fun H1 e => ⟨a, xs, rfl, ex_l e hx, fun i m σ' H' => i + m = xs.length ∧ Pv i σ' H', ⟨xs.length, by omega, h0 H1 e⟩, fun i m σ' H' hW => ?_⟩
  obtain ⟨em, hp⟩ := hW
  have hS := hl i σ' H' (by omega) hp
  by_cases hi : i < xs.length
  · have hxi : xs[i]? = some xs[i] := List.getElem?_eq_getElem hi
    refine .inr ⟨⟨xs, xs[i], hS, hxi⟩, Pv (i + 1), fun σ2 H2 p => ⟨m - 1, by omega, by omega, p⟩, fun v H2 hy => ?_⟩
    obtain ⟨T, x, rfl, nT, rfl, f⟩ := hy
    have ex : x = xs[i] := Option.some.inj ((f _ hS).symm.trans hxi)
    subst ex
    exact ⟨T, [.int (i : Nat), xs[i]], rfl, .inl (.inl upd_same), rfl, _, _, rfl, _, [], rfl, rfl, hs i _ σ' H' _ hxi hp (Ex.new nT)⟩
  · have ei : i = xs.length := by omega
    subst ei
    exact .inl ⟨⟨xs, hS, Nat.le_refl _⟩, hd σ' H' hp⟩
theorem q_forE {a : Addr} {xs : List V} {ta : TA} {j k : Nat} (h : EvA ta σ H [.ref a]) (hx : SqL K H a xs) (Pv : Nat → L2.St → Hp → Prop) (h0 : ∀ H1, Ex H H1 → Pv 0 σ H1) (hl : ∀ i σ' H', i ≤ xs.length → Pv i σ' H' → SqL K H' a xs)
    (hs : ∀ i x σ' H' H'', xs[i]? = some x → Pv i σ' H' → Ex H' H'' → tu { D with nx := Pv (i + 1), ct := Pv (i + 1), bk := tz D } ((σ'.set j (some (.int (i : Int)))).set k (some x)) H'') (hd : ∀ σ' H', Pv xs.length σ' H' → tz D σ' H') :
    tSeq (tFor (iEnum K ta) (gTup K 2 (gCons (gName j) (gCons (gName k) gNil))) tu) tz D σ H := s_forE (D := { D with nx := tz D }) h hx Pv h0 hl hs hd
/-- for j in reversed(range(n)) -/
theorem q_forV {n : Nat} {j : Nat} (h : Ev te σ H (.int (n : Int))) (hn : n ≤ 100000) (Pv : Nat → L2.St → Hp → Prop) (h0 : ∀ H1, Ex H H1 → Pv 0 σ H1)
    (hs : ∀ i σ' H', i < n → Pv i σ' H' → tu { D with nx := Pv (i + 1), ct := Pv (i + 1), bk := tz D } (σ'.set j (some (.int ((n - 1 - i : Nat) : Int)))) H') (hd : ∀ σ' H', Pv n σ' H' → tz D σ' H') :
    tSeq (tFor (iRevR (tRg1 te)) (gName j) tu) tz D σ H := by
  refine h H (Ex.refl H) _ fun H1 e => ⟨(n : Int), rfl, by omega, by omega, by omega, by omega, ?_⟩
  have en : ((n : Int) - 0).toNat = n := by omega
  have ex := for_rangeC (lo := (0 : Int) + ((((n : Int) - 0).toNat : Nat) : Int) - 1) (c := -1) (n := ((n : Int) - 0).toNat) (g := gName j) (tb := tu) (D := { D with nx := tz D }) (σ := σ) (H := H1) Pv (h0 H1 e) (fun i σ' H' hi p => ?_) (fun σ' H' p => hd σ' H' (by rw [en] at p; exact p))
  · exact ex
  · have ei : (0 : Int) + ((((n : Int) - 0).toNat : Nat) : Int) - 1 + ((i : Nat) : Int) * -1 = ((n - 1 - i : Nat) : Int) := by omega
    show tu _ (σ'.set j (some (.int ((0 : Int) + ((((n : Int) - 0).toNat : Nat) : Int) - 1 + ((i : Nat) : Int) * -1)))) H'
    rw [ei]
    exact hs i σ' H' (by omega) p
/-- i, j = divmod(a, b) -/
theorem q_divmod {ta : TA} {a b : Int} {i j : Nat} (h : EvA ta σ H [.int a, .int b]) (hc : CDivP a b) (k : ∀ H1, Ex H H1 → tz D ((σ.set i (some (.int (a / b)))).set j (some (.int (a % b)))) H1) :
    tSeq (tAsg (tCB (fun xs H Q => ∃ i j, xs = [.int i, .int j] ∧ CDivP i j ∧ ∀ p, H p = none → Q (.ref p) (upd H p (.tup [.int (i / j), .int (i % j)]))) ta) (gTup K 2 (gCons (gName i) (gCons (gName j) gNil)))) tz D σ H :=
  h H (Ex.refl H) _ fun H1 e => ⟨a, b, rfl, hc, fun p hp => ⟨p, _, rfl, .inl (.inl upd_same), rfl, _, _, rfl, _, [], rfl, rfl, k _ (e.trans (Ex.new hp))⟩⟩
/-- a call as a statement, whatever the promise -/
theorem q_call {ta : TA} {vs : List V} {sp : Sp} {E : XK} (h : EvA ta σ H vs) (k : ∀ H1, Ex H H1 → sp vs H1 (fun _ H2 => tz D σ H2) E) : tSeq (tDrop (tCall sp [] E ta)) tz D σ H :=
  h H (Ex.refl H) _ fun H1 e => by
    have := k H1 e
    rw [← List.append_nil vs] at this
    exact this
/-- return f(..), whatever the promise -/
theorem s_retC {ta : TA} {vs : List V} {sp : Sp} {E : XK} (h : EvA ta σ H vs) (k : ∀ H1, Ex H H1 → sp vs H1 D.rt E) : tRet (tCall sp [] E ta) D σ H :=
  h H (Ex.refl H) _ fun H1 e => by
    have := k H1 e
    rw [← List.append_nil vs] at this
    exact this
/-- an exception of the class at C -/
def RetX (C : Addr) (H : Hp) (E : XK) : Prop := ∀ H1, Ex H H1 → E (.ref C) none H1
theorem RetX.go {C : Addr} {E : XK} (k : RetX C H E) (e : Ex H H') : RetX C H' E := fun H1 e1 => k H1 (e.trans e1)
theorem RetV.mono {Q : VK} (k : RetV v H Q) (e : Ex H H') : RetV v H' Q := fun H1 e1 => k H1 (e.trans e1)
theorem RetL.mono {Q : VK} {xs : List V} (k : RetL xs H Q) (e : Ex H H') : RetL xs H' Q := fun p H2 hp e1 h => k p H2 (fresh_back e hp) (e.trans e1) h
end
section
variable {K : PySem.W.Frag} {σ : L2.St} {H H' : Hp} {ta tb tc te tx : TE} {t u : TT} {x y z v : V} {r r' : R2} {D : Ends} {tu tw tz : TS} {g : TG} {p : Addr} {ns : List Int} {xs : List V}
theorem rv_eqI {i j : Int} : RV rEq (.int i) (.int j) H (.bl (decide (i = j))) := fun H1 _ _ q => ⟨rfl, by
  rw [show decide (V.int i = V.int j) = decide (i = j) by rw [dec_int]; rfl]
  exact q H1 (Ex.refl H1)⟩
theorem rv_neI {i j : Int} : RV rNe (.int i) (.int j) H (.bl (!decide (i = j))) := fun H1 _ _ q => ⟨rfl, by
  rw [show decide (V.int i = V.int j) = decide (i = j) by rw [dec_int]; rfl]
  exact q H1 (Ex.refl H1)⟩
theorem rv_eqS {i j : Str} : RV rEq (.str i) (.str j) H (.bl (decide (i = j))) := fun H1 _ _ q => ⟨rfl, by
  rw [show decide (V.str i = V.str j) = decide (i = j) from by
    by_cases h : i = j
    · rw [h, decide_eq_true rfl, decide_eq_true rfl]
    · rw [decide_eq_false h, decide_eq_false (fun e => h (V.str.inj e))]]
  exact q H1 (Ex.refl H1)⟩
theorem rv_neS {i j : Str} : RV rNe (.str i) (.str j) H (.bl (!decide (i = j))) := fun H1 _ _ q => ⟨rfl, by
  rw [show decide (V.str i = V.str j) = decide (i = j) from by
    by_cases h : i = j
    · rw [h, decide_eq_true rfl, decide_eq_true rfl]
    · rw [decide_eq_false h, decide_eq_false (fun e => h (V.str.inj e))]]
  exact q H1 (Ex.refl H1)⟩
theorem rv_eqB {i j : Bool} : RV rEq (.bl i) (.bl j) H (.bl (decide (i = j))) := fun H1 _ _ q => ⟨rfl, by
  rw [show decide (V.bl i = V.bl j) = decide (i = j) from by cases i <;> cases j <;> rfl]
  exact q H1 (Ex.refl H1)⟩
theorem rc_len {n : Nat} (h : SqL K H p xs) (e : xs.length = n) : RC (fun xs H Q => ∃ p ys, xs = [.ref p] ∧ (SqL K H p ys ∨ SqT K H p ys) ∧ Q (.int ys.length) H) [.ref p] H (.int n) := fun H1 ex _ q => ⟨p, xs, rfl, .inl (ex_l ex h), by
  rw [e]
  exact q H1 (Ex.refl H1)⟩
theorem len_map (ns : List Int) : (ns.map V.int).length = ns.length := List.length_map ..
theorem ev_lenI (ha : Ev ta σ H (.ref p)) (h : SqL K H p (ns.map V.int)) : Ev (tCB (fun xs H Q => ∃ p ys, xs = [.ref p] ∧ (SqL K H p ys ∨ SqT K H p ys) ∧ Q (.int ys.length) H) (tCons ta tNil)) σ H (.int (ns.length : Int)) :=
  ev_cb (ea_cons ha ea_nil) (rc_len h (len_map ns))
theorem ev_lenL (ha : Ev ta σ H (.ref p)) (h : SqL K H p xs) : Ev (tCB (fun xs H Q => ∃ p ys, xs = [.ref p] ∧ (SqL K H p ys ∨ SqT K H p ys) ∧ Q (.int ys.length) H) (tCons ta tNil)) σ H (.int (xs.length : Int)) :=
  ev_cb (ea_cons ha ea_nil) (rc_len h rfl)
theorem at_int {k : Nat} (h : k < ns.length) : atI (ns.map V.int) (k : Int) = some (.int (ns.getD k 0)) := atI_nat (by
  rw [List.getElem?_map, List.getElem?_eq_getElem h, Option.map_some, List.getD_eq_getElem?_getD, List.getElem?_eq_getElem h]
  rfl)
theorem at_intZ {k : Int} (h0 : 0 ≤ k) (h : k < ns.length) : atI (ns.map V.int) k = some (.int (ns.getD k.toNat 0)) := by
  have e : k = ((k.toNat : Nat) : Int) := by omega
  have := at_int (ns := ns) (k := k.toNat) (by omega)
  rw [← e] at this
  exact this
theorem rv_ixI {k : Nat} (h : SqL K H p (ns.map V.int)) (hk : k < ns.length) : RV (rIxL K) (.ref p) (.int (k : Int)) H (.int (ns.getD k 0)) := rv_ixL h (at_int hk)
theorem rv_ixZ {k : Int} (h : SqL K H p (ns.map V.int)) (h0 : 0 ≤ k) (hk : k < ns.length) : RV (rIxL K) (.ref p) (.int k) H (.int (ns.getD k.toNat 0)) := rv_ixL h (at_intZ h0 hk)
/-- a op1 b op2 c of whole numbers -/
theorem ev_chainI {f f' : Int → Int → Bool} {a b c : Int} (ha : Ev ta σ H (.int a)) (hb : Ev tb σ H (.int b)) (hc : f a b = true → Ev tc σ H (.int c)) :
    Ev (tChain (rI0 fun i j => .bl (f i j)) (rI0 fun i j => .bl (f' i j)) ta tb tc) σ H (.bl (f a b && f' b c)) := fun H1 e Q q =>
  ha H1 e _ fun H2 e2 => hb H2 (e.trans e2) _ fun H3 e3 => ⟨a, b, rfl, rfl, f a b, rfl, by
    cases hf : f a b with
    | true =>
      show tc σ H3 _
      refine hc hf H3 ((e.trans e2).trans e3) _ fun H4 e4 => ⟨b, c, rfl, rfl, ?_⟩
      have := q H4 ((e2.trans e3).trans e4)
      rw [hf] at this
      exact this
    | false =>
      show Q (.bl false) H3
      have := q H3 (e2.trans e3)
      rw [hf] at this
      exact this⟩
theorem ev_to {w : V} (h : Ev te σ H v) (e : v = w) : Ev te σ H w := e ▸ h
/-- a new tuple's item -/
theorem ev_ixU {xs : List V} {i : Int} (ha : EvU ta σ H xs) (hb : ∀ H1, Ex H H1 → Ev tb σ H1 (.int i)) (hr : atI xs i = some v) : Ev (tOp (rIxT K) ta tb) σ H v := fun H1 e Q q =>
  ha H1 e _ fun p H2 _ e2 hp => hb H2 (e.trans e2) H2 (Ex.refl H2) _ fun H3 e3 => ⟨p, xs, i, v, rfl, rfl, st_of (e3 p _ hp), hr, q H3 (e2.trans e3)⟩
theorem et_tt {b b' : Bool} (h : EvT t σ H b) (e : b = b') : EvT t σ H b' := e ▸ h
theorem rv_ixTZ {k : Int} (h : SqT K H p (ns.map V.int)) (h0 : 0 ≤ k) (hk : k < ns.length) : RV (rIxT K) (.ref p) (.int k) H (.int (ns.getD k.toNat 0)) := rv_ixT h (at_intZ h0 hk)
theorem set_same {i : Nat} {v : V} (h : σ[i]? = some (some v)) : σ.set i (some v) = σ := by
  apply List.ext_getElem?
  intro j
  by_cases hj : i = j
  · subst hj
    rw [List.getElem?_set_self (List.getElem?_eq_some_iff.mp h).1, h]
  · rw [List.getElem?_set_ne hj]
/-- if c: x = e, of whole numbers -/
theorem q_ifI {i : Nat} {c : Prop} [Decidable c] {e0 e1 : Int} (h : EvT t σ H (decide c)) (hs : σ[i]? = some (some (.int e0))) (h1 : c → Ev te σ H (.int e1)) (k : ∀ H1, Ex H H1 → tz D (σ.set i (some (.int (if c then e1 else e0)))) H1) :
    tSeq (tIfS t (tAsg te (gName i)) tNext) tz D σ H :=
  q_ifAsg h (fun hb => by rw [if_pos (of_decide_eq_true hb)]; exact h1 (of_decide_eq_true hb)) (fun hb => by rw [if_neg (of_decide_eq_false hb)]; exact set_same hs) k
theorem dec_and {a b : Prop} [Decidable a] [Decidable b] : (decide a && decide b) = decide (a ∧ b) := by
  by_cases ha : a <;> by_cases hb : b <;> simp [ha, hb]
theorem dec_or {a b : Prop} [Decidable a] [Decidable b] : (decide a || decide b) = decide (a ∨ b) := by
  by_cases ha : a <;> by_cases hb : b <;> simp [ha, hb]
theorem dec_not {a : Prop} [Decidable a] : (!decide a) = decide (¬ a) := by
  by_cases ha : a <;> simp [ha]
theorem range_map_len (f : Nat → Int) (i : Nat) : (((List.range i).map f).map V.int).length = i := by rw [List.length_map, List.length_map, List.length_range]
theorem range_map_succ (f : Nat → Int) (i : Nat) : ((List.range (i + 1)).map f).map V.int = ((List.range i).map f).map V.int ++ [.int (f i)] := by
  rw [List.range_succ, List.map_append, List.map_append]
  rfl
theorem cut_to (xs : List V) (k : Nat) : cutV xs none (some (k : Int)) = xs.take k := by
  unfold cutV
  rw [HT.sIx_none, HT.sIx_nat]
  show (xs.drop 0).take (min k xs.length - 0) = xs.take k
  rw [List.drop_zero, Nat.sub_zero, ← List.take_take, List.take_length]
theorem cut_from (xs : List V) (k : Nat) : cutV xs (some (k : Int)) none = xs.drop k := by
  unfold cutV
  rw [HT.sIx_none, HT.sIx_nat]
  by_cases h : k ≤ xs.length
  · rw [Nat.min_eq_left h, List.take_of_length_le (by rw [List.length_drop]; exact Nat.le_refl _)]
  · rw [Nat.min_eq_right (by omega), Nat.sub_self, List.take_zero, List.drop_of_length_le (by omega)]
theorem cut_butlast (xs : List V) : cutV xs none (some (-1)) = xs.take (xs.length - 1) := by
  unfold cutV
  rw [HT.sIx_none]
  have e : HT.sIx xs.length xs.length (some (-1)) = xs.length - 1 := by
    unfold HT.sIx
    simp only
    rw [if_pos (by decide)]
    omega
  rw [e, List.drop_zero, Nat.sub_zero]
end
/-! ### data: lists of whole numbers, lists of such lists -/
abbrev dI (ns : List Int) : PyData := .list (ns.map PyData.int)
theorem eqv_int (i j : Int) : PyData.eqv (.int i) (.int j) = (i == j) := by simp only [PyData.eqv]
theorem eqvAll_ints : ∀ ns ms : List Int, PyData.eqvAll (ns.map PyData.int) (ms.map PyData.int) = decide (ns = ms)
  | [], [] => by simp [PyData.eqvAll]
  | [], _ :: _ => by simp [PyData.eqvAll]
  | _ :: _, [] => by simp [PyData.eqvAll]
  | n :: ns, m :: ms => by
    rw [List.map_cons, List.map_cons, PyData.eqvAll, eqv_int, eqvAll_ints ns ms]
    by_cases h : n = m
    · subst h
      simp
    · simp [h]
theorem eqv_dI (ns ms : List Int) : PyData.eqv (dI ns) (dI ms) = decide (ns = ms) := by
  show PyData.eqv (.list _) (.list _) = _
  rw [PyData.eqv, eqvAll_ints]
theorem eqvAll_lists : ∀ as bs : List (List Int), PyData.eqvAll (as.map dI) (bs.map dI) = decide (as = bs)
  | [], [] => by simp [PyData.eqvAll]
  | [], _ :: _ => by simp [PyData.eqvAll]
  | _ :: _, [] => by simp [PyData.eqvAll]
  | n :: ns, m :: ms => by
    rw [List.map_cons, List.map_cons, PyData.eqvAll, eqv_dI, eqvAll_lists ns ms]
    by_cases h : n = m
    · subst h
      simp
    · simp [h]
theorem eqv_dLL (as bs : List (List Int)) : PyData.eqv (.list (as.map dI)) (.list (bs.map dI)) = decide (as = bs) := by rw [PyData.eqv, eqvAll_lists]
theorem can_ints : ∀ ns : List Int, PyData.canLayAll0 (ns.map PyData.int) = true
  | [] => by simp [PyData.canLayAll0]
  | n :: ns => by
    rw [List.map_cons, PyData.canLayAll0, can_ints ns]
    simp [PyData.canLay0]
theorem can_dI (ns : List Int) : PyData.canLay0 (dI ns) = true := by
  show PyData.canLay0 (.list _) = true
  rw [PyData.canLay0]
  exact can_ints ns
theorem can_lists : ∀ as : List (List Int), PyData.canLayAll0 (as.map dI) = true
  | [] => by simp [PyData.canLayAll0]
  | n :: ns => by
    rw [List.map_cons, PyData.canLayAll0, can_lists ns, can_dI]
    rfl
theorem depth_ints : ∀ ns : List Int, PyData.depthAll (ns.map PyData.int) = 0
  | [] => by simp [PyData.depthAll]
  | n :: ns => by
    rw [List.map_cons, PyData.depthAll, depth_ints ns]
    simp [PyData.depth]
theorem depth_dI (ns : List Int) : PyData.depth (dI ns) = 1 := by
  show PyData.depth (.list _) = 1
  rw [PyData.depth, depth_ints]
theorem depth_lists : ∀ as : List (List Int), PyData.depthAll (as.map dI) ≤ 1
  | [] => by simp [PyData.depthAll]
  | n :: ns => by
    rw [List.map_cons, PyData.depthAll, depth_dI]
    have := depth_lists ns
    omega
theorem shaped_dI (ns : List Int) : SeqAt.shaped (dI ns) = true := by
  unfold SeqAt.shaped
  rw [can_dI, depth_dI]
  rfl
theorem shaped_dLL (as : List (List Int)) : SeqAt.shaped (.list (as.map dI)) = true := by
  unfold SeqAt.shaped
  rw [PyData.canLay0, can_lists, PyData.depth, decide_eq_true (by have := depth_lists as; omega)]
  rfl
section
variable {K : PySem.W.Frag} {σ : L2.St} {H H' : Hp} {ta tb tc te tx : TE} {t u : TT} {x y z v : V} {r r' : R2} {D : Ends} {tu tw tz : TS} {g : TG} {p q : Addr} {ns ms : List Int} {xs ys : List V}
theorem dpAll_ints : ∀ ns : List Int, DpAll K H (ns.map V.int) (ns.map PyData.int)
  | [] => .nil
  | n :: ns => .cons (.int n) (dpAll_ints ns)
theorem dp_ints (h : SqL K H p (ns.map V.int)) : Dp K H (.ref p) (dI ns) := .lst h (dpAll_ints ns)
/-- the lists of whole numbers nss stand one by one at the items xs -/
def Rows (K : PySem.W.Frag) (H : Hp) (xs : List V) (nss : List (List Int)) : Prop := Paired (fun v ns => ∃ a, v = V.ref a ∧ SqL K H a (ns.map V.int)) xs nss
theorem Rows.mono (e : Ex H H') {nss : List (List Int)} (h : Rows K H xs nss) : Rows K H' xs nss := Paired.mapP h fun _ _ ⟨a, e1, h1⟩ => ⟨a, e1, ex_l e h1⟩
theorem Rows.dp {nss : List (List Int)} (h : Rows K H xs nss) : DpAll K H xs (nss.map dI) := by
  induction h with
  | nil => exact .nil
  | cons r _ ih =>
    obtain ⟨a, rfl, h1⟩ := r
    exact .cons (dp_ints h1) ih
theorem Rows.len {nss : List (List Int)} (h : Rows K H xs nss) : xs.length = nss.length := Paired.length h
theorem Rows.snoc {nss : List (List Int)} (h : Rows K H xs nss) (h1 : SqL K H p (ns.map V.int)) : Rows K H (xs ++ [.ref p]) (nss ++ [ns]) := by
  induction h with
  | nil => exact .cons ⟨p, rfl, h1⟩ .nil
  | cons r _ ih => exact .cons r ih
theorem Rows.get {nss : List (List Int)} (h : Rows K H xs nss) {i : Nat} (hx : xs[i]? = some x) : ∃ a ns, x = .ref a ∧ nss[i]? = some ns ∧ SqL K H a (ns.map V.int) := by
  induction h generalizing i with
  | nil => simp at hx
  | cons r _ ih =>
    cases i with
    | zero =>
      obtain ⟨a, rfl, h1⟩ := r
      simp at hx
      subst hx
      exact ⟨a, _, rfl, rfl, h1⟩
    | succ i =>
      obtain ⟨a, ns, h1, h2, h3⟩ := ih (i := i) (by simpa using hx)
      exact ⟨a, ns, h1, by simpa using h2, h3⟩
theorem rv_neDI (h1 : SqL K H p (ns.map V.int)) (h2 : SqL K H q (ms.map V.int)) : RV (rNeD K) (.ref p) (.ref q) H (.bl (!decide (ns = ms))) := fun H1 e _ k =>
  ⟨dI ns, dI ms, dp_ints (ex_l e h1), dp_ints (ex_l e h2), shaped_dI ns, shaped_dI ms, by rw [eqv_dI]; exact k H1 (Ex.refl H1)⟩
theorem rv_eqDI (h1 : SqL K H p (ns.map V.int)) (h2 : SqL K H q (ms.map V.int)) : RV (rEqD K) (.ref p) (.ref q) H (.bl (decide (ns = ms))) := fun H1 e _ k =>
  ⟨dI ns, dI ms, dp_ints (ex_l e h1), dp_ints (ex_l e h2), shaped_dI ns, shaped_dI ms, by rw [eqv_dI]; exact k H1 (Ex.refl H1)⟩
theorem rv_neDL {as bs : List (List Int)} (h1 : SqL K H p xs) (r1 : Rows K H xs as) (h2 : SqL K H q ys) (r2 : Rows K H ys bs) : RV (rNeD K) (.ref p) (.ref q) H (.bl (!decide (as = bs))) := fun H1 e _ k =>
  ⟨.list (as.map dI), .list (bs.map dI), .lst (ex_l e h1) (r1.mono e).dp, .lst (ex_l e h2) (r2.mono e).dp, shaped_dLL as, shaped_dLL bs, by rw [eqv_dLL]; exact k H1 (Ex.refl H1)⟩
theorem rv_eqDL {as bs : List (List Int)} (h1 : SqL K H p xs) (r1 : Rows K H xs as) (h2 : SqL K H q ys) (r2 : Rows K H ys bs) : RV (rEqD K) (.ref p) (.ref q) H (.bl (decide (as = bs))) := fun H1 e _ k =>
  ⟨.list (as.map dI), .list (bs.map dI), .lst (ex_l e h1) (r1.mono e).dp, .lst (ex_l e h2) (r2.mono e).dp, shaped_dLL as, shaped_dLL bs, by rw [eqv_dLL]; exact k H1 (Ex.refl H1)⟩
/-! ### new lists -/
theorem flatten_rep (n : Nat) (x : V) : (List.replicate n [x]).flatten = List.replicate n x := by
  induction n with
  | zero => rfl
  | succ n ih => rw [List.replicate_succ, List.flatten_cons, ih, List.replicate_succ]; rfl
/-- [x] * n -/
theorem el_rep {n : Nat} (ha : EvL ta σ H [x]) (hb : Ev tb σ H (.int (n : Int))) (hn : n ≤ 100000) : EvL (tOp rRep ta tb) σ H (List.replicate n x) := fun H1 e Q k =>
  ha H1 e _ fun p H2 hp e2 h2 => hb H2 (e.trans e2) _ fun H3 e3 => ⟨p, (n : Int), [x], rfl, rfl, e3 _ _ h2, by omega, by omega, by rw [List.length_singleton, Int.toNat_natCast, Nat.one_mul]; exact sz_of hn, fun q hq => by
    rw [Int.toNat_natCast, flatten_rep]
    exact k q _ (fresh_back (e2.trans e3) hq) ((e2.trans e3).trans (Ex.new hq)) upd_same⟩
theorem rg_int (n : Nat) : rgV 0 (n : Int) = ((List.range n).map fun i : Nat => (i : Int)).map V.int := by
  unfold rgV
  rw [List.map_map, show ((n : Int) - 0).toNat = n by omega]
  congr 1
  funext i
  show V.int (0 + (i : Int)) = V.int (i : Int)
  rw [Int.zero_add]
/-- list(range(n)) -/
theorem el_rangeL {n : Nat} (ha : Ev ta σ H (.int (n : Int))) (hn : n ≤ 100000) : EvL (tLstRg (tRg1 ta)) σ H (((List.range n).map fun i : Nat => (i : Int)).map V.int) := fun H1 e Q k =>
  ha H1 e _ fun H2 e2 => ⟨(n : Int), rfl, RgOk.of_le (by omega) (by omega) (by omega) (by omega), fun q hq => by
    rw [rg_int]
    exact k q _ (fresh_back e2 hq) (e2.trans (Ex.new hq)) upd_same⟩
/-- xs + ys of two new lists; of a list that stands and a new one -/
theorem el_catLL (ha : EvL ta σ H xs) (hb : EvL tb σ H ys) (hz : xs.length + ys.length ≤ 100000) : EvL (tOp (rCatQ K) ta tb) σ H (xs ++ ys) := fun H1 e Q k =>
  ha H1 e _ fun p H2 hp e2 h2 => hb H2 (e.trans e2) _ fun q H3 hq e3 h3 => ⟨p, q, xs, ys, rfl, rfl, sq_of (e3 _ _ h2), sq_of h3, sz_of hz, fun l hl => k l _ (fresh_back (e2.trans e3) hl) ((e2.trans e3).trans (Ex.new hl)) upd_same⟩
theorem el_catSL (ha : Ev ta σ H (.ref p)) (h1 : SqL K H p xs) (hb : EvL tb σ H ys) (hz : xs.length + ys.length ≤ 100000) : EvL (tOp (rCatQ K) ta tb) σ H (xs ++ ys) := fun H1 e Q k =>
  ha H1 e _ fun H2 e2 => hb H2 (e.trans e2) _ fun q H3 hq e3 h3 => ⟨p, q, xs, ys, rfl, rfl, ex_l ((e.trans e2).trans e3) h1, sq_of h3, sz_of hz, fun l hl => k l _ (fresh_back (e2.trans e3) hl) ((e2.trans e3).trans (Ex.new hl)) upd_same⟩
theorem el_catLS (ha : EvL ta σ H xs) (hb : Ev tb σ H (.ref p)) (h1 : SqL K H p ys) (hz : xs.length + ys.length ≤ 100000) : EvL (tOp (rCatQ K) ta tb) σ H (xs ++ ys) := fun H1 e Q k =>
  ha H1 e _ fun q H2 hq e2 h2 => hb H2 (e.trans e2) _ fun H3 e3 => ⟨q, p, xs, ys, rfl, rfl, sq_of (e3 _ _ h2), ex_l ((e.trans e2).trans e3) h1, sz_of hz, fun l hl => k l _ (fresh_back (e2.trans e3) hl) ((e2.trans e3).trans (Ex.new hl)) upd_same⟩
theorem el_catSS (ha : Ev ta σ H (.ref p)) (h1 : SqL K H p xs) (hb : Ev tb σ H (.ref q)) (h2 : SqL K H q ys) (hz : xs.length + ys.length ≤ 100000) : EvL (tOp (rCatQ K) ta tb) σ H (xs ++ ys) := fun H1 e Q k =>
  ha H1 e _ fun H2 e2 => hb H2 (e.trans e2) _ fun H3 e3 => ⟨p, q, xs, ys, rfl, rfl, ex_l ((e.trans e2).trans e3) h1, ex_l ((e.trans e2).trans e3) h2, sz_of hz, fun l hl => k l _ (fresh_back (e2.trans e3) hl) ((e2.trans e3).trans (Ex.new hl)) upd_same⟩
/-- xs[::-1] -/
theorem el_rev (ha : Ev ta σ H (.ref p)) (h1 : SqL K H p xs) : EvL (tRevL K ta) σ H xs.reverse := fun H1 e Q k =>
  ha H1 e _ fun H2 e2 => ⟨p, xs, rfl, ex_l (e.trans e2) h1, fun l hl => k l _ (fresh_back e2 hl) (e2.trans (Ex.new hl)) upd_same⟩
/-- list(xs) -/
theorem el_copy (ha : Ev ta σ H (.ref p)) (h1 : SqL K H p xs) : EvL (tCB (fun xs H Q => ∃ p ys, xs = [.ref p] ∧ (SqL K H p ys ∨ SqT K H p ys) ∧ ∀ l, H l = none → Q (.ref l) (upd H l (.lst ys))) (tCons ta tNil)) σ H xs := Evl.el_list ha h1
/-- a comprehension over a new tuple -/
theorem el_lcTup {tl : TE} {j : Nat} {vs : List Nat} (hl : ys.length = xs.length) (h : EvU tl σ H xs) (hz : xs.length ≤ 40000) (hw : ∀ x, wipe ((wipe σ vs).set j (some x)) vs = wipe σ vs)
    (he : ∀ (i : Nat) (x y : V) H1, Ex H H1 → xs[i]? = some x → ys[i]? = some y → Ev te ((wipe σ vs).set j (some x)) H1 y) :
    EvL (tLc (iTup K tl) (gName j) tYes te vs) σ H ys := fun H0 e Q q => h H0 e _ fun a H1 ha e1 hx => ⟨a, rfl, ⟨xs, st_of hx⟩, fun Dl hD => by
  refine lc_tup (xs := xs) (fun i H' => Ex H1 H' ∧ H' Dl = some (.lst (ys.take i))) ⟨Ex.new hD, upd_same⟩ (fun i H' _ p => st_of (p.1 a _ hx)) (fun i x H' hi p => ⟨hw x, ?_⟩) (fun H' p => q Dl H' (fresh_back e1 hD) (e1.trans p.1) (by rw [p.2, List.take_of_length_le (by omega)]))
  have hi' : i < ys.length := by
    have := (List.getElem?_eq_some_iff.mp hi).1
    omega
  have hy : ys[i]? = some ys[i] := List.getElem?_eq_getElem hi'
  unfold tYes
  dsimp only
  rw [if_pos rfl]
  refine he i x _ H' ((e.trans e1).trans p.1) hi hy H' (Ex.refl H') _ fun H4 e4 => ⟨ys.take i, e4 _ _ p.2, sz_lt (by rw [List.length_take]; omega), Ex.mut (p.1.trans e4) hD, ?_⟩
  rw [upd_same, List.take_succ, hy]
  rfl⟩
/-- the second operand a new list, the first one stands -/
theorem ev_opSL (ha : Ev ta σ H x) (hb : EvL tb σ H ys) (hr : ∀ q H1, H1 q = some (.lst ys) → Ex H H1 → RV r x (.ref q) H1 z) : Ev (tOp r ta tb) σ H z := fun H1 e Q k =>
  ha H1 e _ fun H2 e2 => hb H2 (e.trans e2) _ fun q H3 hq e3 h3 => hr q H3 h3 ((e.trans e2).trans e3) H3 (Ex.refl H3) Q fun H4 e4 => k H4 ((e2.trans e3).trans e4)
theorem ev_opLS (ha : EvL ta σ H xs) (hb : Ev tb σ H y) (hr : ∀ q H1, H1 q = some (.lst xs) → Ex H H1 → RV r (.ref q) y H1 z) : Ev (tOp r ta tb) σ H z := fun H1 e Q k =>
  ha H1 e _ fun q H2 hq e2 h2 => hb H2 (e.trans e2) _ fun H3 e3 => hr q H3 (e3 _ _ h2) ((e.trans e2).trans e3) H3 (Ex.refl H3) Q fun H4 e4 => k H4 ((e2.trans e3).trans e4)
/-- a promised call one of whose arguments is a new list: f(a, [..]) -/
theorem ev_callSL {sp : Sp} {E : XK} (ha : Ev ta σ H x) (hb : EvL tb σ H ys) (hs : ∀ q H1, H1 q = some (.lst ys) → Ex H H1 → SpV sp [x, .ref q] H1 z) : Ev (tCall sp [] E (tCons ta (tCons tb tNil))) σ H z := fun H1 e Q k =>
  ha H1 e _ fun H2 e2 => hb H2 (e.trans e2) _ fun q H3 hq e3 h3 => hs q H3 h3 ((e.trans e2).trans e3) H3 (Ex.refl H3) Q (fun H4 e4 => k H4 ((e2.trans e3).trans e4)) E
theorem ev_callLL {sp : Sp} {E : XK} (ha : EvL ta σ H xs) (hb : EvL tb σ H ys) (hs : ∀ p q H1, H1 p = some (.lst xs) → H1 q = some (.lst ys) → Ex H H1 → SpV sp [.ref p, .ref q] H1 z) : Ev (tCall sp [] E (tCons ta (tCons tb tNil))) σ H z := fun H1 e Q k =>
  ha H1 e _ fun p H2 hp e2 h2 => hb H2 (e.trans e2) _ fun q H3 hq e3 h3 => hs p q H3 (e3 _ _ h2) h3 ((e.trans e2).trans e3) H3 (Ex.refl H3) Q (fun H4 e4 => k H4 ((e2.trans e3).trans e4)) E
theorem el_callLS {sp : Sp} {E : XK} {zs : List V} (ha : EvL ta σ H xs) (hb : Ev tb σ H y) (hs : ∀ p H1, H1 p = some (.lst xs) → Ex H H1 → SpL sp [.ref p, y] H1 zs) : EvL (tCall sp [] E (tCons ta (tCons tb tNil))) σ H zs := fun H1 e Q k =>
  ha H1 e _ fun p H2 hp e2 h2 => hb H2 (e.trans e2) _ fun H3 e3 => hs p H3 (e3 _ _ h2) ((e.trans e2).trans e3) H3 (Ex.refl H3) Q (fun l H4 hl e4 h4 => k l H4 (fresh_back (e2.trans e3) hl) ((e2.trans e3).trans e4) h4) E
/-- xs.reverse(), xs.clear() as statements -/
theorem q_reverse (hl : H p = some (.lst xs)) (ha : Ev ta σ H (.ref p)) (k : ∀ H1, Ex H H1 → tz D σ (upd H1 p (.lst xs.reverse))) : tSeq (tDrop (tBM0 K "list" rReverse ta)) tz D σ H := ha H (Ex.refl H) _ fun H1 e1 =>
  ⟨Or.inl ⟨rfl, xs, sq_of (e1 _ _ hl)⟩, p, xs, rfl, rfl, e1 _ _ hl, k H1 e1⟩
/-- min(a, b) -/
theorem ev_min2 {i j : Int} (ha : Ev ta σ H (.int i)) (hb : Ev tb σ H (.int j)) : Ev (tCB (fun xs H Q => ∃ i j, xs = [.int i, .int j] ∧ Q (.int (if j < i then j else i)) H) (tCons ta (tCons tb tNil))) σ H (.int (if j < i then j else i)) :=
  ev_cb (ea_cons ha (ea_cons hb ea_nil)) fun H1 _ _ k => ⟨i, j, rfl, k H1 (Ex.refl H1)⟩
/-- for x in (a, b, ..): a new tuple; the heap grows -/
theorem q_forU {tl : TE} {j : Nat} (h : EvU tl σ H xs) (k : ∀ p H1, H p = none → Ex H H1 → H1 p = some (.tup xs) → ∃ Pv : Nat → L2.St → Hp → Prop, Pv 0 σ H1 ∧ (∀ i σ' H', Pv i σ' H' → Ex H1 H') ∧
    (∀ i x σ' H', xs[i]? = some x → Pv i σ' H' → tu { D with nx := Pv (i + 1), ct := Pv (i + 1), bk := tz D } (σ'.set j (some x)) H') ∧ ∀ σ' H', Pv xs.length σ' H' → tz D σ' H') : tSeq (tFor (iTup K tl) (gName j) tu) tz D σ H :=
  h H (Ex.refl H) _ fun p H1 hp e h1 => by
    obtain ⟨Pv, h0, hl, hs, hd⟩ := k p H1 hp e h1
    exact ⟨p, rfl, ⟨xs, st_of h1⟩, for_tup Pv h0 (fun i σ' H' _ q => st_of (hl i σ' H' q p _ h1)) (fun i x σ' H' hx q => hs i x σ' H' hx q) hd⟩
theorem map_rep (n : Nat) (i : Int) : List.replicate n (V.int i) = (List.replicate n i).map V.int := by rw [List.map_replicate]
end
local macro_rules | `(tactic| walk_at "side") => `(tactic| first | assumption | omega | decide | exact mulC (by decide) (by decide) | exact mulX (by assumption) | exact ⟨by decide, by decide⟩ | exact ⟨by decide, by decide, by decide⟩)
local macro_rules | `(tactic| walk_at "heap") => `(tactic| first | assumption | exact sq_of (by assumption))
local macro_rules | `(tactic| walk_at "rv") => `(tactic| first | exact rv_I0 | (refine rv_I ?_; walk_at "side") | exact rv_eqI | exact rv_neI | exact rv_eqB | exact rv_eqS | exact rv_neS | ((refine' rv_ixI ?k1 ?k2); (case k1 => walk_at "heap"); (case k2 => omega)) | ((refine' rv_ixZ ?k1 ?k2 ?k3); (case k1 => walk_at "heap"); (case k2 => omega); (case k3 => omega)) | ((refine' rv_ixTZ ?k1 ?k2 ?k3); (case k1 => first | assumption | exact st_of (by assumption)); (case k2 => omega); (case k3 => omega)))
local macro_rules | `(tactic| walk_at "rc") => `(tactic| fail)
local macro_rules | `(tactic| walk_at "spv") => `(tactic| fail)
local macro_rules | `(tactic| walk_at "ev") => `(tactic| first
  | (with_reducible exact ev_c)
  | ((with_reducible refine' ev_var ?k1); (case k1 => rfl))
  | ((with_reducible refine' ev_op ?k1 ?k2 ?k3); (case k1 => walk_at "ev"); (case k2 => walk_at "ev"); (case k3 => walk_at "rv"))
  | ((with_reducible refine' ev_un ?k1 ?k2); (case k1 => walk_at "ev"); (case k2 => exact ru_neg))
  | ((with_reducible refine' ev_lenI ?k1 ?k2); (case k1 => walk_at "ev"); (case k2 => walk_at "heap"))
  | ((with_reducible refine' ev_lenL ?k1 ?k2); (case k1 => walk_at "ev"); (case k2 => walk_at "heap"))
  | ((with_reducible refine' ev_abs ?k1); (case k1 => walk_at "ev"))
  | ((with_reducible refine' ev_cb ?k1 ?k2); (case k1 => walk_at "ea"); (case k2 => walk_at "rc"))
  | ((with_reducible refine' ev_call ?k1 ?k2); (case k1 => walk_at "ea"); (case k2 => walk_at "spv"))
  | ((with_reducible refine' ev_andV ?k1 ?k2); (case k1 => walk_at "ev"); (case k2 => (intro _; walk_at "ev")))
  | ((with_reducible refine' ev_orV ?k1 ?k2); (case k1 => walk_at "ev"); (case k2 => (intro _; walk_at "ev")))
  | ((with_reducible refine' ev_notV ?k1); (case k1 => walk_at "ev"))
  | ((with_reducible refine' ev_chainI ?k1 ?k2 ?k3); (case k1 => walk_at "ev"); (case k2 => walk_at "ev"); (case k3 => (intro _; walk_at "ev"))))
local macro_rules | `(tactic| walk_at "ea") => `(tactic| first | (with_reducible exact ea_nil) | ((with_reducible refine' ea_cons ?k1 ?k2); (case k1 => walk_at "ev"); (case k2 => walk_at "ea")))
local macro_rules | `(tactic| walk_at "et") => `(tactic| first
  | ((with_reducible refine' et_B ?k1); (case k1 => walk_at "ev"))
  | ((with_reducible refine' et_test ?k1); (case k1 => walk_at "ev"))
  | ((with_reducible refine' et_and ?k1 ?k2); (case k1 => walk_at "et"); (case k2 => (intro _; walk_at "et")))
  | ((with_reducible refine' et_or ?k1 ?k2); (case k1 => walk_at "et"); (case k2 => (intro _; walk_at "et")))
  | ((with_reducible refine' et_not ?k1); (case k1 => walk_at "et")))
/-! ### sorted of a list of lists of whole numbers -/
def sortL (nss : List (List Int)) : List (List Int) := nss.mergeSort fun p q => decide (p ≤ q)
def rSortedR (K : PySem.W.Frag) : List V → Hp → VK → Prop := fun vs H Q => ∃ (a : Addr) (xs : List V) (nss : List (List Int)), vs = [V.ref a] ∧ SqL K H a xs ∧ Rows K H xs nss ∧ ∀ ys p, Rows K H ys (sortL nss) → H p = none → Q (.ref p) (upd H p (.lst ys))
section
variable {K : PySem.W.Frag} {H : Hp}
abbrev RowR (K : PySem.W.Frag) (H : Hp) (v : Value) (b : V × List Int) : Prop := RelV b.1 v ∧ ∃ a, b.1 = V.ref a ∧ SqL K H a (b.2.map V.int)
theorem rows_each : ∀ {xs : List V} {nss : List (List Int)} {its : List Value}, Rows K H xs nss → Vals xs its → PySem.W.EachIs (RowR K H) its (xs.zip nss)
  | _, _, _, .nil, .nil => .nil
  | _, _, _, .cons r t, .cons q u => .cons ⟨q, r⟩ (rows_each t u)
theorem each_vals : ∀ {out : List Value} {bs : List (V × List Int)}, PySem.W.EachIs (RowR K H) out bs → Vals (bs.map Prod.fst) out ∧ Rows K H (bs.map Prod.fst) (bs.map Prod.snd)
  | _, _, .nil => ⟨.nil, .nil⟩
  | _, _, .cons r t => ⟨.cons r.1 (each_vals t).1, .cons r.2 (each_vals t).2⟩
theorem zip_snd : ∀ {xs : List V} {nss : List (List Int)}, xs.length = nss.length → (xs.zip nss).map Prod.snd = nss
  | [], [], _ => rfl
  | x :: xs, n :: nss, h => by
    rw [List.zip_cons_cons, List.map_cons, zip_snd (by simpa using h)]
  | [], _ :: _, h => by simp at h
  | _ :: _, [], h => by simp at h
end
section
variable {X : Cx}
theorem call_sortedR (hu : X.A.units + 64 < cLine) : CallR X (.builtin "sorted") (rSortedR X.K) := by
  intro pins s σ H vs us Q I r h
  obtain ⟨a, xs, nss, rfl, hs, hr, q⟩ := h
  obtain ⟨its, rv, hl, hz⟩ := I.list hs
  rw [Vals.ref1 r]
  have e := rows_each hr rv
  have hlen : (xs.zip nss).length = xs.length := by
    rw [List.length_zip, hr.len, Nat.min_self]
  have er : PySem.W.EachIs (fun v (b : V × List Int) => ∃ as, Reads s.heap v (dI b.2) as) its (xs.zip nss) := by
    have go : ∀ {its : List Value} {bs : List (V × List Int)}, PySem.W.EachIs (RowR X.K H) its bs → PySem.W.EachIs (fun v (b : V × List Int) => ∃ as, Reads s.heap v (dI b.2) as) its bs := by
      intro its bs h
      induction h with
      | nil => exact .nil
      | cons r _ ih =>
        obtain ⟨r1, a, e1, h1⟩ := r
        exact .cons (Dp.reads I _ _ _ (e1 ▸ dp_ints h1) r1) ih
    exact go e
  refine PySem.W.sorted_data (enc := fun b : V × List Int => dI b.2) hl.isList e er (PySem.W.AllAlike.of fun b b' => ?_) (PySem.W.Sortable.others fun b => ⟨(fun z => nomatch z), fun xs z => (nomatch z)⟩) (by rw [hlen]; exact hz) (fun b _ => by rw [depth_dI]; omega) fun out ho he => ?_
  · show PySem.W.alike (.list _) (.list _) = true
    rw [PySem.W.alike]
    exact PySem.W.alike_ints _ _
  · obtain ⟨v1, v2⟩ := each_vals he
    have es : ((xs.zip nss).mergeSort (PySem.W.dataLe false fun b : V × List Int => dI b.2)).map Prod.snd = sortL nss := by
      rw [PySem.W.dataLe_rows (fun b : V × List Int => b.2), PySem.W.sort_maps (s := fun p q : List Int => decide (p ≤ q)) Prod.snd (fun a _ b _ => rfl), zip_snd hr.len]
      rfl
    rw [es] at v2
    obtain ⟨ep, he'⟩ := PyProof.Rows.sortedAll_at s.heap its out.toArray
    have hlo : (((xs.zip nss).mergeSort (PySem.W.dataLe false fun b : V × List Int => dI b.2)).map Prod.fst).length ≤ sizeLine := by
      rw [List.length_map, List.length_mergeSort, hlen]
      exact hz
    exact ⟨.ref _, upd H (s.heap.objs.size + 1) (.lst (((xs.zip nss).mergeSort (PySem.W.dataLe false fun b : V × List Int => dI b.2)).map Prod.fst)), I.laid (t' := s.toks) (fun _ _ => PyProof.Rows.sortedAll_old) (Nat.le_succ _) ⟨hlo, out, ep, v1, he'⟩, rfl, q _ _ v2 (I.hok.fresh (Nat.le_succ _))⟩
theorem call_sortedK {K : PySem.W.Frag} (e : X.K = K) (hu : X.A.units + 64 < cLine) : CallR X (.builtin "sorted") (rSortedR K) := e ▸ call_sortedR hu
end
/-! ### a new list of new lists -/
section
variable {K : PySem.W.Frag} {σ : L2.St} {H H' : Hp} {ta tb tc te tx : TE} {t u : TT} {x y z v : V} {r r' : R2} {D : Ends} {tu tw tz : TS} {g : TG} {p q : Addr} {ns ms : List Int} {xs ys : List V} {nss mss : List (List Int)}
def EvR (K : PySem.W.Frag) (te : TE) (σ : L2.St) (H : Hp) (nss : List (List Int)) : Prop := ∀ H1, Ex H H1 → ∀ Q : VK, (∀ p H2 ys, H1 p = none → Ex H1 H2 → H2 p = some (.lst ys) → Rows K H2 ys nss → Q (.ref p) H2) → te σ H1 Q
def RetR (K : PySem.W.Frag) (nss : List (List Int)) (H : Hp) (Q : VK) : Prop := ∀ p H2 ys, H p = none → Ex H H2 → H2 p = some (.lst ys) → Rows K H2 ys nss → Q (.ref p) H2
theorem RetR.mono {Q : VK} (k : RetR K nss H Q) (e : Ex H H') : RetR K nss H' Q := fun p H2 ys hp e1 h hr => k p H2 ys (fresh_back e hp) (e.trans e1) h hr
def SpR (K : PySem.W.Frag) (sp : Sp) (vs : List V) (H : Hp) (nss : List (List Int)) : Prop := ∀ H1, Ex H H1 → ∀ Q : VK, RetR K nss H1 Q → ∀ E : XK, sp vs H1 Q E
theorem er_call {sp : Sp} {dvs vs : List V} {E : XK} {ta : TA} (h : EvA ta σ H vs) (hs : SpR K sp (vs ++ dvs) H nss) : EvR K (tCall sp dvs E ta) σ H nss := fun H1 e Q q =>
  h H1 e _ fun H2 e2 => hs H2 (e.trans e2) Q (fun p H3 ys hp e3 h3 hr => q p H3 ys (fresh_back e2 hp) (e2.trans e3) h3 hr) E
theorem sq_upd {a l : Addr} {o : HO} (h : SqL K H a xs) (n : a ≠ l) : SqL K (upd H l o) a xs := by
  rcases h with (h | ⟨u, h⟩) | h
  · exact .inl (.inl (by rw [upd_ne n]; exact h))
  · exact .inl (.inr ⟨u, by rw [upd_ne n]; exact h⟩)
  · exact .inr h
theorem er_sorted (ha : Ev ta σ H (.ref p)) (h1 : SqL K H p xs) (hr : Rows K H xs nss) : EvR K (tCB (rSortedR K) (tCons ta tNil)) σ H (sortL nss) := fun H1 e Q q =>
  ha H1 e _ fun H2 e2 => ⟨p, xs, nss, rfl, ex_l (e.trans e2) h1, hr.mono (e.trans e2), fun ys l hy hl => q l _ ys (fresh_back e2 hl) (e2.trans (Ex.new hl)) upd_same (hy.mono (Ex.new hl))⟩
theorem s_retR (h : EvR K te σ H nss) (k : RetR K nss H D.rt) : tRet te D σ H := h H (Ex.refl H) _ k
theorem q_asgR {i : Nat} (h : EvR K te σ H nss) (k : ∀ p H1 ys, H p = none → Ex H H1 → H1 p = some (.lst ys) → Rows K H1 ys nss → tz D (σ.set i (some (.ref p))) H1) : tSeq (tAsg te (gName i)) tz D σ H := h H (Ex.refl H) _ k
theorem ev_lenR (h : EvR K te σ H nss) : Ev (tCB (fun xs H Q => ∃ p ys, xs = [.ref p] ∧ (SqL K H p ys ∨ SqT K H p ys) ∧ Q (.int ys.length) H) (tCons te tNil)) σ H (.int (nss.length : Int)) := fun H1 e Q q =>
  h H1 e _ fun p H2 ys hp e2 h2 hr => ⟨p, ys, rfl, .inl (sq_of h2), by rw [hr.len]; exact q H2 e2⟩
theorem ev_opSR (ha : Ev ta σ H x) (hb : EvR K tb σ H nss) (hr : ∀ q H1 ys, H1 q = some (.lst ys) → Rows K H1 ys nss → Ex H H1 → RV r x (.ref q) H1 z) : Ev (tOp r ta tb) σ H z := fun H1 e Q k =>
  ha H1 e _ fun H2 e2 => hb H2 (e.trans e2) _ fun q H3 ys hq e3 h3 h4 => hr q H3 ys h3 h4 ((e.trans e2).trans e3) H3 (Ex.refl H3) Q fun H4 e4 => k H4 ((e2.trans e3).trans e4)
/-- rows that stand apart from the list at l -/
def RowsA (l : Addr) (H : Hp) (xs : List V) (nss : List (List Int)) : Prop := Paired (fun v ns => ∃ a, v = V.ref a ∧ a ≠ l ∧ H a = some (.lst (ns.map V.int))) xs nss
theorem RowsA.rows {l : Addr} (h : RowsA l H xs nss) : Rows K H xs nss := Paired.mapP h fun _ _ ⟨a, e, _, h1⟩ => ⟨a, e, sq_of h1⟩
theorem RowsA.mono {l : Addr} (e : Ex H H') (h : RowsA l H xs nss) : RowsA l H' xs nss := Paired.mapP h fun _ _ ⟨a, e1, n, h1⟩ => ⟨a, e1, n, e _ _ h1⟩
theorem RowsA.upd {l : Addr} {o : HO} (h : RowsA l H xs nss) : RowsA l (upd H l o) xs nss := Paired.mapP h fun _ _ ⟨a, e1, n, h1⟩ => ⟨a, e1, n, by rw [upd_ne n]; exact h1⟩
theorem RowsA.snoc {l : Addr} (h : RowsA l H xs nss) (n : p ≠ l) (h1 : H p = some (.lst (ns.map V.int))) : RowsA l H (xs ++ [.ref p]) (nss ++ [ns]) := by
  induction h with
  | nil => exact .cons ⟨p, rfl, n, h1⟩ .nil
  | cons r _ ih => exact .cons r ih
theorem RowsA.len {l : Addr} (h : RowsA l H xs nss) : xs.length = nss.length := Paired.length h
/-- all but the list at l stands as it stood -/
def But (l : Addr) (H H1 : Hp) : Prop := ∀ a o, a ≠ l → H a = some o → H1 a = some o
theorem But.ex {l : Addr} {H0 H1 : Hp} (b : But l H H1) (e : Ex H0 H) (h : H0 l = none) : Ex H0 H1 := fun a o ha => b a o (ne_of_none ha h) (e a o ha)
theorem But.of {l : Addr} {H1 : Hp} (e : Ex H H1) : But l H H1 := fun a o _ h => e a o h
theorem But.upd {l : Addr} {H1 : Hp} {o : HO} (e : Ex H H1) : But l H (L2.upd H1 l o) := fun a u n h => by
  rw [upd_ne n]
  exact e a u h
theorem But.trans {l : Addr} {H1 H2 : Hp} (a : But l H H1) (b : But l H1 H2) : But l H H2 := fun c o n h => b c o n (a c o n h)
theorem But.rows {l : Addr} {H1 : Hp} (b : But l H H1) (h : RowsA l H xs nss) : RowsA l H1 xs nss := Paired.mapP h fun _ _ ⟨a, e1, n, h1⟩ => ⟨a, e1, n, b a _ n h1⟩
/-- if c: l.append(a new list of whole numbers) -/
theorem s_ifApp {l : Addr} {c : Prop} [Decidable c] (hl : H l = some (.lst xs)) (hr : RowsA l H xs nss) (hz : xs.length < 100000) (ht : EvT t σ H (decide c)) (ha : Ev ta σ H (.ref l)) (he : c → EvL te σ H (ns.map V.int))
    (k : ∀ xs1 H1, But l H H1 → H1 l = some (.lst xs1) → RowsA l H1 xs1 (nss ++ if c then [ns] else []) → D.nx σ H1) : tIfS t (tDrop (tBM K "list" rAppend ta (tCons te tNil))) tNext D σ H :=
  s_when ht (fun hb H1 e1 => by
    have hc := of_decide_eq_true hb
    refine s_appL (l := l) (e1 _ _ hl) (fun H2 e2 Q q => ha H2 (e1.trans e2) Q q) (fun H2 e2 Q q => he hc H2 (e1.trans e2) Q q) hz fun p H2 hp e2 h2 => k _ _ (But.upd (e1.trans e2)) upd_same ?_
    rw [if_pos hc]
    have np : p ≠ l := fun z => by
      rw [z, e1 _ _ hl] at hp
      cases hp
    exact (hr.mono (e1.trans e2)).upd.snoc np (by rw [upd_ne np]; exact h2)) (fun hb H1 e1 => k xs H1 (But.of e1) (e1 _ _ hl) (by
    rw [if_neg (of_decide_eq_false hb), List.append_nil]
    exact hr.mono e1))
theorem q_ifApp {l : Addr} {c : Prop} [Decidable c] (hl : H l = some (.lst xs)) (hr : RowsA l H xs nss) (hz : xs.length < 100000) (ht : EvT t σ H (decide c)) (ha : Ev ta σ H (.ref l)) (he : c → EvL te σ H (ns.map V.int))
    (k : ∀ xs1 H1, But l H H1 → H1 l = some (.lst xs1) → RowsA l H1 xs1 (nss ++ if c then [ns] else []) → tz D σ H1) : tSeq (tIfS t (tDrop (tBM K "list" rAppend ta (tCons te tNil))) tNext) tz D σ H := s_ifApp (D := { D with nx := tz D }) hl hr hz ht ha he k
/-- for x in (a, b, ..): a new tuple, which stays -/
theorem s_forU {tl : TE} {j : Nat} (h : EvU tl σ H xs) (k : ∀ p H1, H p = none → Ex H H1 → H1 p = some (.tup xs) → ∃ Pv : Nat → L2.St → Hp → Prop, Pv 0 σ H1 ∧ (∀ i σ' H', Pv i σ' H' → H' p = some (.tup xs)) ∧
    (∀ i x σ' H', xs[i]? = some x → Pv i σ' H' → tu { D with nx := Pv (i + 1), ct := Pv (i + 1), bk := D.nx } (σ'.set j (some x)) H') ∧ ∀ σ' H', Pv xs.length σ' H' → D.nx σ' H') : tFor (iTup K tl) (gName j) tu D σ H :=
  h H (Ex.refl H) _ fun p H1 hp e h1 => by
    obtain ⟨Pv, h0, hl, hs, hd⟩ := k p H1 hp e h1
    exact ⟨p, rfl, ⟨xs, st_of h1⟩, for_tup Pv h0 (fun i σ' H' _ q => st_of (hl i σ' H' q)) (fun i x σ' H' hx q => hs i x σ' H' hx q) hd⟩
/-- a comprehension over a new list of rows -/
theorem el_lcRows {tl : TE} {j : Nat} {vs : List Nat} (hl : ys.length = nss.length) (h : EvR K tl σ H nss) (hz : nss.length ≤ 40000) (hw : ∀ x, wipe ((wipe σ vs).set j (some x)) vs = wipe σ vs)
    (he : ∀ (i : Nat) (a : Addr) (ns : List Int) (y : V) H1, Ex H H1 → nss[i]? = some ns → ys[i]? = some y → SqL K H1 a (ns.map V.int) → Ev te ((wipe σ vs).set j (some (.ref a))) H1 y) :
    EvL (tLc (iList K tl) (gName j) tYes te vs) σ H ys := fun H0 e Q q => h H0 e _ fun a H1 xs ha e1 hx hr => ⟨a, rfl, ⟨xs, sq_of hx⟩, fun Dl hD => by
  have hxl := hr.len
  refine lc_list (xs := xs) (fun i H' => Ex H1 H' ∧ H' Dl = some (.lst (ys.take i))) ⟨Ex.new hD, upd_same⟩ (fun i H' _ p => sq_of (p.1 a _ hx)) (fun i x H' hi p => ⟨hw x, ?_⟩) (fun H' p => q Dl H' (fresh_back e1 hD) (e1.trans p.1) (by rw [p.2, List.take_of_length_le (by omega)]))
  have hi' : i < ys.length := by
    have := (List.getElem?_eq_some_iff.mp hi).1
    omega
  have hy : ys[i]? = some ys[i] := List.getElem?_eq_getElem hi'
  obtain ⟨b, ns, rfl, hn, hb⟩ := hr.get hi
  unfold tYes
  dsimp only
  rw [if_pos rfl]
  refine he i b ns _ H' ((e.trans e1).trans p.1) hn hy (ex_l p.1 hb) H' (Ex.refl H') _ fun H4 e4 => ⟨ys.take i, e4 _ _ p.2, sz_lt (by rw [List.length_take]; omega), Ex.mut (p.1.trans e4) hD, ?_⟩
  rw [upd_same, List.take_succ, hy]
  rfl⟩
theorem inV_ints (x : Int) (ns : List Int) : inV (.int x) (ns.map V.int) = decide (x ∈ ns) := by
  unfold inV
  induction ns with
  | nil => rfl
  | cons n ns ih =>
    rw [List.map_cons, List.any_cons, ih]
    show ((n == x) || decide (x ∈ ns)) = decide (x ∈ n :: ns)
    by_cases h : n = x
    · subst h
      simp
    · have h2 : x ≠ n := fun e => h e.symm
      simp [h, h2]
theorem flat_ints (ns : List Int) : (ns.map V.int).all flatV = true := by
  rw [List.all_map]
  exact List.all_eq_true.mpr fun _ _ => rfl
theorem rv_niI {x : Int} (h : SqL K H p (ns.map V.int)) : RV (rIn K true) (.int x) (.ref p) H (.bl (!decide (x ∈ ns))) := by
  rw [← inV_ints]
  exact rv_niL h rfl (flat_ints ns)
/-- a, b = two new lists -/
theorem q_asg2L {i j : Nat} (h1 : EvL ta σ H xs) (h2 : EvL tb σ H ys) (k : ∀ p q H1, H p = none → H q = none → Ex H H1 → H1 p = some (.lst xs) → H1 q = some (.lst ys) → tz D ((σ.set i (some (.ref p))).set j (some (.ref q))) H1) :
    tSeq (tAsg (tTup (tCons ta (tCons tb tNil))) (gTup K 2 (gCons (gName i) (gCons (gName j) gNil)))) tz D σ H :=
  h1 H (Ex.refl H) _ fun p H1 hp e1 g1 => h2 H1 e1 _ fun q H2 hq e2 g2 => ⟨by show 2 ≤ sizeLine; decide, fun l hl =>
    ⟨l, _, rfl, .inl (.inl upd_same), rfl, _, _, rfl, _, [], rfl, rfl, k p q _ hp (fresh_back e1 hq) ((e1.trans e2).trans (Ex.new hl)) (Ex.new hl _ _ (e2 _ _ g1)) (Ex.new hl _ _ g2)⟩⟩
/-- a new list of three new lists -/
theorem q_asg3L {i : Nat} {zs : List V} (h1 : EvL ta σ H xs) (h2 : EvL tb σ H ys) (h3 : EvL tc σ H zs) (k : ∀ l p q r H1, H l = none → H p = none → H q = none → H r = none → Ex H H1 → H1 l = some (.lst [.ref p, .ref q, .ref r]) → H1 p = some (.lst xs) → H1 q = some (.lst ys) → H1 r = some (.lst zs) →
    tz D (σ.set i (some (.ref l))) H1) : tSeq (tAsg (tLst (tCons ta (tCons tb (tCons tc tNil)))) (gName i)) tz D σ H :=
  h1 H (Ex.refl H) _ fun p H1 hp e1 g1 => h2 H1 e1 _ fun q H2 hq e2 g2 => h3 H2 (e1.trans e2) _ fun r H3 hr e3 g3 => ⟨by show 3 ≤ sizeLine; decide, fun l hl =>
    k l p q r _ (fresh_back ((e1.trans e2).trans e3) hl) hp (fresh_back e1 hq) (fresh_back (e1.trans e2) hr) (((e1.trans e2).trans e3).trans (Ex.new hl)) upd_same (Ex.new hl _ _ (e3 _ _ (e2 _ _ g1))) (Ex.new hl _ _ (e3 _ _ g2)) (Ex.new hl _ _ g3)⟩
end
/-! ### own classes: made, asked -/
structure ClsF (K : PySem.W.Frag) (mg : Str → Option Value) (x : Str) (c : Addr) : Prop where
  g : mg x = some (.ref c)
  cl : Cls K c
  mks : PySem.W.makesIn K c = true
  kc : PySem.W.keepIn K (.ref c) = true
/-- a method of the class at c -/
structure Mt (K : PySem.W.Frag) (c : Addr) (m qual : Str) (ps : List Str) (st : Stmt) : Prop where
  ex : ∃ f fd, Fun K m qual st f fd ∧ Meth K c m f ∧ Binds K fd ps []
structure MCl (P : Program) (w : World) (K : PySem.W.Frag) (mg : Str → Option Value) (base : Heap) (CX : CXT) (k : Nat) (c : Addr) (m : Str) (ps : List Str) (sp : Sp) : Prop where
  ex : ∃ f fd, FnOk P w K mg base CX k f fd ps sp ∧ Meth K c m f ∧ Binds K fd ps []
section
variable {P : Program} {w : World} {K : PySem.W.Frag} {mg : Str → Option Value} {base : Heap}
theorem cm0 {c : Addr} {m qual : Str} {st : Stmt} {N ps : List Str} {k : Nat} {sp : Sp} (D : Mt K c m qual ps st) (S : FnScope N ps (defScope st)) (len : ∀ vs H Q E, sp vs H Q E → vs.length = ps.length)
    (hbody : ∀ (f : Addr) (cdv : Value) (A : Around) (outer : List Env) (s : Shared) (H : Hp) (vs : List V) (Q : VK) (E : XK), Room k (A.deeper (envOfC qual (defScope st) s.heap.objs.size f cdv)) → sp vs H Q E →
      ∃ t, PSs (cxOf CX0 P w K mg base N qual (defScope st) f cdv A outer s H E).nox (defBody st) t ∧ t { nx := fun _ H' => Q .non H', rt := Q } (start N vs) H) : MCl P w K mg base CX0 (k + 1) c m ps sp := by
  obtain ⟨f, fd, F, me, b⟩ := D.ex
  exact ⟨f, fd, F.ok S len (hbody f), me, b⟩
end
section
variable {X : Cx} {CX : CXT} {k : Nat} {c : Addr} {ps : List Str} {sp : Sp} {E : XK} {x m : Str} {p pos apos : PySem.Pos} {e o : Expr} {es : List Expr} {t : TA} {ta : TE}
theorem pe_mcl {pl : Sem Bool} (M : MCl X.prog X.w X.K X.mg X.base CX k c m ps sp) (cl : Cls X.K c) (hr : Room k X.A) (hx : Passes CX X E) (ho : PE X o ta) (ha : PA X (e :: es) t)
    (hst : starEach (e :: es) X.env = (false, eval e X.env) :: starEach es X.env := by rfl) (hpl : (backTo pos (starEach es X.env)).any (·.1) = false := by rfl)
    (ht : eval (.Call (.Attribute o m apos) (e :: es) [] pos) X.env = (do
      let ov ← eval o X.env
      standAt apos.atName
      let (f, first) ← holding [ov] (getMethod ov m pl)
      callWith pos f first (backTo pos (starEach (e :: es) X.env)) (backToKw pos (keywordEach [] X.env))) := by rfl) :
    PE X (.Call (.Attribute o m apos) (e :: es) [] pos) (tMeth c m sp [] E ta t) := by
  obtain ⟨f, fd, F, me, b⟩ := M.ex
  exact pe_meth ho cl me F hr b .nil hx ha hst hpl ht
/-- C(e, ..), the __init__ its own -/
theorem pe_mki (C : ClsF X.K X.mg x c) (M : MCl X.prog X.w X.K X.mg X.base CX k c "__init__" ps sp) (hr : Room (k + 1) X.A) (hg : Gl X x) (hx : Passes CX X E) (ha : PA X (e :: es) t)
    (hdb : (x == ("__debug__" : Str)) = false := by decide) (he : starEach (e :: es) X.env = (false, eval e X.env) :: starEach es X.env := by rfl) (hpl : (backTo pos (starEach es X.env)).any (·.1) = false := by rfl) :
    PE X (.Call (.Name x p) (e :: es) [] pos) (tMake c sp [] E t) := by
  obtain ⟨f, fd, F, me, b⟩ := M.ex
  exact pe_make ⟨C.mks, me.at_, me.fn, C.kc⟩ F hr hg C.g b .nil hx ha hdb he hpl
def tMakeO (c : Addr) : TE := fun _ H Q => ∀ x dx, H x = none → H dx = none → dx ≠ x → Q (.ref x) (upd (upd H dx (.own x)) x (.ins c dx []))
/-- C() where there is no __init__ but object's -/
theorem pe_mko (C : ClsF X.K X.mg x c) (hi : PySem.W.findIn X.K (.ref c) "__init__" = some (some (.builtin "object.__init__"))) (hg : Gl X x) (hdb : (x == ("__debug__" : Str)) = false := by decide) : PE X (.Call (.Name x p) [] [] pos) (tMakeO c) := by
  refine ⟨fun pins s σ H Q I h => ?_⟩
  refine wpAny_Call_Name_kw (ld_glob I hg C.g ?_ hdb)
  refine PySem.W.callWith_K0 I.kIn C.kc ?_
  have hq := h (s.heap.objs.size + 1) s.heap.objs.size (I.hok.fresh (Nat.le_succ _)) (I.hok.fresh (Nat.le_refl _)) (Nat.ne_of_lt (Nat.lt_succ_self _))
  have I2 := Inv.made (C := c) I
  have Y := PySem.W.makes_of (M := model X.prog X.w) I.kIn C.mks
  refine wpAny_call (make_map0 I.kIn C.mks hi (fun self => PySem.W.Looks.of_pure (PySem.W.oi_bind self)) ?_)
  have hn : ((s.heap.push PySem.W.emptyDict).push (PySem.W.instObj c s.heap.objs.size)).get? (s.heap.objs.size + 1) = some (PySem.W.instObj c s.heap.objs.size) := by
    have z := Heap.get?_push_size (s.heap.push PySem.W.emptyDict) (o := PySem.W.instObj c s.heap.objs.size) rfl
    rw [Heap.size_push] at z
    exact z
  have t1 : PySem.W.Looks (model X.prog X.w) ((s.heap.push PySem.W.emptyDict).push (PySem.W.instObj c s.heap.objs.size)) (typeOf (.ref (s.heap.objs.size + 1))) (.ref c) := (PySem.W.Looks.ld hn).andThen .now
  have t2 : PySem.W.Looks (model X.prog X.w) ((s.heap.push PySem.W.emptyDict).push (PySem.W.instObj c s.heap.objs.size)) (isInstance (.ref (s.heap.objs.size + 1)) (.type "object")) true := t1.andThen (Y.top.keeps fun b o e => Heap.get?_push_of_some _ (Heap.get?_push_of_some _ e))
  refine codeAny_call_builtin PySem.W.oi_plain PySem.W.entry_oi (@PySem.W.check_slot (model X.prog X.w) _ _ _ "object.__init__" "object" "__init__" (.ref (s.heap.objs.size + 1)) [] [] _ PySem.W.oi_kind PySem.W.oi_split t2 (PySem.W.oi_args (.ref (s.heap.objs.size + 1))) ?_)
  rw [PySem.W.oi_run]
  exact wpAny_pure (And.intro rfl ⟨.ref (s.heap.objs.size + 1), _, I2, rfl, hq⟩)
end
section
variable {K : PySem.W.Frag} {σ : L2.St} {H H' : Hp} {ta tb tc te tx : TE} {t u : TT} {x y z v : V} {r r' : R2} {D : Ends} {tu tw tz : TS} {g : TG} {p q : Addr} {ns ms : List Int} {xs ys : List V}
/-- [e for i, x in enumerate(xs) if t] -/
theorem el_lcEnum {a : Addr} {ta : TA} {i j : Nat} {vs : List Nat} (f : Nat → Bool) (w : Nat → V) (h : EvA ta σ H [.ref a]) (hx : SqL K H a xs) (hz : xs.length ≤ 40000) (hw : ∀ x y, wipe (((wipe σ vs).set i (some x)).set j (some y)) vs = wipe σ vs)
    (ht : ∀ (n : Nat) (x : V) H1, Ex H H1 → xs[n]? = some x → EvT t (((wipe σ vs).set i (some (.int (n : Int)))).set j (some x)) H1 (f n)) (he : ∀ (n : Nat) (x : V) H1, Ex H H1 → xs[n]? = some x → f n = true → Ev te (((wipe σ vs).set i (some (.int (n : Int)))).set j (some x)) H1 (w n)) :
    EvL (tLc (iEnum K ta) (gTup K 2 (gCons (gName i) (gCons (gName j) gNil))) t te vs) σ H (given xs.length f w) := fun H0 e Q q => h H0 e _ fun H1 e1 => ⟨a, xs, rfl, ex_l (e.trans e1) hx, fun Dl hD => by
  refine ⟨fun n m H' => n + m = xs.length ∧ Cw H1 f w Dl n H', ⟨xs.length, by omega, hD, Ex.new hD, upd_same⟩, fun n m H' hW => ?_⟩
  obtain ⟨em, hp⟩ := hW
  have hS := ex_l ((e.trans e1).trans hp.2.1) hx
  by_cases hn : n < xs.length
  · have hxi : xs[n]? = some xs[n] := List.getElem?_eq_getElem hn
    refine .inr ⟨⟨xs, xs[n], hS, hxi⟩, fun H2 => Cw H1 f w Dl (n + 1) H2, fun H2 p => ⟨m - 1, by omega, by omega, p⟩, fun v H2 hy => ?_⟩
    obtain ⟨T, x, rfl, nT, rfl, fx⟩ := hy
    have ex : x = xs[n] := Option.some.inj ((fx _ hS).symm.trans hxi)
    subst ex
    have eT : Ex H' (upd H' T (.tup [.int (n : Nat), xs[n]])) := Ex.new nT
    refine ⟨T, [.int (n : Nat), xs[n]], rfl, .inl (.inl upd_same), rfl, _, _, rfl, _, [], rfl, rfl, ?_⟩
    exact ⟨hw _ _, cw_turn ⟨hp.1, hp.2.1.trans eT, eT _ _ hp.2.2⟩ (by omega) (ht n _ H1 (e.trans e1) hxi) (he n _ H1 (e.trans e1) hxi)⟩
  · have en : n = xs.length := by omega
    subst en
    exact .inl ⟨⟨xs, hS, Nat.le_refl _⟩, q Dl H' (fresh_back e1 hp.1) (e1.trans hp.2.1) hp.2.2⟩⟩
/-- [e for x, y in zip(xs, ys) if t], the two of one length -/
theorem el_lcZip {a b : Addr} {ta : TA} {i j : Nat} {vs : List Nat} (f : Nat → Bool) (w : Nat → V) (h : EvA ta σ H [.ref a, .ref b]) (hx : SqL K H a xs) (hy : SqL K H b ys) (hl : xs.length = ys.length) (hz : xs.length ≤ 40000) (hw : ∀ x y, wipe (((wipe σ vs).set i (some x)).set j (some y)) vs = wipe σ vs)
    (ht : ∀ (n : Nat) (x y : V) H1, Ex H H1 → xs[n]? = some x → ys[n]? = some y → EvT t (((wipe σ vs).set i (some x)).set j (some y)) H1 (f n)) (he : ∀ (n : Nat) (x y : V) H1, Ex H H1 → xs[n]? = some x → ys[n]? = some y → f n = true → Ev te (((wipe σ vs).set i (some x)).set j (some y)) H1 (w n)) :
    EvL (tLc (iZip K ta) (gTup K 2 (gCons (gName i) (gCons (gName j) gNil))) t te vs) σ H (given xs.length f w) := fun H0 e Q q => h H0 e _ fun H1 e1 => ⟨a, b, xs, ys, rfl, ex_l (e.trans e1) hx, ex_l (e.trans e1) hy, fun Dl hD => by
  refine ⟨fun n m H' => n + m = xs.length ∧ Cw H1 f w Dl n H', ⟨xs.length, by omega, hD, Ex.new hD, upd_same⟩, fun n m H' hW => ?_⟩
  obtain ⟨em, hp⟩ := hW
  have hS := ex_l ((e.trans e1).trans hp.2.1) hx
  have hT := ex_l ((e.trans e1).trans hp.2.1) hy
  by_cases hn : n < xs.length
  · have hxi : xs[n]? = some xs[n] := List.getElem?_eq_getElem hn
    have hn2 : n < ys.length := by omega
    have hyi : ys[n]? = some ys[n] := List.getElem?_eq_getElem hn2
    refine .inr ⟨⟨xs, ys, xs[n], ys[n], hS, hT, hxi, hyi⟩, fun H2 => Cw H1 f w Dl (n + 1) H2, fun H2 p => ⟨m - 1, by omega, by omega, p⟩, fun v H2 hv => ?_⟩
    obtain ⟨T, x, y, rfl, nT, rfl, fx, fy⟩ := hv
    have ex : x = xs[n] := Option.some.inj ((fx _ hS).symm.trans hxi)
    have ey : y = ys[n] := Option.some.inj ((fy _ hT).symm.trans hyi)
    subst ex
    subst ey
    have eT : Ex H' (upd H' T (.tup [xs[n], ys[n]])) := Ex.new nT
    refine ⟨T, [xs[n], ys[n]], rfl, .inl (.inl upd_same), rfl, _, _, rfl, _, [], rfl, rfl, ?_⟩
    exact ⟨hw _ _, cw_turn ⟨hp.1, hp.2.1.trans eT, eT _ _ hp.2.2⟩ (by omega) (ht n _ _ H1 (e.trans e1) hxi hyi) (he n _ _ H1 (e.trans e1) hxi hyi)⟩
  · have en : n = xs.length := by omega
    subst en
    exact .inl ⟨⟨xs, ys, hS, hT, .inl (Nat.le_refl _)⟩, q Dl H' (fresh_back e1 hp.1) (e1.trans hp.2.1) hp.2.2⟩⟩
theorem et_yes : EvT tYes σ H true := fun H1 _ _ q => q H1 (Ex.refl H1)
theorem given_all (n : Nat) (w : Nat → V) : given n (fun _ => true) w = (List.range n).map w := by
  unfold given
  rw [List.filter_eq_self.mpr (fun _ _ => rfl)]
/-- int(a truth) -/
theorem ev_intB {b : Bool} (h : Ev te σ H (.bl b)) : Ev (tCB (fun xs H Q => (∃ i, xs = [.int i] ∧ Q (.int i) H) ∨ ∃ k, xs = [.bl k] ∧ Q (.int (if k then 1 else 0)) H) (tCons te tNil)) σ H (.int (if b then 1 else 0)) :=
  ev_cb (ea_cons h ea_nil) fun H1 _ _ q => .inr ⟨b, rfl, q H1 (Ex.refl H1)⟩
/-- o.f -/
theorem ev_fld {C dx : Addr} {fs : List (Str × V)} {f : Str} (h : Ev ta σ H (.ref p)) (ho : H p = some (.ins C dx fs)) (hc : Cls K C) (hn : NoAttr K C f) (hl : fs.lookup f = some v) : Ev (tFld K ta f) σ H v := fun H1 e Q q =>
  h H1 e _ fun H2 e2 => ⟨p, C, dx, fs, v, rfl, (e.trans e2) _ _ ho, hc, hn, hl, q H2 e2⟩
/-- o.m(..) -/
theorem ev_meth {C dx : Addr} {fs : List (Str × V)} {m : Str} {sp : Sp} {E : XK} {ta' : TA} {vs : List V} (h : Ev ta σ H (.ref p)) (ho : H p = some (.ins C dx fs)) (hl : fs.lookup m = none) (ha : EvA ta' σ H vs) (hs : SpV sp (.ref p :: (vs ++ [])) H z) : Ev (tMeth C m sp [] E ta ta') σ H z := fun H1 e Q q =>
  h H1 e _ fun H2 e2 => ⟨p, dx, fs, rfl, (e.trans e2) _ _ ho, hl, ha H2 (e.trans e2) _ fun H3 e3 => hs H3 ((e.trans e2).trans e3) Q (fun H4 e4 => q H4 ((e2.trans e3).trans e4)) E⟩
/-- a new instance without fields: C().m(..) -/
theorem ev_methO {C : Addr} {m : Str} {sp : Sp} {E : XK} {ta' : TA} {vs : List V} (ha : EvA ta' σ H vs) (hs : ∀ p dx H1, Ex H H1 → H1 p = some (.ins C dx []) → SpV sp (.ref p :: (vs ++ [])) H1 z) : Ev (tMeth C m sp [] E (tMakeO C) ta') σ H z := fun H1 e Q q =>
  fun x dx nx nd ne => by
    have e2 : Ex H1 (upd (upd H1 dx (.own x)) x (.ins C dx [])) := fun b o hb => by
      rw [upd_ne (ne_of_none hb nx), upd_ne (ne_of_none hb nd)]
      exact hb
    refine ⟨x, dx, [], rfl, upd_same, rfl, ha _ (e.trans e2) _ fun H3 e3 => hs x dx H3 ((e.trans e2).trans e3) (e3 _ _ upd_same) H3 (Ex.refl _) Q (fun H4 e4 => q H4 ((e2.trans e3).trans e4)) E⟩
theorem PE_or_l {t u : TE} (h : Ev t σ H v) : Ev (fun σ H Q => t σ H Q ∨ u σ H Q) σ H v := fun H1 e Q q => .inl (h H1 e Q q)
theorem PE_or_r {t u : TE} (h : Ev u σ H v) : Ev (fun σ H Q => t σ H Q ∨ u σ H Q) σ H v := fun H1 e Q q => .inr (h H1 e Q q)
/-! ### written-out arguments some of which are new lists -/
def EvAR (K : PySem.W.Frag) (ta : TA) (σ : L2.St) (H : Hp) (nss : List (List Int)) : Prop := ∀ H1, Ex H H1 → ∀ Q : List V → Hp → Prop, (∀ vs H2, Ex H1 H2 → Rows K H2 vs nss → Q vs H2) → ta σ H1 Q
theorem ear_nil : EvAR K tNil σ H [] := fun H1 _ _ q => q [] H1 (Ex.refl H1) .nil
theorem ear_consL {tr : TA} {nss : List (List Int)} (h : EvL te σ H (ns.map V.int)) (hr : EvAR K tr σ H nss) : EvAR K (tCons te tr) σ H (ns :: nss) := fun H1 e _ q =>
  h H1 e _ fun p H2 hp e2 h2 => hr H2 (e.trans e2) _ fun vs H3 e3 r => q _ H3 (e2.trans e3) (.cons ⟨p, rfl, sq_of (e3 _ _ h2)⟩ r)
theorem ear_consS {tr : TA} {nss : List (List Int)} (h : Ev te σ H (.ref p)) (hp : SqL K H p (ns.map V.int)) (hr : EvAR K tr σ H nss) : EvAR K (tCons te tr) σ H (ns :: nss) := fun H1 e _ q =>
  h H1 e _ fun H2 e2 => hr H2 (e.trans e2) _ fun vs H3 e3 r => q _ H3 (e2.trans e3) (.cons ⟨p, rfl, ex_l ((e.trans e2).trans e3) hp⟩ r)
/-- for x in (a list, a list, ..): the heap grows -/
theorem s_forTR {nss : List (List Int)} {ta : TA} {j : Nat} (h : EvAR K ta σ H nss) (hz : nss.length ≤ 1000) (k : ∀ p xs H1, H p = none → Ex H H1 → H1 p = some (.tup xs) → Rows K H1 xs nss → ∃ Pv : Nat → L2.St → Hp → Prop, Pv 0 σ H1 ∧ (∀ i σ' H', Pv i σ' H' → Ex H1 H') ∧
    (∀ i a ns σ' H', nss[i]? = some ns → SqL K H' a (ns.map V.int) → Pv i σ' H' → tu { D with nx := Pv (i + 1), ct := Pv (i + 1), bk := D.nx } (σ'.set j (some (.ref a))) H') ∧ ∀ σ' H', Pv nss.length σ' H' → D.nx σ' H') : tFor (iTup K (tTup ta)) (gName j) tu D σ H :=
  h H (Ex.refl H) _ fun vs H1 e r => ⟨by rw [r.len]; exact Nat.le_trans hz (by decide), fun p hp => by
    obtain ⟨Pv, h0, hl, hs, hd⟩ := k p vs _ (fresh_back e hp) (e.trans (Ex.new hp)) upd_same (r.mono (Ex.new hp))
    refine ⟨p, rfl, ⟨vs, st_of upd_same⟩, for_tup Pv h0 (fun i σ' H' _ q => st_of (hl i σ' H' q p _ upd_same)) (fun i x σ' H' hx q => ?_) (fun σ' H' q => hd σ' H' (by rw [← r.len]; exact q))⟩
    obtain ⟨a, ns, rfl, hn, ha⟩ := (r.mono ((Ex.new hp).trans (hl i σ' H' q))).get hx
    exact hs i a ns σ' H' hn ha q⟩
theorem q_forTR {nss : List (List Int)} {ta : TA} {j : Nat} (h : EvAR K ta σ H nss) (hz : nss.length ≤ 1000) (k : ∀ p xs H1, H p = none → Ex H H1 → H1 p = some (.tup xs) → Rows K H1 xs nss → ∃ Pv : Nat → L2.St → Hp → Prop, Pv 0 σ H1 ∧ (∀ i σ' H', Pv i σ' H' → Ex H1 H') ∧
    (∀ i a ns σ' H', nss[i]? = some ns → SqL K H' a (ns.map V.int) → Pv i σ' H' → tu { D with nx := Pv (i + 1), ct := Pv (i + 1), bk := tz D } (σ'.set j (some (.ref a))) H') ∧ ∀ σ' H', Pv nss.length σ' H' → tz D σ' H') : tSeq (tFor (iTup K (tTup ta)) (gName j) tu) tz D σ H := s_forTR (D := { D with nx := tz D }) h hz k
/-- a, b = e1, e2 -/
theorem q_par {ta : TA} {i j : Nat} {w : V} (h : EvA ta σ H [v, w]) (k : ∀ H1, Ex H H1 → tz D ((σ.set i (some v)).set j (some w)) H1) : tSeq (tPar i j ta) tz D σ H := h H (Ex.refl H) _ fun H1 e => ⟨v, w, rfl, k H1 e⟩
/-- f(a new list, b, c) -/
theorem el_callL3 {sp : Sp} {E : XK} {zs : List V} (ha : EvL ta σ H xs) (hb : Ev tb σ H x) (hc : Ev tc σ H y) (hs : ∀ p H1, H1 p = some (.lst xs) → Ex H H1 → SpL sp [.ref p, x, y] H1 zs) : EvL (tCall sp [] E (tCons ta (tCons tb (tCons tc tNil)))) σ H zs := fun H1 e Q k =>
  ha H1 e _ fun p H2 hp e2 h2 => hb H2 (e.trans e2) _ fun H3 e3 => hc H3 ((e.trans e2).trans e3) _ fun H4 e4 => hs p H4 (e4 _ _ (e3 _ _ h2)) (((e.trans e2).trans e3).trans e4) H4 (Ex.refl H4) Q (fun l H5 hl e5 h5 => k l H5 (fresh_back ((e2.trans e3).trans e4) hl) (((e2.trans e3).trans e4).trans e5) h5) E
end
/-! ### classes and defs as values; isinstance of own ones -/
theorem pe_gv {X : Cx} {x : Str} {a : Addr} {pos : PySem.Pos} (hm : X.mg x = some (.ref a)) (hg : Gl X x) (hd : (x == ("__debug__" : Str)) = false := by decide) : PE X (.Name x pos) (tC (.ref a)) := pe_glob hg hm rfl hd
/-- what isinstance asks of an own class of an object -/
structure InsF (K : PySem.W.Frag) (C : Addr) : Prop where
  ha : PySem.W.findIn K (.ref C) "__class__" = some (some (.builtin "object.__class__"))
  hn : PySem.W.specialIn K (.builtin "object.__class__") "__get__" = some (some (.builtin "getset_descriptor.__get__"))
  ht : PySem.W.takesIn K (.builtin "object.__class__") = some true
  hm : PySem.W.mroIn K C (.type "object") = some true
theorem cls_some {K : PySem.W.Frag} {C : Addr} (h : PySem.W.isClsIn K C = true) : (PySem.W.clsIn K C).isSome = true := by
  first
  | exact h
  | (unfold PySem.W.isClsIn at h; exact h)
  | (unfold PySem.W.isClsIn at h; cases e : PySem.W.clsIn K C with | none => rw [e] at h; cases h | some x => rfl)
theorem kit_ref {K : PySem.W.Frag} {t : Value} {C : Addr} {b : Bool} (h1 : PySem.W.isClsIn K C = true) (h2 : PySem.W.typeIn K (.ref C) = some (.type "type")) (h3 : PySem.W.subIn K (.ref C) (.ref C) = some true) (h4 : PySem.W.subIn K t (.ref C) = some b) : PySem.W.kitOne K t (.ref C) = some b := by
  unfold PySem.W.kitOne
  by_cases e : t = .ref C
  · subst e
    rw [h3] at h4
    cases h4
    rw [if_pos (beq_self_eq_true _)]
  · rw [if_neg (fun z => e (eq_of_beq z))]
    show (if ((PySem.W.clsIn K C).isSome && PySem.W.typeIn K (.ref C) == some (.type "type")) = true then PySem.W.subIn K t (.ref C) else none) = some b
    rw [if_pos (by rw [cls_some h1, h2, Bool.true_and]; exact beq_self_eq_true _)]
    exact h4
theorem kit_typ {K : PySem.W.Frag} {A : Addr} {T : String} {b : Bool} (hm : PySem.W.kitMeta T = true) (h : PySem.W.subIn K (.ref A) (.type T) = some b) : PySem.W.kitOne K (.ref A) (.type T) = some b := by
  have ne : ¬ (Value.ref A == Value.type T) = true := fun z => by
    have := eq_of_beq z
    cases this
  unfold PySem.W.kitOne
  rw [if_neg ne]
  show (if PySem.W.kitMeta T = true then PySem.W.subIn K (.ref A) (.type T) else none) = some b
  rw [if_pos hm]
  exact h
section
variable {K : PySem.W.Frag} {H : Hp}
theorem rc_isC {a D B dx : Addr} {fs : List (Str × V)} {b : Bool} (h : H a = some (.ins D dx fs)) (c : Cls K D) (F : InsF K D) (e : PySem.W.kitOne K (.ref D) (.ref B) = some b) : RC (rIsi K) [.ref a, .ref B] H (.bl b) :=
  fun H1 e1 _ q => ⟨.ref a, .ref B, _, _, b, rfl, .own B, .base (.ins (e1 _ _ h) c F.ha F.hn F.ht F.hm), e, q H1 (Ex.refl H1)⟩
end
/-! ### isinstance of a caught error -/
def rIsX (K : PySem.W.Frag) (a : Addr) (cls : Value) (d : Option Addr) : List V → Hp → VK → Prop := fun xs H Q => ∃ (D : Addr) (c : V) (cv : Value) (b : Bool), cls = .ref D ∧ d = none ∧ ExcC K D ∧ xs = [.ref a, c] ∧ ClsV c cv ∧ PySem.W.kitOne K (.ref D) cv = some b ∧ Q (.bl b) H
theorem call_isX {X : Cx} {K : PySem.W.Frag} {a : Addr} {oe : Obj} {cls : Value} {d : Option Addr} {pn : List (Addr × Obj)} (hK : X.K = K) (hz : Zc cls d oe) (hf : ∃ vs, oe.data = .fields vs) : CallR (X.suite a ((a, oe) :: pn)) (.builtin "isinstance") (rIsX K a cls d) := by
  intro pins s σ H xs us Q I r h
  obtain ⟨D, c, cv, b, rfl, rfl, C, rfl, hc, e, q⟩ := h
  subst hK
  exact call_isE C hz hf pins s σ H _ us Q I r ⟨c, cv, b, rfl, fun u ru => hc.eq ru, e, q⟩
/-! ### any, all where an exception is handled -/
section
variable {prog : Program} {w : World} {A : Around} {E : Value → Shared → Prop} {s : Shared}
theorem list_end_hot {it l x1 : Addr} {i : Nat} {items : Array Value} {Q : Option Value → Shared → Prop} (hot : HotX.HotAt A x1 s.heap) (hne : x1 ≠ it)
    (hit : s.heap.IsListIter it l i) (hl : s.heap.IsList l items) (hx : items[i]? = none)
    (hQ : ∀ h', Heap.ExtBut it s.heap h' → Q none { s with heap := h' }) : wpAny (model prog w) A (pyNext (.ref it)) Q E s := by
  obtain ⟨hh, o1, vs1, h1, d1, c1⟩ := hot
  obtain ⟨o, ho, hc, hd⟩ := id hit
  obtain ⟨ol, hol, _, nl, hdl⟩ := hl
  unfold pyNext
  refine wpAny_bind (wpAny_attempt (wpAny_callSpecial?_slot (name := Str.ofString "__next__") hit.typeIs slot_listiter_next
    (wpAny_call_entry slot_listiter_next hit.typeIs entry_listiter_next ?_ (args_listiter_next _))))
  show wpAny _ _ (field (.ref it) 0 >>= _) _ _ s
  refine wpAny_bind (wpAny_field ho hd (x := .ref l) rfl ?_)
  show wpAny _ _ (if (Value.ref l == Value.none) = true then _ else _) _ _ s
  rw [if_neg (show ¬ ((Value.ref l == Value.none) = true) from Bool.false_ne_true)]
  show wpAny _ _ (field (.ref it) 1 >>= _) _ _ s
  refine wpAny_bind (wpAny_field ho hd (x := .int i 0) rfl ?_)
  show wpAny _ _ (seqItems? (.ref l) >>= _) _ _ s
  refine wpAny_bind (wpAny_seqItems hol hdl ?_)
  simp only [Int.toNat_natCast, hx]
  refine wpAny_bind (wpAny_rule (wpAny_bind (wpAny_setField ho hd (by simp) ?_)))
  show wpAny _ _ (newExc (.type "StopIteration") [] >>= _) _ _ _
  refine wpAny_bind ?_
  simp only [newExc, newTuple]
  refine wpAny_bind (wpAny_newObj_type ?_ (by size_fits))
  refine wpAny_bind (m := firstArgMember _ _) (wpAny_of_eq (a := Value.none) (by first | rfl | (simp only [firstArgMember]; rfl)) ?_)
  refine wpAny_newObj_type ?_ (by size_fits)
  refine HotX.raiseNew_hot ⟨hh, o1, vs1, Heap.get?_push_of_some _ (Heap.get?_push_of_some _ ((Heap.get?_update_other _ _ hne.symm).trans h1)), d1, c1⟩ (Nat.ne_of_lt (Heap.lt_size (Heap.get?_push_of_some _ ((Heap.get?_update_other _ _ hne.symm).trans h1)))) (Heap.get?_push_size _ rfl) rfl (by first | (simp; done) | (simp; omega) | (simp only [Array.size_append]; simp; omega)) ?_
  refine wpAny_bind (wpAny_isInstance (T := "StopIteration") (b := true) ⟨_, Heap.get?_update_self _ (Heap.get?_push_size _ rfl) rfl, rfl⟩ isSubtype_stop ?_)
  refine wpAny_pure (hQ _ fun b o hb e => ?_)
  have e0 := (Heap.get?_update_other s.heap (Obj.mapFields (·.setIfInBounds 0 .none)) (Ne.symm hb)).trans e
  rw [Heap.get?_update_other _ _ (Nat.ne_of_gt (Heap.lt_size (Heap.get?_push_of_some _ e0)))]
  exact Heap.get?_push_of_some _ (Heap.get?_push_of_some _ e0)
theorem HotX_keep {x1 : Addr} {h h' : Heap} (hot : HotX.HotAt A x1 h) (k : ∀ o, h.get? x1 = some o → h'.get? x1 = some o) : HotX.HotAt A x1 h' := by
  obtain ⟨hh, o1, vs1, h1, d1, c1⟩ := hot
  exact ⟨hh, o1, vs1, k _ h1, d1, c1⟩
theorem walks_listH {x1 : Addr} (I ax : Addr) (hne : ax ≠ I) (hx1 : x1 ≠ I) (items : Array Value) :
    Walks prog w A I [I, ax, x1] [I] items.size (fun i v => items[i]? = some v) (fun i h => (h.IsListIter I ax i ∧ h.IsList ax items) ∧ HotX.HotAt A x1 h) where
  sub := fun b hb => by simp at hb; simp [hb]
  frame := fun _ _ _ st hk => ⟨⟨st.1.1.at fun o e => hk I (by simp) o e, st.1.2.at fun o e => hk ax (by simp) o e⟩, HotX_keep st.2 fun o e => hk x1 (by simp) o e⟩
  item := fun i s Q E hi st hQ => by
    refine wpAny_pyNext_list_item st.1.1 st.1.2 (x := items[i]) (by simp [hi]) fun h' hit' hs' => ?_
    exact hQ _ h' s.toks (by simp [hi]) ⟨⟨hit', st.1.2.extBut hs'.extBut hne⟩, HotX_keep st.2 fun o e => hs'.extBut x1 o hx1 e⟩ fun b o hb e => hs'.extBut b o (fun h => hb (by simp [h])) e
  done := fun s Q E st hQ => list_end_hot st.2 hx1 st.1.1 st.1.2 (by simp) fun h' he' => hQ h' s.toks fun b o hb e => he' b o (fun h => hb (by simp [h])) e
  self := fun _ _ _ _ st hQ => wpAny_pyIter_listiter st.1.1 hQ
end
section
variable {X : Cx} {K : PySem.W.Frag}
theorem cr_anyH (hK : X.K = K) (hc : L2H.HotC X) : CallR X (.builtin "any") (rAny K) := by
  intro pins s σ H vs us Q I r h
  obtain ⟨a, bs, rfl, hs, q⟩ := h
  subst hK
  obtain ⟨its, rv, hl, _⟩ := I.list hs
  obtain ⟨x1, hot⟩ := hc.at I
  rw [Vals.ref1 r]
  have hb := rv.bls
  refine call_any_walk (iter_any hl.isList fun s₂ e2 st hne => ?_)
  subst e2
  have nx : x1 ≠ s.heap.objs.size := by
    obtain ⟨_, o1, _, h1, _, _⟩ := hot
    exact Nat.ne_of_lt (Heap.lt_size h1)
  refine ⟨_, _, _, _, _, _, _, rfl, walks_listH (A := X.A.in1) (x1 := x1) _ a hne nx its.toArray, ⟨st, HotX_keep (A := X.A.in1) hot fun o e => Heap.get?_push_of_some _ e⟩, truth_bools hb, fun h' tk hk => ?_⟩
  refine ⟨.bl _, H, I.kept fun b o eo => hk b o (fun hmem => ?_) (Heap.get?_push_of_some _ eo), ?_, q⟩
  · rcases List.mem_cons.mp hmem with e1 | hmem
    · exact absurd (e1 ▸ Heap.lt_size eo) (Nat.lt_irrefl _)
    · cases hmem
  · show Value.bool _ = Value.bool _
    rw [← L2.any_range, hb, List.size_toArray, List.length_map]
theorem cr_allH (hK : X.K = K) (hc : L2H.HotC X) : CallR X (.builtin "all") (rAll K) := by
  intro pins s σ H vs us Q I r h
  obtain ⟨a, bs, rfl, hs, q⟩ := h
  subst hK
  obtain ⟨its, rv, hl, _⟩ := I.list hs
  obtain ⟨x1, hot⟩ := hc.at I
  rw [Vals.ref1 r]
  have hb := rv.bls
  refine call_all_walk (iter_any hl.isList fun s₂ e2 st hne => ?_)
  subst e2
  have nx : x1 ≠ s.heap.objs.size := by
    obtain ⟨_, o1, _, h1, _, _⟩ := hot
    exact Nat.ne_of_lt (Heap.lt_size h1)
  refine ⟨_, _, _, _, _, _, _, rfl, walks_listH (A := X.A.in1) (x1 := x1) _ a hne nx its.toArray, ⟨st, HotX_keep (A := X.A.in1) hot fun o e => Heap.get?_push_of_some _ e⟩, truth_bools hb, fun h' tk hk => ?_⟩
  refine ⟨.bl _, H, I.kept fun b o eo => hk b o (fun hmem => ?_) (Heap.get?_push_of_some _ eo), ?_, q⟩
  · rcases List.mem_cons.mp hmem with e1 | hmem
    · exact absurd (e1 ▸ Heap.lt_size eo) (Nat.lt_irrefl _)
    · cases hmem
  · show Value.bool _ = Value.bool _
    rw [← L2.all_range, hb, List.size_toArray, List.length_map]
theorem hot_suite {a : Addr} {oe : Obj} {cls : Value} {d : Option Addr} {pn : List (Addr × Obj)} (hz : L2N.Zn cls d oe) (hf : ∃ vs, oe.data = .fields vs) : L2H.HotC (X.suite a ((a, oe) :: pn)) := by
  obtain ⟨vs, h⟩ := hf
  exact ⟨(a, oe), ⟨rfl, vs, h, hz.2.2 vs h⟩, List.mem_cons_self⟩
end
/-! ### a list of truths: how many -/
def rCntB (K : PySem.W.Frag) : V → List V → Hp → VK → Prop := fun x xs H Q => ∃ (p : Addr) (ns : List Bool) (k : Bool), x = .ref p ∧ xs = [.bl k] ∧ SqL K H p (ns.map V.bl) ∧ Q (.int (ns.countP (· == k) : Nat)) H
def eqb (k : Bool) (v : Value) : Bool := match v with
  | .bool n => n == k
  | _ => false
theorem mt_lcountB {X : Cx} {K : PySem.W.Frag} (hK : X.K = K) : MtR X "list.count" (rCntB K) := by
  intro pins s σ H x xs v us Q I rx rxs h
  obtain ⟨p, ns, k, rfl, rfl, hs, q⟩ := h
  subst hK
  cases rx
  obtain ⟨u, rfl, ru⟩ := rxs.one
  cases (show u = Value.bool k from ru)
  obtain ⟨its, rv, ⟨⟨cls, dd, data, sl⟩, n, ho, hc, hdn, hd⟩, hlen⟩ := I.list hs
  simp only at hc hd
  subst hc hd
  have hi := Vals.bls rv
  subst hi
  refine call_meets PySem.F.slot_list_count ⟨_, ho, rfl⟩ PySem.F.entry_list_count (PySem.F.args_list_count_2 _ _)
    (SeqAt.list_countAt p (ns.map Value.bool).toArray n dd sl (.bool k) (eqb k)) ⟨ho, fun y hy => ?_, ?_⟩
  · have hy2 : y ∈ ns.map Value.bool := by simpa using hy
    obtain ⟨b, _, rfl⟩ := List.mem_map.mp hy2
    exact SeqAt.EqAt.bool_bool b k
  have ec : (ns.map Value.bool).toArray.toList.countP (eqb k) = ns.countP (· == k) := by
    show (ns.map Value.bool).countP (eqb k) = _
    rw [List.countP_map]
    rfl
  refine ⟨.int (ns.countP (· == k) : Nat), H, I.tok _, ⟨s.toks, ?_⟩, q⟩
  show Value.int (((ns.map Value.bool).toArray.toList.countP (eqb k) : Nat) : Int) s.toks = Value.int ((ns.countP (· == k) : Nat) : Int) s.toks
  rw [ec]
/-! ### a call of a local name that holds a def -/
def tCallLS (i : Nat) (f : Addr) (sp : Sp) (E : L2.St → XK) (t : TA) : TE := fun σ H Q => σ[i]? = some (some (.ref f)) ∧ t σ H fun vs H1 => sp vs H1 Q (E σ)
theorem pe_callLS {X : Cx} {CX : CXT} {k i : Nat} {f : Addr} {ps : List Str} {sp : Sp} {E : L2.St → XK} {g x : Str} {p pos : PySem.Pos} {e : Expr} {es : List Expr} {t : TA} (C : Cl X.prog X.w X.K X.mg X.base CX k g ps sp) (hm : X.mg g = some (.ref f)) (hr : Room k X.A) (hN : X.N[i]? = some x) (hv : Vis X.env.scope x)
    (hx : ∀ σ, PassesAt CX X σ (E σ)) (ha : PA X (e :: es) t)
    (hdb : (x == ("__debug__" : Str)) = false := by decide) (hcd : (x == ("__classdict__" : Str)) = false := by decide)
    (he : starEach (e :: es) X.env = (false, eval e X.env) :: starEach es X.env := by rfl) (hpl : (backTo pos (starEach es X.env)).any (·.1) = false := by rfl) : PE X (.Call (.Name x p) (e :: es) [] pos) (tCallLS i f sp E t) := by
  obtain ⟨f', fd, F, m, kp, b⟩ := C.ex
  have ef : f' = f := by
    rw [hm] at m
    cases m
    rfl
  subst ef
  refine ⟨fun pins s σ H Q I h => ?_⟩
  obtain ⟨hs, ht⟩ := h
  refine wpAny_Call_Name_kw (thn ((pe_var (pos := p) hN hv hdb hcd).run pins s σ H (fun v H1 => v = .ref f' ∧ H1 = H) I ⟨.ref f', hs, rfl, rfl⟩) fun u s1 ⟨v, H1, I1, r1, q1⟩ => ?_)
  obtain ⟨rfl, rfl⟩ := q1
  cases r1
  refine PySem.W.callWith_K (h₀ := X.base) I.ok.mod.kin kp (thn (ha.run pos pins s1 σ _ _ I1 ht) fun us s2 ⟨vs, H2, I2, r, q⟩ => ⟨I2.kIn, ?_⟩) he hpl
  exact run_fnS F hr b (hx σ) I2 r q
theorem pass_no {X : Cx} {E : L2.St → XK} (σ : L2.St) : PassesAt CX0 X σ (E σ) := fun _ _ _ _ _ _ z => z.elim
/-- a call of a def by its own name, within a try -/
theorem pe_clS {X : Cx} {CX : CXT} {k : Nat} {ps : List Str} {sp : Sp} {E : L2.St → XK} {x : Str} {p pos : PySem.Pos} {e : Expr} {es : List Expr} {t : TA} (C : Cl X.prog X.w X.K X.mg X.base CX k x ps sp) (hr : Room k X.A) (hg : Gl X x) (hx : ∀ σ, PassesAt CX X σ (E σ)) (ha : PA X (e :: es) t)
    (hdb : (x == ("__debug__" : Str)) = false := by decide) (he : starEach (e :: es) X.env = (false, eval e X.env) :: starEach es X.env := by rfl) (hpl : (backTo pos (starEach es X.env)).any (·.1) = false := by rfl) :
    PE X (.Call (.Name x p) (e :: es) [] pos) (tCallS sp E t) := by
  obtain ⟨f, fd, F, m, kp, b⟩ := C.ex
  exact pe_callS F hr hg m kp b hx ha hdb he hpl
theorem pe_gi {X : Cx} {x : Str} {i : Int} {pos : PySem.Pos} (hm : ∃ t, X.mg x = some (.int i t)) (hg : Gl X x) (hd : (x == ("__debug__" : Str)) = false := by decide) : PE X (.Name x pos) (tC (.int i)) := by
  obtain ⟨t, e⟩ := hm
  exact pe_glob hg e ⟨t, rfl⟩ hd
theorem pe_gs {X : Cx} {x : Str} {i : Str} {pos : PySem.Pos} (hm : ∃ t, X.mg x = some (.str i t)) (hg : Gl X x) (hd : (x == ("__debug__" : Str)) = false := by decide) : PE X (.Name x pos) (tC (.str i)) := by
  obtain ⟨t, e⟩ := hm
  exact pe_glob hg e ⟨t, rfl⟩ hd
/-- text * int -/
theorem op_repS {X : Cx} : OpR X (binaryOp .Mult) (fun x y H Q => ∃ (a : Str) (n : Int), x = .str a ∧ y = .int n ∧ MulOk a n ∧ Q (.str (Txt.mul a n)) H) := by
  intro pins s σ H x y v u Q I rx ry h
  obtain ⟨a, n, rfl, rfl, ok, q⟩ := h
  obtain ⟨t, rfl⟩ := rx
  obtain ⟨t', rfl⟩ := ry
  exact SB.mul ok fun t' k => ⟨.str _, H, I.tok _, ⟨_, rfl⟩, q⟩
/-! ### a def called where an exception is handled: its promise knows the handled one -/
theorem roomP {k : Nat} {A : Around} {hd : Option Value} (r : Room k A) : L2H.RoomH k (A.mark hd) := ⟨r.dp, r.un⟩
structure FnP (P : Program) (w : World) (K : PySem.W.Frag) (mg : Str → Option Value) (base : Heap) (k : Nat) (f : Addr) (fd : FuncData) (ps : List Str) (sp : Addr → Value → Option Addr → Sp) : Prop where
  len : ∀ a c d vs H Q E, sp a c d vs H Q E → vs.length = ps.length
  run : ∀ (A : Around) (outer : List Env) (s : Shared) (H : Hp) (args : Args) (us : List Value) (vs : List V) (Q : VK) (E : XK) (p : Addr × Obj) (cls : Value) (d : Option Addr), Zc cls d p.2 → (∃ vs, p.2.data = .fields vs) → L2H.RoomH k A → L2H.Hot1 A p → L2H.PinOk outer H s p → Env0 P w K mg base A outer s H → BindsTo s fd args (ps.zip us) → Vals vs us → sp p.1 cls d vs H Q E →
    codeAny (model P w) A (.call (.ref f) args) (CR CX0 outer P w H s Q E) s
structure ClP (P : Program) (w : World) (K : PySem.W.Frag) (mg : Str → Option Value) (base : Heap) (k : Nat) (x : Str) (ps : List Str) (sp : Addr → Value → Option Addr → Sp) : Prop where
  ex : ∃ f fd, FnP P w K mg base k f fd ps sp ∧ mg x = some (.ref f) ∧ PySem.W.keepIn K (.ref f) = true ∧ Binds K fd ps []
section
variable {P : Program} {w : World} {K : PySem.W.Frag} {mg : Str → Option Value} {base : Heap}
theorem clP {x : Str} {st : Stmt} {N ps : List Str} {k : Nat} {sp : Addr → Value → Option Addr → Sp} (D : Df K mg x ps st) (S : FnScope N ps (defScope st)) (len : ∀ a c d vs H Q E, sp a c d vs H Q E → vs.length = ps.length)
    (hbody : ∀ (f : Addr) (cdv : Value) (A : Around) (outer : List Env) (s : Shared) (H : Hp) (vs : List V) (Q : VK) (E : XK) (p : Addr × Obj) (cls : Value) (d : Option Addr), Zc cls d p.2 → (∃ vs, p.2.data = .fields vs) → L2H.Hot1 A p → L2H.RoomH k (A.deeper (envOfC x (defScope st) s.heap.objs.size f cdv)) → sp p.1 cls d vs H Q E →
      ∃ t, PSs (L2H.cxH CX0 P w K mg base N x (defScope st) f cdv A outer s H E p) (defBody st) t ∧ t { nx := fun _ H' => Q .non H', rt := Q } (L2.start N vs) H) : ClP P w K mg base (k + 1) x ps sp := by
  obtain ⟨f, fd, F, m, b⟩ := D.ex
  obtain ⟨oc, od, kV, doc, pm, an, cdv, ct, osl, rfl, lk, hcd⟩ := F.ex
  refine ⟨f, _, ⟨len, fun A outer s H args us vs Q E p cls d hz hf hr hot hpin e0 hb r hsp => ?_⟩, m, F.kp, b⟩
  have hl := len _ _ _ _ _ _ _ hsp
  have KX : K.In s.heap := e0.mod.kin.keeps fun b o e => (e0.bs b o e).1
  have lim : s.heap.NoLimit := e0.mod.nolimit.keeps fun b o e => (e0.bs b o e).1
  have hkind : ∀ y ∈ ps.zip us, (defScope st).names.lookup y.1 = some .local ∨ ((defScope st).names.lookup y.1 = some .cell ∧ ((cellsFrom (s.heap.objs.size + 1) (defScope st).names []).lookup y.1).isSome = true) := fun ⟨n, v⟩ hy => by
    rcases S.par n (List.of_mem_zip hy).1 with q | q
    · exact .inl q
    · exact .inr ⟨q, PySem.W.cellsFrom_some _ _ _ (.inl q)⟩
  refine codeAny_call_function hr.depth (KX _ _ lk) rfl S.co S.gen rfl (PySem.W.codeRec_of KX hcd) (hb _ _ _ _ ?_)
  refine wpAny_newFunctionEnv_cells S.kind hkind fun env he s1 x => ?_
  subst he
  refine ⟨lim.keeps x.toInCall.keep, codeAny_func ?_⟩
  obtain ⟨t, ht, hq⟩ := hbody f cdv A outer s H vs Q E p cls d hz hf hot (hr.deeper _) hsp
  have I := L2H.inv_startH (CX := CX0) (E := E) S hpin e0 hl r x
  refine wpAny_mono (ht.run [] s1 (L2.start N vs) H _ I hq) (fun fl s' hs => ?_) fun e s' hs => hs
  cases fl with
  | ret u =>
    obtain ⟨v, σ', H', J, rv, q⟩ := hs
    exact ⟨v, H', J.os, J.bare, J.base, J.hok, rv, q⟩
  | next =>
    obtain ⟨σ', H', J, q⟩ := hs
    exact ⟨V.non, H', J.os, J.bare, J.base, J.hok, rfl, q⟩
  | brk =>
    obtain ⟨_, _, _, q⟩ := hs
    exact False.elim q
  | cont =>
    obtain ⟨_, _, _, q⟩ := hs
    exact False.elim q
end
section
variable {X : Cx} {k : Nat} {ps : List Str} {x : Str} {q pos : PySem.Pos} {e : Expr} {es : List Expr} {t : TA}
theorem pe_clP {sp : Addr → Value → Option Addr → Sp} {a : Addr} {oe : Obj} {cls : Value} {d : Option Addr} (C : ClP X.prog X.w X.K X.mg X.base k x ps sp) (hr : L2H.RoomH k X.A) (hp : (a, oe) ∈ X.pn) (hot : L2H.Hot1 X.A (a, oe)) (hz : Zc cls d oe) (hf : ∃ vs, oe.data = .fields vs) (hg : Gl X x) (ha : PA X (e :: es) t)
    (hdb : (x == ("__debug__" : Str)) = false := by decide) (he : starEach (e :: es) X.env = (false, eval e X.env) :: starEach es X.env := by rfl) (hpl : (backTo pos (starEach es X.env)).any (·.1) = false := by rfl) :
    PE X (.Call (.Name x q) (e :: es) [] pos) (tCall (sp a cls d) [] E0 t) := by
  obtain ⟨f, fd, F, m, kp, b⟩ := C.ex
  refine ⟨fun pins s σ H Q I h => ?_⟩
  refine wpAny_Call_Name_kw (ld_glob I hg m ?_ hdb)
  refine PySem.W.callWith_K (h₀ := X.base) I.ok.mod.kin kp (thn (ha.run pos pins s σ H _ I h) fun us s1 ⟨vs, H1, I1, r, q1⟩ => ⟨I1.kIn, ?_⟩) he hpl
  have q2 : sp a cls d (vs ++ []) H1 Q E0 := q1
  rw [List.append_nil] at q2
  have hl : us.length = ps.length := by rw [← r.length]; exact F.len _ _ _ _ _ _ _ q2
  have b1 := b s1 us I1.kIn (by rw [List.append_nil]; exact hl)
  rw [List.append_nil] at b1
  have P1 := I1.pin (a, oe) (List.mem_append_left _ hp)
  have hpin : L2H.PinOk X.stack H1 s1 (a, oe) := ⟨P1.1, P1.2.1, fun hm => (List.mem_cons.mp (I1.stkSub a hm)).elim P1.2.2.1 P1.2.2.2.1, P1.2.2.2.2⟩
  refine wpAny_call (codeAny_mono (F.run X.A X.stack s1 H1 ⟨us, []⟩ us vs Q E0 (a, oe) cls d hz hf hr hot hpin I1.env0 b1 r q2) fun r s' hq => ?_)
  cases r with
  | error e => exact hq.elim
  | ok fl =>
    cases fl with
    | ret u => exact I1.after hq
    | next => exact False.elim hq
    | brk => exact False.elim hq
    | cont => exact False.elim hq
theorem hot1_suite {a : Addr} {oe : Obj} {cls : Value} {d : Option Addr} {A : Around} (hz : L2N.Zn cls d oe) (hf : ∃ vs, oe.data = .fields vs) : L2H.Hot1 (A.mark (some (.ref a))) (a, oe) := by
  obtain ⟨vs, h⟩ := hf
  exact ⟨rfl, vs, h, hz.2.2 vs h⟩
/-- isinstance of the handled one, wherever it is pinned -/
theorem call_isP {K : PySem.W.Frag} {p : Addr × Obj} {cls : Value} {d : Option Addr} (hK : X.K = K) (hp : p ∈ X.pn) (hz : Zc cls d p.2) (hf : ∃ vs, p.2.data = .fields vs) : CallR X (.builtin "isinstance") (rIsX K p.1 cls d) := by
  intro pins s σ H xs us Q I r h
  obtain ⟨D, c, cv, b, rfl, rfl, C, rfl, hc, e, q⟩ := h
  subst hK
  obtain ⟨u1, u2, rfl, r1, r2⟩ := vals2 r
  cases (show u1 = Value.ref p.1 from r1)
  have e2 := hc.eq r2
  subst e2
  obtain ⟨hget, _⟩ := I.pin p (List.mem_append_left _ hp)
  obtain ⟨vs, hv⟩ := hf
  obtain ⟨a, oe⟩ := p
  have J : PySem.W.InstAt s.heap a oe D none := by
    obtain ⟨oc, od, oda, osl⟩ := oe
    obtain ⟨h1, h2⟩ := hz
    dsimp only at h1 h2 hv
    subst h1 h2 hv
    exact ⟨hget, rfl, rfl, trivial⟩
  exact PySem.W.kia_one (PySem.W.handS_kitx_exc C.hg C.hk C.hs C.hd C.ha C.hn C.ht C.hm) I.kIn J e (fun z => nomatch z) fun tk => ⟨.bl b, H, I.kept (t' := tk) fun _ _ z => z, rfl, q⟩
end
/-! ### the mathematics of neighbours -/
/-- the neighbours by the wheel at k -/
def nbAt (ws ss : List Int) (k : Nat) : List (List Int) :=
  (if 0 < ss.getD k 0 then [ss.set k (ss.getD k 0 - 1)] else []) ++ (if ss.getD k 0 + 1 < ws.getD k 0 then [ss.set k (ss.getD k 0 + 1)] else [])
def nbUp (ws ss : List Int) : Nat → List (List Int)
  | 0 => []
  | k + 1 => nbUp ws ss k ++ nbAt ws ss k
def nbs (ws ss : List Int) : List (List Int) := nbUp ws ss ss.length
theorem nbAt_len (ws ss : List Int) (k : Nat) : (nbAt ws ss k).length ≤ 2 := by
  unfold nbAt
  split <;> split <;> simp
theorem nbUp_len (ws ss : List Int) : ∀ k, (nbUp ws ss k).length ≤ 2 * k
  | 0 => Nat.le_refl _
  | k + 1 => by
    have := nbUp_len ws ss k
    have := nbAt_len ws ss k
    show (nbUp ws ss k ++ nbAt ws ss k).length ≤ _
    rw [List.length_append]
    omega
theorem mem_nbUp {ws ss t : List Int} : ∀ {n : Nat}, t ∈ nbUp ws ss n → ∃ k, k < n ∧ t ∈ nbAt ws ss k
  | 0, h => by cases h
  | n + 1, h => by
    rcases List.mem_append.mp h with h | h
    · obtain ⟨k, hk, h⟩ := mem_nbUp h
      exact ⟨k, by omega, h⟩
    · exact ⟨n, by omega, h⟩
theorem nbUp_mem {ws ss t : List Int} {n k : Nat} (hk : k < n) (h : t ∈ nbAt ws ss k) : t ∈ nbUp ws ss n := by
  induction n with
  | zero => omega
  | succ n ih =>
    by_cases e : k = n
    · subst e
      exact List.mem_append_right _ h
    · exact List.mem_append_left _ (ih (by omega))
theorem mem_nbAt {ws ss t : List Int} {k : Nat} : t ∈ nbAt ws ss k ↔ (0 < ss.getD k 0 ∧ t = ss.set k (ss.getD k 0 - 1)) ∨ (ss.getD k 0 + 1 < ws.getD k 0 ∧ t = ss.set k (ss.getD k 0 + 1)) := by
  unfold nbAt
  rw [List.mem_append]
  constructor
  · intro h
    rcases h with h | h
    · left
      split at h
      · rename_i c
        exact ⟨c, List.mem_singleton.mp h⟩
      · cases h
    · right
      split at h
      · rename_i c
        exact ⟨c, List.mem_singleton.mp h⟩
      · cases h
  · intro h
    rcases h with ⟨c, e⟩ | ⟨c, e⟩
    · left
      rw [if_pos c, e]
      exact List.mem_singleton.mpr rfl
    · right
      rw [if_pos c, e]
      exact List.mem_singleton.mpr rfl
theorem getD_cons_zero' (a : Int) (l : List Int) : (a :: l).getD 0 0 = a := rfl
theorem getD_cons_succ' (a : Int) (l : List Int) (k : Nat) : (a :: l).getD (k + 1) 0 = l.getD k 0 := rfl
/-- a number set within its bounds -/
theorem InS.set : ∀ {ws ss : List Int} {k : Nat} {x : Int}, InS ws ss → k < ss.length → 0 ≤ x → x < ws.getD k 0 → InS ws (ss.set k x)
  | w :: ws, s :: ss, 0, x, h, _, h0, h1 => ⟨⟨h0, h1⟩, h.2⟩
  | w :: ws, s :: ss, k + 1, x, h, hk, h0, h1 => ⟨h.1, InS.set h.2 (by simpa using hk) h0 (by simpa using h1)⟩
  | [], [], _, _, _, hk, _, _ => by simp at hk
  | [], _ :: _, _, _, h, _, _, _ => False.elim h
  | _ :: _, [], _, _, h, _, _, _ => False.elim h
theorem InS.get : ∀ {ws ss : List Int} {k : Nat}, InS ws ss → k < ss.length → 0 ≤ ss.getD k 0 ∧ ss.getD k 0 < ws.getD k 0
  | w :: ws, s :: ss, 0, h, _ => h.1
  | w :: ws, s :: ss, k + 1, h, hk => InS.get (ws := ws) (ss := ss) (k := k) h.2 (by simpa using hk)
  | [], [], _, _, hk => by simp at hk
  | [], _ :: _, _, h, _ => False.elim h
  | _ :: _, [], _, h, _ => False.elim h
theorem nb_in {ws ss t : List Int} (h : InS ws ss) (ht : t ∈ nbs ws ss) : InS ws t := by
  obtain ⟨k, hk, h2⟩ := mem_nbUp ht
  have hg := h.get hk
  rcases mem_nbAt.mp h2 with ⟨c, rfl⟩ | ⟨c, rfl⟩
  · exact h.set hk (by omega) (by omega)
  · exact h.set hk (by omega) c
theorem iabs_nn (i : Int) : 0 ≤ iabs i := by
  unfold iabs
  split <;> omega
theorem dist_nn : ∀ a b : List Int, 0 ≤ dist a b
  | [], [] => Int.le_refl _
  | [], _ :: _ => Int.le_refl _
  | _ :: _, [] => Int.le_refl _
  | x :: a, y :: b => by
    have h1 := iabs_nn (x - y)
    have h2 := dist_nn a b
    show 0 ≤ iabs (x - y) + dist a b
    omega
theorem dist_set : ∀ {a b : List Int} {k : Nat} (x : Int), a.length = b.length → k < a.length → dist (a.set k x) b = dist a b - iabs (a.getD k 0 - b.getD k 0) + iabs (x - b.getD k 0)
  | y :: a, z :: b, 0, x, h, _ => by
    show iabs (x - z) + dist a b = iabs (y - z) + dist a b - iabs (y - z) + iabs (x - z)
    omega
  | y :: a, z :: b, k + 1, x, h, hk => by
    have ih := dist_set (a := a) (b := b) (k := k) x (by simpa using h) (by simpa using hk)
    show iabs (y - z) + dist (a.set k x) b = iabs (y - z) + dist a b - iabs (a.getD k 0 - b.getD k 0) + iabs (x - b.getD k 0)
    omega
  | [], _, _, _, _, hk => by simp at hk
  | _ :: _, [], _, _, h, _ => by simp at h
theorem nb_dist {ws ss ts t : List Int} (h : ss.length = ts.length) (ht : t ∈ nbs ws ss) : iabs (dist t ts - dist ss ts) = 1 := by
  obtain ⟨k, hk, h2⟩ := mem_nbUp ht
  rcases mem_nbAt.mp h2 with ⟨c, rfl⟩ | ⟨c, rfl⟩
  · rw [dist_set _ h hk]
    unfold iabs
    split <;> split <;> split <;> omega
  · rw [dist_set _ h hk]
    unfold iabs
    split <;> split <;> split <;> omega
/-- where two settings differ at all, they differ at a wheel -/
theorem dist_pos : ∀ {a b : List Int}, a.length = b.length → 0 < dist a b → ∃ k, k < a.length ∧ a.getD k 0 ≠ b.getD k 0
  | [], [], _, h => by
    have : (0 : Int) < 0 := h
    omega
  | x :: a, y :: b, hl, h => by
    by_cases e : x = y
    · subst e
      have h' : 0 < iabs (x - x) + dist a b := h
      rw [iabs_self] at h'
      obtain ⟨k, hk, hne⟩ := dist_pos (a := a) (b := b) (by simpa using hl) (by omega)
      exact ⟨k + 1, by simpa using hk, hne⟩
    · exact ⟨0, by simp, e⟩
  | [], _ :: _, h, _ => by simp at h
  | _ :: _, [], h, _ => by simp at h
theorem nb_nearer {ws ss ts : List Int} (hs : InS ws ss) (ht : InS ws ts) (h : 0 < dist ss ts) : ∃ t, t ∈ nbs ws ss ∧ dist t ts - dist ss ts = -1 := by
  have hl : ss.length = ts.length := by rw [hs.len, ht.len]
  obtain ⟨k, hk, hne⟩ := dist_pos hl h
  have g1 := hs.get hk
  have g2 := ht.get (by rw [← hl]; exact hk)
  by_cases c : ts.getD k 0 < ss.getD k 0
  · refine ⟨ss.set k (ss.getD k 0 - 1), nbUp_mem hk (mem_nbAt.mpr (.inl ⟨by omega, rfl⟩)), ?_⟩
    rw [dist_set _ hl hk]
    unfold iabs
    split <;> split <;> omega
  · refine ⟨ss.set k (ss.getD k 0 + 1), nbUp_mem hk (mem_nbAt.mpr (.inr ⟨by omega, rfl⟩)), ?_⟩
    rw [dist_set _ hl hk]
    unfold iabs
    split <;> split <;> omega
/-- a number put in at a place -/
theorem set_cut {ss : List Int} {k : Nat} (x : Int) (h : k < ss.length) : ss.take k ++ [x] ++ ss.drop (k + 1) = ss.set k x := by
  rw [List.set_eq_take_append_cons_drop, if_pos h, List.append_assoc]
  rfl
/-- the neighbours as the law lists them: by each number one less and one more that lies within -/
theorem nbAt_law {ws ss : List Int} {k : Nat} (h : InS ws ss) (hk : k < ss.length) :
    nbAt ws ss k = (if 0 ≤ ss.getD k 0 - 1 ∧ ss.getD k 0 - 1 < ws.getD k 0 then [ss.set k (ss.getD k 0 - 1)] else []) ++ (if 0 ≤ ss.getD k 0 + 1 ∧ ss.getD k 0 + 1 < ws.getD k 0 then [ss.set k (ss.getD k 0 + 1)] else []) := by
  have g := h.get hk
  unfold nbAt
  congr 1
  · by_cases c : 0 < ss.getD k 0
    · rw [if_pos c, if_pos (by omega)]
    · rw [if_neg c, if_neg (by omega)]
  · by_cases c : ss.getD k 0 + 1 < ws.getD k 0
    · rw [if_pos c, if_pos (by omega)]
    · rw [if_neg c, if_neg (by omega)]
/-! ### the text by places -/
def topS (i : Nat) : Stmt := PySem.Challenge.pw_wheelways_k06_refused.main.body.getD i (.Pass ⟨0, 0, 0, 0⟩)
abbrev S_is_whole : Stmt := topS 8
theorem sc_is_whole : FnScope ["thing"] ["thing"] (defScope S_is_whole) := ⟨rfl, rfl, rfl, by decide +kernel, rfl, by decide +kernel, by decide +kernel⟩
abbrev S_check_wheels : Stmt := topS 9
theorem sc_check_wheels : FnScope ["wheels", "size"] ["wheels"] (defScope S_check_wheels) := ⟨rfl, rfl, rfl, by decide +kernel, rfl, by decide +kernel, by decide +kernel⟩
abbrev S_is_setting : Stmt := topS 10
theorem sc_is_setting : FnScope ["wheels", "setting", "k"] ["wheels", "setting"] (defScope S_is_setting) := ⟨rfl, rfl, rfl, by decide +kernel, rfl, by decide +kernel, by decide +kernel⟩
abbrev S_check_setting : Stmt := topS 11
theorem sc_check_setting : FnScope ["wheels", "setting"] ["wheels", "setting"] (defScope S_check_setting) := ⟨rfl, rfl, rfl, by decide +kernel, rfl, by decide +kernel, by decide +kernel⟩
abbrev S_check_number : Stmt := topS 12
theorem sc_check_number : FnScope ["wheels", "number"] ["wheels", "number"] (defScope S_check_number) := ⟨rfl, rfl, rfl, by decide +kernel, rfl, by decide +kernel, by decide +kernel⟩
abbrev S_count_of : Stmt := topS 13
theorem sc_count_of : FnScope ["wheels", "found", "size"] ["wheels"] (defScope S_count_of) := ⟨rfl, rfl, rfl, by decide +kernel, rfl, by decide +kernel, by decide +kernel⟩
abbrev S_settings : Stmt := topS 14
theorem sc_settings : FnScope ["wheels"] ["wheels"] (defScope S_settings) := ⟨rfl, rfl, rfl, by decide +kernel, rfl, by decide +kernel, by decide +kernel⟩
abbrev S_neighbours : Stmt := topS 15
theorem sc_neighbours : FnScope ["wheels", "setting", "found", "k", "number"] ["wheels", "setting"] (defScope S_neighbours) := ⟨rfl, rfl, rfl, by decide +kernel, rfl, by decide +kernel, by decide +kernel⟩
abbrev S_near : Stmt := topS 16
theorem sc_near : FnScope ["wheels", "setting"] ["wheels", "setting"] (defScope S_near) := ⟨rfl, rfl, rfl, by decide +kernel, rfl, by decide +kernel, by decide +kernel⟩
abbrev S_apart : Stmt := topS 17
theorem sc_apart : FnScope ["wheels", "one", "other", "k"] ["wheels", "one", "other"] (defScope S_apart) := ⟨rfl, rfl, rfl, by decide +kernel, rfl, by decide +kernel, by decide +kernel⟩
abbrev S_turning : Stmt := topS 20
theorem sc_turning : FnScope ["wheels", "k", "size"] ["wheels"] (defScope S_turning) := ⟨rfl, rfl, rfl, by decide +kernel, rfl, by decide +kernel, by decide +kernel⟩
abbrev S_Around_shows : Stmt := inClass (topS 21) 0
theorem sc_Around_shows : FnScope ["self", "wheels"] ["self", "wheels"] (defScope S_Around_shows) := ⟨rfl, rfl, rfl, by decide +kernel, rfl, by decide +kernel, by decide +kernel⟩
abbrev S_Dead_init : Stmt := inClass (topS 22) 0
theorem sc_Dead_init : FnScope ["self", "setting"] ["self", "setting"] (defScope S_Dead_init) := ⟨rfl, rfl, rfl, by decide +kernel, rfl, by decide +kernel, by decide +kernel⟩
abbrev S_setting_at : Stmt := topS 25
theorem sc_setting_at : FnScope ["wheels", "number", "found", "size", "rest"] ["wheels", "number"] (defScope S_setting_at) := ⟨rfl, rfl, rfl, by decide +kernel, rfl, by decide +kernel, by decide +kernel⟩
abbrev S_number_at : Stmt := topS 26
theorem sc_number_at : FnScope ["wheels", "setting", "found", "k", "rest"] ["wheels", "setting"] (defScope S_number_at) := ⟨rfl, rfl, rfl, by decide +kernel, rfl, by decide +kernel, by decide +kernel⟩
abbrev S_setting_of : Stmt := topS 27
theorem sc_setting_of : FnScope ["wheels", "number"] ["wheels", "number"] (defScope S_setting_of) := ⟨rfl, rfl, rfl, by decide +kernel, rfl, by decide +kernel, by decide +kernel⟩
abbrev S_number_of : Stmt := topS 28
theorem sc_number_of : FnScope ["wheels", "setting"] ["wheels", "setting"] (defScope S_number_of) := ⟨rfl, rfl, rfl, by decide +kernel, rfl, by decide +kernel, by decide +kernel⟩
abbrev S_around : Stmt := topS 30
theorem sc_around : FnScope ["wheels", "size"] ["wheels"] (defScope S_around) := ⟨rfl, rfl, rfl, by decide +kernel, rfl, by decide +kernel, by decide +kernel⟩
abbrev S_check_ring : Stmt := topS 31
theorem sc_check_ring : FnScope ["wheels"] ["wheels"] (defScope S_check_ring) := ⟨rfl, rfl, rfl, by decide +kernel, rfl, by decide +kernel, by decide +kernel⟩
abbrev S_even_wheel : Stmt := topS 32
theorem sc_even_wheel : FnScope ["wheels", "k", "size"] ["wheels"] (defScope S_even_wheel) := ⟨rfl, rfl, rfl, by decide +kernel, rfl, by decide +kernel, by decide +kernel⟩
abbrev S_without : Stmt := topS 33
theorem sc_without : FnScope ["things", "place"] ["things", "place"] (defScope S_without) := ⟨rfl, rfl, rfl, by decide +kernel, rfl, by decide +kernel, by decide +kernel⟩
abbrev S_ring_setting : Stmt := topS 34
theorem sc_ring_setting : FnScope ["wheels", "number", "even", "others", "size", "height", "place", "down", "along", "told"] ["wheels", "number"] (defScope S_ring_setting) := ⟨rfl, rfl, rfl, by decide +kernel, rfl, by decide +kernel, by decide +kernel⟩
abbrev S_ring_number : Stmt := topS 35
theorem sc_ring_number : FnScope ["wheels", "setting", "even", "others", "height", "place", "down", "along"] ["wheels", "setting"] (defScope S_ring_number) := ⟨rfl, rfl, rfl, by decide +kernel, rfl, by decide +kernel, by decide +kernel⟩
abbrev S_written : Stmt := topS 38
theorem sc_written : FnScope ["wheels", "setting", "sizes", "size", "number"] ["wheels", "setting"] (defScope S_written) := ⟨rfl, rfl, rfl, by decide +kernel, rfl, by decide +kernel, by decide +kernel⟩
abbrev S_law_cell_at : Stmt := topS 40
theorem sc_law_cell_at : FnScope ["_law_script", "_law_k"] ["_law_script", "_law_k"] (defScope S_law_cell_at) := ⟨rfl, rfl, rfl, by decide +kernel, rfl, by decide +kernel, by decide +kernel⟩
abbrev S_law_draw : Stmt := topS 41
theorem sc_law_draw : FnScope ["_law_cell", "_law_k", "_law_many", "_law_primes"] ["_law_cell", "_law_k", "_law_many"] (defScope S_law_draw) := ⟨rfl, rfl, rfl, by decide +kernel, rfl, by decide +kernel, by decide +kernel⟩
abbrev S_law_wheels : Stmt := topS 42
theorem sc_law_wheels : FnScope ["_law_script", "_law_kind", "_law_found", "_law_k", "_law_size"] ["_law_script"] (defScope S_law_wheels) := ⟨rfl, rfl, rfl, by decide +kernel, rfl, by decide +kernel, by decide +kernel⟩
abbrev S_law_setting : Stmt := topS 44
theorem sc_law_setting : FnScope ["_law_script", "_law_wheels_here", "_law_by", "_law_kind", "_law_found", "_law_k", "_law_size", "_law_number"] ["_law_script", "_law_wheels_here", "_law_by"] (defScope S_law_setting) := ⟨rfl, rfl, rfl, by decide +kernel, rfl, by decide +kernel, by decide +kernel⟩
abbrev S_law_count : Stmt := topS 45
theorem sc_law_count : FnScope ["_law_wheels_here", "_law_found", "_law_size"] ["_law_wheels_here"] (defScope S_law_count) := ⟨rfl, rfl, rfl, by decide +kernel, rfl, by decide +kernel, by decide +kernel⟩
abbrev S_law_kinds : Stmt := topS 49
theorem sc_law_kinds : FnScope ["_law_error", "_law_found"] ["_law_error"] (defScope S_law_kinds) := ⟨rfl, rfl, rfl, by decide +kernel, rfl, by decide +kernel, by decide +kernel⟩
abbrev S_law_with_wheels : Stmt := topS 50
theorem sc_law_with_wheels : FnScope ["_law_door", "_law_wheels_here"] ["_law_door", "_law_wheels_here"] (defScope S_law_with_wheels) := ⟨rfl, rfl, rfl, by decide +kernel, rfl, by decide +kernel, by decide +kernel⟩
abbrev S_law_with_setting : Stmt := topS 51
theorem sc_law_with_setting : FnScope ["_law_ask", "_law_wheels_here", "_law_setting_here"] ["_law_ask", "_law_wheels_here", "_law_setting_here"] (defScope S_law_with_setting) := ⟨rfl, rfl, rfl, by decide +kernel, rfl, by decide +kernel, by decide +kernel⟩
abbrev S_law_with_number : Stmt := topS 52
theorem sc_law_with_number : FnScope ["_law_wheels_here", "_law_number"] ["_law_wheels_here", "_law_number"] (defScope S_law_with_number) := ⟨rfl, rfl, rfl, by decide +kernel, rfl, by decide +kernel, by decide +kernel⟩
abbrev S_law_told : Stmt := topS 53
theorem sc_law_told : FnScope ["_law_ask", "_law_one", "_law_other", "_law_error"] ["_law_ask", "_law_one", "_law_other"] (defScope S_law_told) := ⟨rfl, rfl, rfl, by decide +kernel, rfl, by decide +kernel, by decide +kernel⟩
abbrev S_law_settings_refused : Stmt := topS 54
theorem sc_law_settings_refused : FnScope ["_law_wheels_here", "_law_setting_here", "_law_bad", "_law_due", "_law_ask", "_law_thing", "_law_error"] ["_law_wheels_here", "_law_setting_here", "_law_bad", "_law_due"] (defScope S_law_settings_refused) := ⟨rfl, rfl, rfl, by decide +kernel, rfl, by decide +kernel, by decide +kernel⟩
abbrev S_law_rings_right : Stmt := topS 55
theorem sc_law_rings_right : FnScope ["_law_due", "_law_far_here", "_law_wheels_here", "_law_number", "_law_setting_here"] ["_law_due", "_law_far_here"] (defScope S_law_rings_right) := ⟨rfl, rfl, rfl, by decide +kernel, rfl, by decide +kernel, by decide +kernel⟩
abbrev S_law : Stmt := topS 56
theorem sc_law : FnScope ["_law_script", "_law_far_here", "_law_due", "_law_k", "_law_wheels_here", "_law_setting_here", "_law_size", "_law_kept", "_law_bad", "_law_at", "_law_door", "_law_some", "_law_strange", "_law_whole_here", "_law_number", "_law_great", "_law_thing"] ["_law_script"] (defScope S_law) := ⟨rfl, rfl, rfl, by decide +kernel, rfl, by decide +kernel, by decide +kernel⟩
/-- where the classes stand -/
structure Cs where
  WheelError : Addr
  BadWheels : Addr
  BadSetting : Addr
  BadNumber : Addr
  NoRing : Addr
  BadText : Addr
  Answer : Addr
  Around : Addr
  Dead : Addr
  Odd : Addr
  a_around : Addr
  a_ring_setting : Addr
  a_ring_number : Addr
  a__law_with_wheels : Addr
  a__law_with_number : Addr
/-- what the top has written -/
structure Txt (K : PySem.W.Frag) (mg : Str → Option Value) (C : Cs) : Prop where
  d_is_whole : Df K mg "is_whole" ["thing"] S_is_whole
  d_check_wheels : Df K mg "check_wheels" ["wheels"] S_check_wheels
  d_is_setting : Df K mg "is_setting" ["wheels", "setting"] S_is_setting
  d_check_setting : Df K mg "check_setting" ["wheels", "setting"] S_check_setting
  d_check_number : Df K mg "check_number" ["wheels", "number"] S_check_number
  d_count_of : Df K mg "count_of" ["wheels"] S_count_of
  d_settings : Df K mg "settings" ["wheels"] S_settings
  d_neighbours : Df K mg "neighbours" ["wheels", "setting"] S_neighbours
  d_near : Df K mg "near" ["wheels", "setting"] S_near
  d_apart : Df K mg "apart" ["wheels", "one", "other"] S_apart
  d_turning : Df K mg "turning" ["wheels"] S_turning
  d_setting_at : Df K mg "setting_at" ["wheels", "number"] S_setting_at
  d_number_at : Df K mg "number_at" ["wheels", "setting"] S_number_at
  d_setting_of : Df K mg "setting_of" ["wheels", "number"] S_setting_of
  d_number_of : Df K mg "number_of" ["wheels", "setting"] S_number_of
  d_around : Df K mg "around" ["wheels"] S_around
  d_check_ring : Df K mg "check_ring" ["wheels"] S_check_ring
  d_even_wheel : Df K mg "even_wheel" ["wheels"] S_even_wheel
  d_without : Df K mg "without" ["things", "place"] S_without
  d_ring_setting : Df K mg "ring_setting" ["wheels", "number"] S_ring_setting
  d_ring_number : Df K mg "ring_number" ["wheels", "setting"] S_ring_number
  d_written : Df K mg "written" ["wheels", "setting"] S_written
  d_law_cell_at : Df K mg "_law_cell_at" ["_law_script", "_law_k"] S_law_cell_at
  d_law_draw : Df K mg "_law_draw" ["_law_cell", "_law_k", "_law_many"] S_law_draw
  d_law_wheels : Df K mg "_law_wheels" ["_law_script"] S_law_wheels
  d_law_setting : Df K mg "_law_setting" ["_law_script", "_law_wheels_here", "_law_by"] S_law_setting
  d_law_count : Df K mg "_law_count" ["_law_wheels_here"] S_law_count
  d_law_kinds : Df K mg "_law_kinds" ["_law_error"] S_law_kinds
  d_law_with_wheels : Df K mg "_law_with_wheels" ["_law_door", "_law_wheels_here"] S_law_with_wheels
  d_law_with_setting : Df K mg "_law_with_setting" ["_law_ask", "_law_wheels_here", "_law_setting_here"] S_law_with_setting
  d_law_with_number : Df K mg "_law_with_number" ["_law_wheels_here", "_law_number"] S_law_with_number
  d_law_told : Df K mg "_law_told" ["_law_ask", "_law_one", "_law_other"] S_law_told
  d_law_settings_refused : Df K mg "_law_settings_refused" ["_law_wheels_here", "_law_setting_here", "_law_bad", "_law_due"] S_law_settings_refused
  d_law_rings_right : Df K mg "_law_rings_right" ["_law_due", "_law_far_here"] S_law_rings_right
  d_law : Df K mg "law" ["_law_script"] S_law
  b_ValueError : mg "ValueError" = none
  b_abs : mg "abs" = none
  b_all : mg "all" = none
  b_bool : mg "bool" = none
  b_divmod : mg "divmod" = none
  b_enumerate : mg "enumerate" = none
  b_int : mg "int" = none
  b_isinstance : mg "isinstance" = none
  b_len : mg "len" = none
  b_list : mg "list" = none
  b_range : mg "range" = none
  b_reversed : mg "reversed" = none
  b_sorted : mg "sorted" = none
  b_str : mg "str" = none
  b_sum : mg "sum" = none
  b_tuple : mg "tuple" = none
  e_BadNumber : ExcF K mg "BadNumber" C.BadNumber
  e_BadSetting : ExcF K mg "BadSetting" C.BadSetting
  e_BadWheels : ExcF K mg "BadWheels" C.BadWheels
  e_NoRing : ExcF K mg "NoRing" C.NoRing
  c_Around : ClsF K mg "Around" C.Around
  i_Around : PySem.W.findIn K (.ref C.Around) "__init__" = some (some (.builtin "object.__init__"))
  c_Dead : ClsF K mg "Dead" C.Dead
  c_Odd : ClsF K mg "Odd" C.Odd
  i_Odd : PySem.W.findIn K (.ref C.Odd) "__init__" = some (some (.builtin "object.__init__"))
  m_Around_shows : Mt K C.Around "shows" "Around.shows" ["self", "wheels"] S_Around_shows
  m_Dead_init : Mt K C.Dead "__init__" "Dead.__init__" ["self", "setting"] S_Dead_init
  g_BadNumber : mg "BadNumber" = some (.ref C.BadNumber)
  g_BadSetting : mg "BadSetting" = some (.ref C.BadSetting)
  g_BadText : mg "BadText" = some (.ref C.BadText)
  g_BadWheels : mg "BadWheels" = some (.ref C.BadWheels)
  g_NoRing : mg "NoRing" = some (.ref C.NoRing)
  g_WheelError : mg "WheelError" = some (.ref C.WheelError)
  k_MOST : ∃ t, mg "MOST" = some (.int (10 ^ 60) t)
  a__law_with_number : mg "_law_with_number" = some (.ref C.a__law_with_number)
  a__law_with_wheels : mg "_law_with_wheels" = some (.ref C.a__law_with_wheels)
  a_ring_number : mg "ring_number" = some (.ref C.a_ring_number)
  a_ring_setting : mg "ring_setting" = some (.ref C.a_ring_setting)
  exc_BadWheels : ExcC K C.BadWheels
  isx_BadWheels_BadNumber : PySem.W.kitOne K (.ref C.BadWheels) (.ref C.BadNumber) = some false
  isx_BadWheels_BadSetting : PySem.W.kitOne K (.ref C.BadWheels) (.ref C.BadSetting) = some false
  isx_BadWheels_BadText : PySem.W.kitOne K (.ref C.BadWheels) (.ref C.BadText) = some false
  isx_BadWheels_BadWheels : PySem.W.kitOne K (.ref C.BadWheels) (.ref C.BadWheels) = some true
  isx_BadWheels_NoRing : PySem.W.kitOne K (.ref C.BadWheels) (.ref C.NoRing) = some false
  isx_BadWheels_ValueError : PySem.W.kitOne K (.ref C.BadWheels) (.type "ValueError") = some true
  exm_BadWheels_WheelError : PySem.W.exmOne K (.ref C.BadWheels) (.ref C.WheelError) = some true
  exc_BadSetting : ExcC K C.BadSetting
  isx_BadSetting_BadNumber : PySem.W.kitOne K (.ref C.BadSetting) (.ref C.BadNumber) = some false
  isx_BadSetting_BadSetting : PySem.W.kitOne K (.ref C.BadSetting) (.ref C.BadSetting) = some true
  isx_BadSetting_BadText : PySem.W.kitOne K (.ref C.BadSetting) (.ref C.BadText) = some false
  isx_BadSetting_BadWheels : PySem.W.kitOne K (.ref C.BadSetting) (.ref C.BadWheels) = some false
  isx_BadSetting_NoRing : PySem.W.kitOne K (.ref C.BadSetting) (.ref C.NoRing) = some false
  isx_BadSetting_ValueError : PySem.W.kitOne K (.ref C.BadSetting) (.type "ValueError") = some true
  exm_BadSetting_WheelError : PySem.W.exmOne K (.ref C.BadSetting) (.ref C.WheelError) = some true
  exc_BadNumber : ExcC K C.BadNumber
  isx_BadNumber_BadNumber : PySem.W.kitOne K (.ref C.BadNumber) (.ref C.BadNumber) = some true
  isx_BadNumber_BadSetting : PySem.W.kitOne K (.ref C.BadNumber) (.ref C.BadSetting) = some false
  isx_BadNumber_BadText : PySem.W.kitOne K (.ref C.BadNumber) (.ref C.BadText) = some false
  isx_BadNumber_BadWheels : PySem.W.kitOne K (.ref C.BadNumber) (.ref C.BadWheels) = some false
  isx_BadNumber_NoRing : PySem.W.kitOne K (.ref C.BadNumber) (.ref C.NoRing) = some false
  isx_BadNumber_ValueError : PySem.W.kitOne K (.ref C.BadNumber) (.type "ValueError") = some true
  exm_BadNumber_WheelError : PySem.W.exmOne K (.ref C.BadNumber) (.ref C.WheelError) = some true
  exc_NoRing : ExcC K C.NoRing
  isx_NoRing_BadNumber : PySem.W.kitOne K (.ref C.NoRing) (.ref C.BadNumber) = some false
  isx_NoRing_BadSetting : PySem.W.kitOne K (.ref C.NoRing) (.ref C.BadSetting) = some false
  isx_NoRing_BadText : PySem.W.kitOne K (.ref C.NoRing) (.ref C.BadText) = some false
  isx_NoRing_BadWheels : PySem.W.kitOne K (.ref C.NoRing) (.ref C.BadWheels) = some false
  isx_NoRing_NoRing : PySem.W.kitOne K (.ref C.NoRing) (.ref C.NoRing) = some true
  isx_NoRing_ValueError : PySem.W.kitOne K (.ref C.NoRing) (.type "ValueError") = some true
  exm_NoRing_WheelError : PySem.W.exmOne K (.ref C.NoRing) (.ref C.WheelError) = some true
  n_setting : NoAttr K C.Dead "setting"
/-! ### is_whole, check_wheels -/
def sp_is_whole (K : PySem.W.Frag) (_ : Cs) : Sp := fun vs H Q _ => ∃ (v : V) (kd : Kd), vs = [v] ∧ Thg K H v kd ∧ RetV (.bl kd.whole) H Q
theorem whole_eq (kd : Kd) : (kd.isInt && !kd.isBool) = kd.whole := by cases kd <;> rfl
theorem spv_whole {K : PySem.W.Frag} {C : Cs} {H : Hp} {v : V} {kd : Kd} (h : Thg K H v kd) : SpV (sp_is_whole K C) [v] H (.bl kd.whole) := fun H1 e Q q E => ⟨v, kd, rfl, h.mono e, q⟩
theorem ok_is_whole {P : Program} {w : World} {K : PySem.W.Frag} {mg : Str → Option Value} {base : Heap} {C : Cs} (T : Txt K mg C) : Cl P w K mg base CX0 1 "is_whole" ["thing"] (sp_is_whole K C) := by
  refine cl0 T.d_is_whole sc_is_whole (fun vs H Q E h => ?_) (fun f cdv A outer s H vs Q E hr h => ?_)
  · obtain ⟨v, kd, rfl, hv, k⟩ := h
    rfl
  · obtain ⟨v, kd, rfl, hv, k⟩ := h
    refine ⟨_, (pss_one (ps_ret (pe_and (pe_callB (call_isiK' (K := K) rfl) (by rfl) T.b_isinstance (by decide +kernel) (pa_cons (pv 0) (pa_cons (pe_bltn (by rfl) T.b_int (by decide +kernel) (v := .ty "int") rfl) pa_nil))) (pe_one (pe_not (pe_callB (call_isiK' (K := K) rfl) (by rfl) T.b_isinstance (by decide +kernel) (pa_cons (pv 0) (pa_cons (pe_bltn (by rfl) T.b_bool (by decide +kernel) (v := .ty "bool") rfl) pa_nil)))))))), ?_⟩
    dsimp only [cxOf, L2H.cxH, Cx.nox, Cx.wish, L2.start, List.map_cons, List.map_nil, List.length_cons, List.length_nil, List.cons_append, List.nil_append]
    refine s_ret (v := .bl (kd.isInt && !kd.isBool)) (ev_andV (ev_cb (ea_cons (ev_var rfl) (ea_cons ev_c ea_nil)) (rc_isi hv fun _ => kd_int)) fun _ => ev_notV (ev_cb (ea_cons (ev_var rfl) (ea_cons ev_c ea_nil)) (rc_isi hv fun _ => kd_bool))) fun H1 e => ?_
    rw [whole_eq]
    exact k H1 e
def okSize : Kd → Bool
  | .int i => decide (1 ≤ i)
  | _ => false
def sp_check_wheels (K : PySem.W.Frag) (C : Cs) : Sp := fun vs H Q E => ∃ (v : V), vs = [v] ∧ ((∃ kd, Thg K H v kd ∧ kd.isList = false ∧ RetX C.BadWheels H E) ∨
  ∃ (a : Addr) (xs : List V) (ks : List Kd), v = .ref a ∧ SqL K H a xs ∧ Thgs K H xs ks ∧ xs.length ≤ 40000 ∧ (ks.all okSize = true → RetV .non H Q) ∧ (ks.all okSize = false → RetX C.BadWheels H E))
theorem ev_okSize {K : PySem.W.Frag} {H : Hp} {σ : L2.St} {te : TE} {v : V} {kd : Kd} (h : Thg K H v kd) (h1 : Ev te σ H (.bl kd.whole)) {tv : TE} (h2 : Ev tv σ H v) : Ev (tAndV te (tOp (rI0 fun i j => V.bl (decide (j ≤ i))) tv (tC (V.int 1)))) σ H (.bl (okSize kd)) := by
  cases h with
  | int i => exact ev_to (ev_andV h1 fun _ => ev_op h2 ev_c rv_I0) (by show V.bl (true && decide (1 ≤ i)) = V.bl (decide (1 ≤ i)); rw [Bool.true_and])
  | bl b => exact ev_andV (b := false) h1 fun q => nomatch q
  | non => exact ev_andV (b := false) h1 fun q => nomatch q
  | str x => exact ev_andV (b := false) h1 fun q => nomatch q
  | lst _ => exact ev_andV (b := false) h1 fun q => nomatch q
  | tup _ => exact ev_andV (b := false) h1 fun q => nomatch q
  | dct _ => exact ev_andV (b := false) h1 fun q => nomatch q
theorem all_map_id {α : Type} (f : α → Bool) (ks : List α) : (ks.map f).all id = ks.all f := by rw [List.all_map]; rfl
theorem ok_check_wheels {P : Program} {w : World} {K : PySem.W.Frag} {mg : Str → Option Value} {base : Heap} {C : Cs} (T : Txt K mg C) : Cl P w K mg base (L2N.CX P w) 2 "check_wheels" ["wheels"] (sp_check_wheels K C) := by
  have c_is_whole := ok_is_whole (P := P) (w := w) (base := base) T
  refine clX T.d_check_wheels sc_check_wheels (fun vs H Q E h => ?_) (fun f cdv A outer s H vs Q E hr h => ?_)
  · obtain ⟨v, rfl, h⟩ := h
    rfl
  · obtain ⟨v, rfl, h⟩ := h
    refine ⟨_, (pss_one (ps_if (PW.pt (pw_or (pt_not (pt_val (pe_callB (call_isiK' (K := K) rfl) (by rfl) T.b_isinstance (by decide +kernel) (pa_cons (pv 0) (pa_cons (pe_bltn (by rfl) T.b_list (by decide +kernel) (v := .ty "list") rfl) pa_nil))) (by intro _; rfl))) (pw_or1 (pt_not (pt_val (pe_callB (cr_allK (K := K) rfl rfl) (by rfl) T.b_all (by decide +kernel) (pa_cons (pe_lc (own := [("size", 1)]) (g := gName 1) (tt := tYes) rfl sc_check_wheels.nd (pi_listK (K := K) rfl (pv 0)) (blkOk_by (N := ["wheels", "size"]) (sc := defScope S_check_wheels) (own := [("size", 1)]) (by decide +kernel)) (fun _ _ _ _ _ => (pg_name (i := 1) sc_check_wheels.nd rfl (.inl rfl))) (fun _ _ _ _ _ => pts_nil) (fun _ _ _ _ _ => (pe_and (pe_cl c_is_whole (hr.mono (by decide)) (by rfl) pass0 (pa_cons (pv 1) pa_nil)) (pe_one (pe_cmpR op_ge (pv 1) pe_int (nomark _)))))) pa_nil)) (by intro _; rfl)))))) (pss_one (L2N.ps_raise rfl (L2N.takes_of rfl rfl rfl rfl) (L2N.pmk_own PySem.F.excBase_ValueError T.e_BadWheels.x T.e_BadWheels.g T.e_BadWheels.k (raises_own T.e_BadWheels.b T.e_BadWheels.t) rfl))) pss_nil)), ?_⟩
    dsimp only [cxOf, L2H.cxH, Cx.nox, Cx.wish, L2.start, List.map_cons, List.map_nil, List.length_cons, List.length_nil, List.cons_append, List.nil_append]
    rcases h with ⟨kd, hv, hk, kx⟩ | ⟨a, xs, ks, rfl, hS, hT, hl, k1, k2⟩
    · refine s_if (b := (!kd.isList || false)) (et_or (et_not (et_B (ev_cb (ea_cons (ev_var rfl) (ea_cons ev_c ea_nil)) (rc_isi hv fun _ => kd_list)))) fun q => ?_) (fun _ H1 e => kx H1 e) (fun q => ?_)
      · rw [hk] at q; cases q
      · rw [hk] at q; cases q
    · have e0 : (ks.map okSize).all id = ks.all okSize := all_map_id _ _
      refine s_if (b := (!true || !((ks.map okSize).all id))) (et_or (et_not (et_B (ev_cb (ea_cons (ev_var rfl) (ea_cons ev_c ea_nil)) (rc_isi (Thg.lst hS) fun _ => kd_list)))) fun q => et_not (et_B (ev_allN (el_list (by rw [List.length_map, List.length_map]; exact hT.len.symm) (ev_var rfl) hS hl (fun _ => rfl) fun i x y H1 e hx hy => ?_)))) (fun q H1 e => ?_) (fun q H1 e => ?_)
      · obtain ⟨kd, hk, ht⟩ := hT.get hx
        rw [List.map_map, List.getElem?_map, hk] at hy
        cases hy
        exact ev_okSize (ht.mono e) (ev_call (ea_cons (ev_var rfl) ea_nil) (spv_whole (ht.mono e))) (ev_var rfl)
      · rw [e0] at q
        refine k2 ?_ H1 e
        cases hq : ks.all okSize with
        | true => rw [hq] at q; cases q
        | false => rfl
      · rw [e0] at q
        refine k1 ?_ H1 e
        cases hq : ks.all okSize with
        | true => rfl
        | false => rw [hq] at q; cases q
/-! ### is_setting, check_setting -/
def inR (w : Int) : Kd → Bool
  | .int i => decide (0 ≤ i) && decide (i < w)
  | _ => false
def setOk : List Int → List Kd → Bool
  | [], [] => true
  | w :: ws, k :: ks => inR w k && setOk ws ks
  | _, _ => false
theorem setOk_len : ∀ {ws : List Int} {ks : List Kd}, setOk ws ks = true → ks.length = ws.length
  | [], [], _ => rfl
  | w :: ws, k :: ks, h => by
    have := setOk_len (ws := ws) (ks := ks) (by
      have h' : (inR w k && setOk ws ks) = true := h
      rw [Bool.and_eq_true] at h'
      exact h'.2)
    simp [this]
  | [], _ :: _, h => nomatch h
  | _ :: _, [], h => nomatch h
theorem setOk_range : ∀ (ws : List Int) (ks : List Kd), ks.length = ws.length → ((List.range ws.length).map fun i => inR (ws.getD i 0) (ks.getD i .rest)).all id = setOk ws ks
  | [], [], _ => rfl
  | w :: ws, k :: ks, h => by
    have := setOk_range ws ks (by simpa using h)
    rw [List.length_cons, List.range_succ_eq_map, List.map_cons, List.map_map, List.all_cons]
    show (inR w k && _) = (inR w k && setOk ws ks)
    rw [← this]
    rfl
  | [], _ :: _, h => by simp at h
  | _ :: _, [], h => by simp at h
theorem setOk_ints : ∀ {ws ss : List Int}, setOk ws (ss.map Kd.int) = true ↔ InS ws ss
  | [], [] => ⟨fun _ => trivial, fun _ => rfl⟩
  | w :: ws, s :: ss => by
    show (((decide (0 ≤ s) && decide (s < w)) && setOk ws (ss.map Kd.int)) = true) ↔ ((0 ≤ s ∧ s < w) ∧ InS ws ss)
    rw [Bool.and_eq_true, Bool.and_eq_true, decide_eq_true_iff, decide_eq_true_iff, setOk_ints]
  | [], _ :: _ => ⟨fun h => (nomatch h), fun h => False.elim h⟩
  | _ :: _, [] => ⟨fun h => (nomatch h), fun h => False.elim h⟩
/-- whether v is a setting of ws, as is_setting tells -/
def SetV (K : PySem.W.Frag) (H : Hp) (ws : List Int) (v : V) (b : Bool) : Prop :=
  (∃ kd, Thg K H v kd ∧ kd.isList = false ∧ b = false) ∨ ∃ (a : Addr) (xs : List V) (ks : List Kd), v = .ref a ∧ SqL K H a xs ∧ Thgs K H xs ks ∧ xs.length ≤ 40000 ∧ b = setOk ws ks
theorem SetV.mono {K : PySem.W.Frag} {H H' : Hp} {ws : List Int} {v : V} {b : Bool} (e : Ex H H') (h : SetV K H ws v b) : SetV K H' ws v b := by
  rcases h with ⟨kd, hv, hk, hb⟩ | ⟨a, xs, ks, rfl, hS, hT, hl, hb⟩
  · exact .inl ⟨kd, hv.mono e, hk, hb⟩
  · exact .inr ⟨a, xs, ks, rfl, ex_l e hS, hT.mono e, hl, hb⟩
theorem SetV.ints {K : PySem.W.Frag} {H : Hp} {ws ss : List Int} {a : Addr} (h : SqL K H a (ss.map V.int)) (hl : ss.length ≤ 40000) : SetV K H ws (.ref a) (setOk ws (ss.map Kd.int)) :=
  .inr ⟨a, _, _, rfl, h, Thgs.ints ss, by rw [List.length_map]; exact hl, rfl⟩
theorem SetV.good {K : PySem.W.Frag} {H : Hp} {ws ss : List Int} {a : Addr} (h : SqL K H a (ss.map V.int)) (hl : ss.length ≤ 40000) (hi : InS ws ss) : SetV K H ws (.ref a) true :=
  setOk_ints.mpr hi ▸ SetV.ints h hl
def sp_is_setting (K : PySem.W.Frag) (_ : Cs) : Sp := fun vs H Q _ => ∃ (a : Addr) (ws : List Int) (v : V) (b : Bool), vs = [.ref a, v] ∧ SqL K H a (ws.map V.int) ∧ ws.length ≤ 40000 ∧ SetV K H ws v b ∧ RetV (.bl b) H Q
theorem spv_is_setting {K : PySem.W.Frag} {C : Cs} {H : Hp} {a : Addr} {ws : List Int} {v : V} {b : Bool} (h1 : SqL K H a (ws.map V.int)) (h2 : ws.length ≤ 40000) (h : SetV K H ws v b) : SpV (sp_is_setting K C) [.ref a, v] H (.bl b) :=
  fun H1 e Q q E => ⟨a, ws, v, b, rfl, ex_l e h1, h2, h.mono e, q⟩
theorem ev_inR {K : PySem.W.Frag} {H : Hp} {σ : L2.St} {te : TE} {v : V} {kd : Kd} {w : Int} (h : Thg K H v kd) (h1 : Ev te σ H (.bl kd.whole)) {tv tw : TE} (h2 : Ev tv σ H v) (h3 : Ev tw σ H (.int w)) :
    Ev (tAndV te (tChain (rI0 fun i j => V.bl (decide (i ≤ j))) (rI0 fun i j => V.bl (decide (i < j))) (tC (V.int 0)) tv tw)) σ H (.bl (inR w kd)) := by
  cases h with
  | int i => exact ev_to (ev_andV h1 fun _ => ev_chainI (f := fun i j => decide (i ≤ j)) (f' := fun i j => decide (i < j)) ev_c h2 fun _ => h3) (by show V.bl (true && (decide (0 ≤ i) && decide (i < w))) = V.bl (decide (0 ≤ i) && decide (i < w)); rw [Bool.true_and])
  | bl b => exact ev_andV (b := false) h1 fun q => nomatch q
  | non => exact ev_andV (b := false) h1 fun q => nomatch q
  | str x => exact ev_andV (b := false) h1 fun q => nomatch q
  | lst _ => exact ev_andV (b := false) h1 fun q => nomatch q
  | tup _ => exact ev_andV (b := false) h1 fun q => nomatch q
  | dct _ => exact ev_andV (b := false) h1 fun q => nomatch q
theorem ok_is_setting {P : Program} {w : World} {K : PySem.W.Frag} {mg : Str → Option Value} {base : Heap} {C : Cs} (T : Txt K mg C) : Cl P w K mg base CX0 2 "is_setting" ["wheels", "setting"] (sp_is_setting K C) := by
  have c_is_whole := ok_is_whole (P := P) (w := w) (base := base) T
  refine cl0 T.d_is_setting sc_is_setting (fun vs H Q E h => ?_) (fun f cdv A outer s H vs Q E hr h => ?_)
  · obtain ⟨a, ws, v, b, rfl, hW, hwl, hV, k⟩ := h
    rfl
  · obtain ⟨a, ws, v, b, rfl, hW, hwl, hV, k⟩ := h
    refine ⟨_, (pss_cons (ps_if (PW.pt (pw_or (pt_not (pt_val (pe_callB (call_isiK' (K := K) rfl) (by rfl) T.b_isinstance (by decide +kernel) (pa_cons (pv 1) (pa_cons (pe_bltn (by rfl) T.b_list (by decide +kernel) (v := .ty "list") rfl) pa_nil))) (by intro _; rfl))) (pw_or1 (pt_cmpR op_ne (pe_callB (call_lenK (K := K) rfl) (by rfl) T.b_len PySem.boot_len (pa_cons (pv 1) pa_nil)) (pe_callB (call_lenK (K := K) rfl) (by rfl) T.b_len PySem.boot_len (pa_cons (pv 0) pa_nil)) (nomark _))))) (pss_one (ps_ret pe_bl)) pss_nil)
    (pss_one (ps_ret (pe_callB (cr_allK (K := K) rfl rfl) (by rfl) T.b_all (by decide +kernel) (pa_cons (pe_lc (own := [("k", 2)]) (g := gName 2) (tt := tYes) rfl sc_is_setting.nd (pi_range1 (by rfl) T.b_range (pa_cons (pe_callB (call_lenK (K := K) rfl) (by rfl) T.b_len PySem.boot_len (pa_cons (pv 0) pa_nil)) pa_nil)) (blkOk_by (N := ["wheels", "setting", "k"]) (sc := defScope S_is_setting) (own := [("k", 2)]) (by decide +kernel)) (fun _ _ _ _ _ => (pg_name (i := 2) sc_is_setting.nd rfl (.inl rfl))) (fun _ _ _ _ _ => pts_nil) (fun _ _ _ _ _ => (pe_and (pe_cl c_is_whole (hr.mono (by decide)) (by rfl) pass0 (pa_cons (pe_ix (ix_listK (K := K) rfl) (pv 1) (pv 2) (fun _ _ => rfl)) pa_nil)) (pe_one (pe_chain op_le op_lt pe_int (pe_ix (ix_listK (K := K) rfl) (pv 1) (pv 2) (fun _ _ => rfl)) (pe_ix (ix_listK (K := K) rfl) (pv 0) (pv 2) (fun _ _ => rfl))))))) pa_nil))))), ?_⟩
    dsimp only [cxOf, L2H.cxH, Cx.nox, Cx.wish, L2.start, List.map_cons, List.map_nil, List.length_cons, List.length_nil, List.cons_append, List.nil_append]
    rcases hV with ⟨kd, hv, hk, rfl⟩ | ⟨c, xs, ks, rfl, hS, hT, hl, rfl⟩
    · refine q_when (b := (!kd.isList || false)) (et_or (et_not (et_B (ev_cb (ea_cons (ev_var rfl) (ea_cons ev_c ea_nil)) (rc_isi hv fun _ => kd_list)))) fun q => ?_) (fun _ H1 e => s_ret ev_c fun H2 e2 => k _ (e.trans e2)) (fun q => ?_)
      · rw [hk] at q; cases q
      · rw [hk] at q; cases q
    · refine q_when (b := (!true || !decide ((xs.length : Int) = (ws.length : Int)))) (et_or (et_not (et_B (ev_cb (ea_cons (ev_var rfl) (ea_cons ev_c ea_nil)) (rc_isi (Thg.lst hS) fun _ => kd_list)))) fun q => ?zz) (fun q H1 e => ?_) (fun q H1 e => ?_)
      case zz =>
        walk_at "et"
      · refine s_ret ev_c fun H2 e2 => ?_
        have hne : setOk ws ks = false := by
          cases h : setOk ws ks with
          | false => rfl
          | true =>
            have h1 := setOk_len h
            have h2 := hT.len
            rw [decide_eq_true (show (xs.length : Int) = (ws.length : Int) by omega)] at q
            cases q
        rw [hne] at k
        exact k _ (e.trans e2)
      · have hlen : ks.length = ws.length := by
          have h2 := hT.len
          by_cases h : (xs.length : Int) = (ws.length : Int)
          · omega
          · rw [decide_eq_false h] at q; cases q
        have hT1 := hT.mono e
        have hS1 := ex_l e hS
        have hW1 := ex_l e hW
        refine s_ret (v := .bl (setOk ws ks)) ?_ fun H2 e2 => k _ (e.trans e2)
        rw [← setOk_range ws ks hlen]
        refine ev_allN (el_range (n := ws.length) (by rw [List.length_map, List.length_map, List.length_range]) (by walk_at "ea") hwl (fun _ => rfl) fun i y H2 e2 hi hy => ?_)
        rw [List.map_map, List.getElem?_map, List.getElem?_range hi] at hy
        cases hy
        have hix : i < xs.length := by have := hT.len; omega
        have hx : xs[i]? = some xs[i] := List.getElem?_eq_getElem hix
        obtain ⟨kd, hk, ht⟩ := hT1.get hx
        have ek : ks.getD i .rest = kd := by rw [List.getD_eq_getElem?_getD, hk]; rfl
        show Ev _ _ _ (.bl (inR (ws.getD i 0) (ks.getD i .rest)))
        rw [ek]
        have hW2 := ex_l e2 hW1
        have ei : Ev (tOp (rIxL K) (tVar 1) (tVar 2)) ((wipe [some (V.ref a), some (V.ref c), none] [2]).set 2 (some (.int (i : Int)))) H2 xs[i] := ev_op (ev_var rfl) (ev_var rfl) (rv_ixL (ex_l e2 hS1) (atI_nat hx))
        exact ev_inR (ht.mono e2) (ev_call (ea_cons ei ea_nil) (spv_whole (ht.mono e2))) ei (by walk_at "ev")
def sp_check_setting (K : PySem.W.Frag) (C : Cs) : Sp := fun vs H Q E => ∃ (a : Addr) (ws : List Int) (v : V) (b : Bool), vs = [.ref a, v] ∧ SqL K H a (ws.map V.int) ∧ ws.length ≤ 40000 ∧ SetV K H ws v b ∧ (b = true → RetV .non H Q) ∧ (b = false → RetX C.BadSetting H E)
theorem ok_check_setting {P : Program} {w : World} {K : PySem.W.Frag} {mg : Str → Option Value} {base : Heap} {C : Cs} (T : Txt K mg C) : Cl P w K mg base (L2N.CX P w) 3 "check_setting" ["wheels", "setting"] (sp_check_setting K C) := by
  have c_is_setting := ok_is_setting (P := P) (w := w) (base := base) T
  refine clX T.d_check_setting sc_check_setting (fun vs H Q E h => ?_) (fun f cdv A outer s H vs Q E hr h => ?_)
  · obtain ⟨a, ws, v, b, rfl, hW, hwl, hV, k1, k2⟩ := h
    rfl
  · obtain ⟨a, ws, v, b, rfl, hW, hwl, hV, k1, k2⟩ := h
    refine ⟨_, (pss_one (ps_if (pt_not (pt_val (pe_cl c_is_setting (hr.mono (by decide)) (by rfl) pass0 (pa_cons (pv 0) (pa_cons (pv 1) pa_nil))) (by intro _; rfl))) (pss_one (L2N.ps_raise rfl (L2N.takes_of rfl rfl rfl rfl) (L2N.pmk_own PySem.F.excBase_ValueError T.e_BadSetting.x T.e_BadSetting.g T.e_BadSetting.k (raises_own T.e_BadSetting.b T.e_BadSetting.t) rfl))) pss_nil)), ?_⟩
    dsimp only [cxOf, L2H.cxH, Cx.nox, Cx.wish, L2.start, List.map_cons, List.map_nil, List.length_cons, List.length_nil, List.cons_append, List.nil_append]
    refine s_if (b := !b) (et_not (et_B (ev_call (ea_cons (ev_var rfl) (ea_cons (ev_var rfl) ea_nil)) (spv_is_setting hW hwl hV)))) (fun q H1 e => k2 (by cases b with | true => cases q | false => rfl) H1 e) (fun q H1 e => k1 (by cases b with | true => rfl | false => cases q) H1 e)
/-! ### counts -/
/-- wheels that the program's arithmetic bears -/
structure Sm (ws : List Int) : Prop where
  len : ws.length ≤ 200
  pos : ∀ w ∈ ws, 0 ≤ w
  lt : ∀ w ∈ ws, w < 2 ^ 250
theorem Sm.nat {ws : List Int} (h : Sm ws) {w : Int} (hw : w ∈ ws) : w.natAbs < 2 ^ 250 := by
  have h0 := h.pos w hw
  have h1 := h.lt w hw
  have e : w = ((w.natAbs : Nat) : Int) := by omega
  rw [e] at h1
  exact_mod_cast h1
theorem cnt_lt : ∀ {ws : List Int}, (∀ w ∈ ws, w.natAbs < 2 ^ 250) → (cnt ws).natAbs < 2 ^ (250 * ws.length + 1)
  | [], _ => by show (1 : Int).natAbs < 2 ^ 1; decide
  | w :: ws, h => by
    have h1 := h w List.mem_cons_self
    have h2 := cnt_lt (ws := ws) fun x hx => h x (List.mem_cons_of_mem _ hx)
    have := wide_lt h1 h2
    show (w * cnt ws).natAbs < 2 ^ (250 * (ws.length + 1) + 1)
    rw [show 250 * (ws.length + 1) + 1 = 250 + (250 * ws.length + 1) by omega]
    exact this
theorem Sm.mulX {ws : List Int} (h : Sm ws) {i : Nat} {w : Int} (hw : w ∈ ws) : CMulX (cnt (ws.take i)) w := by
  have hl : (ws.take i).length ≤ 200 := Nat.le_trans (List.length_take_le' i ws) h.len
  refine mulx_ok (cnt_lt (ws := ws.take i) fun x hx => h.nat (List.mem_of_mem_take hx)) (h.nat hw) ?_
  omega
theorem take_succ_of {α : Type} {l : List α} {i : Nat} {x : α} (h : l[i]? = some x) : l.take (i + 1) = l.take i ++ [x] := by
  rw [List.take_succ, h]
  rfl
theorem map_get {ws : List Int} {i : Nat} {x : V} (h : (ws.map V.int)[i]? = some x) : ∃ w, x = .int w ∧ ws[i]? = some w ∧ w ∈ ws := by
  rw [List.getElem?_map] at h
  cases e : ws[i]? with
  | none => rw [e] at h; cases h
  | some w =>
    rw [e] at h
    exact ⟨w, (Option.some.inj h).symm, rfl, List.mem_of_getElem? e⟩
def sp_count_of (K : PySem.W.Frag) (_ : Cs) : Sp := fun vs H Q _ => ∃ (a : Addr) (ws : List Int), vs = [.ref a] ∧ SqL K H a (ws.map V.int) ∧ Sm ws ∧ RetV (.int (cnt ws)) H Q
theorem spv_count_of {K : PySem.W.Frag} {C : Cs} {H : Hp} {a : Addr} {ws : List Int} (h1 : SqL K H a (ws.map V.int)) (h : Sm ws) : SpV (sp_count_of K C) [.ref a] H (.int (cnt ws)) :=
  fun H1 e Q q E => ⟨a, ws, rfl, ex_l e h1, h, q⟩
theorem ok_count_of {P : Program} {w : World} {K : PySem.W.Frag} {mg : Str → Option Value} {base : Heap} {C : Cs} (T : Txt K mg C) : Cl P w K mg base CX0 1 "count_of" ["wheels"] (sp_count_of K C) := by
  refine cl0 T.d_count_of sc_count_of (fun vs H Q E h => ?_) (fun f cdv A outer s H vs Q E hr h => ?_)
  · obtain ⟨a, ws, rfl, hW, hm, k⟩ := h
    rfl
  · obtain ⟨a, ws, rfl, hW, hm, k⟩ := h
    refine ⟨_, (pss_cons (ps_set (i := 1) sc_count_of.nd rfl (.inl rfl) pe_int)
    (pss_cons (ps_for PassesOwn.never rfl (pi_listK (K := K) rfl (pv 0)) (pg_name (i := 2) sc_count_of.nd rfl (.inl rfl))
    (pss_one (ps_aug (i := 1) sc_count_of.nd rfl (.inl rfl) (pv 2) ip_mulX)))
    (pss_one (ps_ret (pv 1))))), ?_⟩
    dsimp only [cxOf, L2H.cxH, Cx.nox, Cx.wish, L2.start, List.map_cons, List.map_nil, List.length_cons, List.length_nil, List.cons_append, List.nil_append]
    refine q_asg ev_c fun H1 e1 => ?_
    refine q_forLn (K := K) (a := a) (xs := ws.map V.int) (ev_var rfl) (ex_l e1 hW) (fun i σ' H' => ∃ v, σ' = [some (.ref a), some (.int (cnt (ws.take i))), v] ∧ Ex H H') (fun H2 e2 => ⟨_, rfl, e1.trans e2⟩) (fun i σ' H' _ ⟨_, _, e⟩ => ex_l e hW) ?_ ?_
    · rintro i x σ' H' hx ⟨v, rfl, e⟩
      obtain ⟨w, rfl, hw, hm'⟩ := map_get hx
      refine ⟨_, rfl, _, rfl, _, _, rfl, rfl, hm.mulX hm', ?_⟩
      refine ⟨some (.int w), ?_, e⟩
      rw [take_succ_of hw, cnt_snoc]
      rfl
    · rintro σ' H' ⟨v, rfl, e⟩
      refine s_ret (ev_var rfl) fun H2 e2 => ?_
      rw [List.length_map, List.take_length]
      exact k H2 (e.trans e2)
/-! ### check_number, settings -/
def numOk (m : Int) : Kd → Bool
  | .int i => decide (0 ≤ i) && decide (i < m)
  | _ => false
def sp_check_number (K : PySem.W.Frag) (C : Cs) : Sp := fun vs H Q E => ∃ (a : Addr) (ws : List Int) (v : V) (kd : Kd), vs = [.ref a, v] ∧ SqL K H a (ws.map V.int) ∧ Sm ws ∧ Thg K H v kd ∧ (numOk (cnt ws) kd = true → RetV .non H Q) ∧ (numOk (cnt ws) kd = false → RetX C.BadNumber H E)
theorem ok_check_number {P : Program} {w : World} {K : PySem.W.Frag} {mg : Str → Option Value} {base : Heap} {C : Cs} (T : Txt K mg C) : Cl P w K mg base (L2N.CX P w) 2 "check_number" ["wheels", "number"] (sp_check_number K C) := by
  have c_count_of := ok_count_of (P := P) (w := w) (base := base) T
  have c_is_whole := ok_is_whole (P := P) (w := w) (base := base) T
  refine clX T.d_check_number sc_check_number (fun vs H Q E h => ?_) (fun f cdv A outer s H vs Q E hr h => ?_)
  · obtain ⟨a, ws, v, kd, rfl, hW, hm, hv, k1, k2⟩ := h
    rfl
  · obtain ⟨a, ws, v, kd, rfl, hW, hm, hv, k1, k2⟩ := h
    refine ⟨_, (pss_one (ps_if (PW.pt (pw_or (pt_not (pt_val (pe_cl c_is_whole (hr.mono (by decide)) (by rfl) pass0 (pa_cons (pv 1) pa_nil)) (by intro _; rfl))) (pw_or1 (pt_not (pt_chain op_le op_lt pe_int (pv 1) (pe_cl c_count_of (hr.mono (by decide)) (by rfl) pass0 (pa_cons (pv 0) pa_nil))))))) (pss_one (L2N.ps_raise rfl (L2N.takes_of rfl rfl rfl rfl) (L2N.pmk_own PySem.F.excBase_ValueError T.e_BadNumber.x T.e_BadNumber.g T.e_BadNumber.k (raises_own T.e_BadNumber.b T.e_BadNumber.t) rfl))) pss_nil)), ?_⟩
    dsimp only [cxOf, L2H.cxH, Cx.nox, Cx.wish, L2.start, List.map_cons, List.map_nil, List.length_cons, List.length_nil, List.cons_append, List.nil_append]
    refine s_if (b := !(numOk (cnt ws) kd)) ?_ (fun q H1 e => k2 (by cases h : numOk (cnt ws) kd with | true => rw [h] at q; cases q | false => rfl) H1 e) (fun q H1 e => k1 (by cases h : numOk (cnt ws) kd with | true => rfl | false => rw [h] at q; cases q) H1 e)
    have c1 : ∀ E : XK, EvT (tNot (tB (tCall (sp_is_whole K C) [] E (tCons (tVar 1) tNil)))) (List.map some [V.ref a, v] ++ List.replicate 0 none) H (!kd.whole) := fun E => et_not (et_B (ev_call (ea_cons (ev_var rfl) ea_nil) (spv_whole hv)))
    cases hv with
    | int i =>
      refine et_or (a := false) (c1 _) fun _ => et_not (et_test (ev_chainI (f := fun i j => decide (i ≤ j)) (f' := fun i j => decide (i < j)) (a := 0) (b := i) (c := cnt ws) ev_c (ev_var rfl) fun _ => ev_call (ea_cons (ev_var rfl) ea_nil) (spv_count_of hW hm)))
    | bl b => exact et_or (a := true) (b := true) (c1 _) fun q => nomatch q
    | non => exact et_or (a := true) (b := true) (c1 _) fun q => nomatch q
    | str x => exact et_or (a := true) (b := true) (c1 _) fun q => nomatch q
    | lst _ => exact et_or (a := true) (b := true) (c1 _) fun q => nomatch q
    | tup _ => exact et_or (a := true) (b := true) (c1 _) fun q => nomatch q
    | dct _ => exact et_or (a := true) (b := true) (c1 _) fun q => nomatch q
/-- wheels that are asked at a door: bad ones are refused, with good ones it goes on -/
def Door (K : PySem.W.Frag) (C : Cs) (H : Hp) (v : V) (E : XK) (good : Addr → List Int → Prop) : Prop :=
  (∃ kd, Thg K H v kd ∧ kd.isList = false ∧ RetX C.BadWheels H E) ∨
  (∃ (a : Addr) (xs : List V) (ks : List Kd), v = .ref a ∧ SqL K H a xs ∧ Thgs K H xs ks ∧ xs.length ≤ 40000 ∧ ks.all okSize = false ∧ RetX C.BadWheels H E) ∨
  ∃ (a : Addr) (ws : List Int), v = .ref a ∧ SqL K H a (ws.map V.int) ∧ Pos ws ∧ ws.length ≤ 40000 ∧ good a ws
theorem okSize_ints : ∀ {ws : List Int}, Pos ws → (ws.map Kd.int).all okSize = true
  | [], _ => rfl
  | w :: ws, h => by
    show (decide (1 ≤ w) && (ws.map Kd.int).all okSize) = true
    rw [decide_eq_true h.head, okSize_ints h.tail]
    rfl
theorem Door.check {K : PySem.W.Frag} {C : Cs} {H : Hp} {v : V} {E : XK} {good : Addr → List Int → Prop} (h : Door K C H v E good) {Q : VK} (k : ∀ a ws, v = .ref a → SqL K H a (ws.map V.int) → Pos ws → ws.length ≤ 40000 → good a ws → ∀ H1, Ex H H1 → Q .non H1) :
    sp_check_wheels K C [v] H Q E := by
  refine ⟨v, rfl, ?_⟩
  rcases h with ⟨kd, h1, h2, h3⟩ | ⟨a, xs, ks, rfl, h1, h2, h3, h4, h5⟩ | ⟨a, ws, rfl, h1, h2, h3, h4⟩
  · exact .inl ⟨kd, h1, h2, h3⟩
  · exact .inr ⟨a, xs, ks, rfl, h1, h2, h3, fun q => (by rw [h4] at q; cases q), fun _ => h5⟩
  · exact .inr ⟨a, _, _, rfl, h1, Thgs.ints ws, by rw [List.length_map]; exact h3, fun _ => k a ws rfl h1 h2 h3 h4, fun q => by rw [okSize_ints h2] at q; cases q⟩
theorem Door.mono {K : PySem.W.Frag} {C : Cs} {H H' : Hp} {v : V} {E : XK} {good : Addr → List Int → Prop} (e : Ex H H') (h : Door K C H v E good) : Door K C H' v E good := by
  rcases h with ⟨kd, h1, h2, h3⟩ | ⟨a, xs, ks, rfl, h1, h2, h3, h4, h5⟩ | ⟨a, ws, rfl, h1, h2, h3, h4⟩
  · exact .inl ⟨kd, h1.mono e, h2, h3.go e⟩
  · exact .inr (.inl ⟨a, xs, ks, rfl, ex_l e h1, h2.mono e, h3, h4, h5.go e⟩)
  · exact .inr (.inr ⟨a, ws, rfl, ex_l e h1, h2, h3, h4⟩)
def sp_settings (K : PySem.W.Frag) (C : Cs) : Sp := fun vs H Q E => ∃ (v : V), vs = [v] ∧ Door K C H v E fun a ws => Sm ws ∧ RetV (.int (cnt ws)) H Q
theorem spv_settings {K : PySem.W.Frag} {C : Cs} {H : Hp} {a : Addr} {ws : List Int} (h1 : SqL K H a (ws.map V.int)) (h2 : Pos ws) (h : Sm ws) : SpV (sp_settings K C) [.ref a] H (.int (cnt ws)) :=
  fun H1 e Q q E => ⟨_, rfl, .inr (.inr ⟨a, ws, rfl, ex_l e h1, h2, Nat.le_trans h.len (by decide), h, q⟩)⟩
theorem ok_settings {P : Program} {w : World} {K : PySem.W.Frag} {mg : Str → Option Value} {base : Heap} {C : Cs} (T : Txt K mg C) : Cl P w K mg base (L2N.CX P w) 3 "settings" ["wheels"] (sp_settings K C) := by
  have c_check_wheels := ok_check_wheels (P := P) (w := w) (base := base) T
  have c_count_of := ok_count_of (P := P) (w := w) (base := base) T
  refine clX T.d_settings sc_settings (fun vs H Q E h => ?_) (fun f cdv A outer s H vs Q E hr h => ?_)
  · obtain ⟨v, rfl, hd⟩ := h
    rfl
  · obtain ⟨v, rfl, hd⟩ := h
    refine ⟨_, (pss_cons (ps_expr (pe_cl c_check_wheels (hr.mono (by decide)) (by rfl) (pass1 (L2N.takes_of rfl rfl rfl rfl)) (pa_cons (pv 0) pa_nil)))
    (pss_one (ps_ret (pe_cl c_count_of (hr.mono (by decide)) (by rfl) pass0 (pa_cons (pv 0) pa_nil))))), ?_⟩
    dsimp only [cxOf, L2H.cxH, Cx.nox, Cx.wish, L2.start, List.map_cons, List.map_nil, List.length_cons, List.length_nil, List.cons_append, List.nil_append]
    refine q_call (vs := [v]) (by walk_at "ea") fun H1 e1 => (hd.mono e1).check fun a ws ev hW hp hl ⟨hm, k⟩ H2 e2 => ?_
    subst ev
    exact s_ret (ev_call (ea_cons (ev_var rfl) ea_nil) (spv_count_of (ex_l e2 hW) hm)) fun H3 e3 => k _ ((e1.trans e2).trans e3)
/-! ### setting_at -/
def dvd (ws : List Int) (n : Int) : Nat → Int
  | 0 => n
  | i + 1 => dvd ws n i / ws.getD i 1
theorem dvd_succ {ws : List Int} {n : Int} {i : Nat} {w : Int} (h : ws[i]? = some w) : dvd ws n (i + 1) = dvd ws n i / w := by
  show dvd ws n i / ws.getD i 1 = _
  rw [List.getD_eq_getElem?_getD, h]
  rfl
theorem dvd_cons (v : Int) (ws : List Int) (n : Int) : ∀ i : Nat, dvd (v :: ws) n (i + 1) = dvd ws (n / v) i
  | 0 => rfl
  | i + 1 => by
    show dvd (v :: ws) n (i + 1) / ws.getD i 1 = dvd ws (n / v) i / ws.getD i 1
    rw [dvd_cons v ws n i]
theorem setAt_get : ∀ {ws : List Int} {n : Int} {i : Nat} {w : Int}, ws[i]? = some w → (setAt ws n)[i]? = some (if dvd ws n i / w % 2 = 0 then dvd ws n i % w else w - 1 - dvd ws n i % w)
  | [], n, i, w, h => by simp at h
  | v :: ws, n, 0, w, h => by
    have e : v = w := Option.some.inj h
    subst e
    rfl
  | v :: ws, n, i + 1, w, h => by
    rw [dvd_cons]
    exact setAt_get (ws := ws) (n := n / v) (i := i) h
theorem divp_small {i j : Int} (h0 : 0 < j) (h1 : j < 2 ^ 250) : CDivP i j := by
  refine ⟨h0, ?_⟩
  have hn : j.natAbs < 2 ^ 250 := by
    have e : j = ((j.natAbs : Nat) : Int) := by omega
    rw [e] at h1
    exact_mod_cast h1
  have hl : j.natAbs.log2 < 250 := (Nat.log2_lt (by omega)).mpr hn
  show (decide ((if j == 0 then 0 else j.natAbs.log2 / 30 + 1) > 300) && decide ((if i == 0 then 0 else i.natAbs.log2 / 30 + 1) > (if j == 0 then 0 else j.natAbs.log2 / 30 + 1) + 150)) = false
  rw [if_neg (show ¬ (j == 0) = true by simpa using (show j ≠ 0 by omega)), decide_eq_false (by omega)]
  rfl
def sp_setting_at (K : PySem.W.Frag) (_ : Cs) : Sp := fun vs H Q _ => ∃ (a : Addr) (ws : List Int) (n : Int), vs = [.ref a, .int n] ∧ SqL K H a (ws.map V.int) ∧ Pos ws ∧ Sm ws ∧ RetL ((setAt ws n).map V.int) H Q
theorem spl_setting_at {K : PySem.W.Frag} {C : Cs} {H : Hp} {a : Addr} {ws : List Int} {n : Int} (h1 : SqL K H a (ws.map V.int)) (h2 : Pos ws) (h : Sm ws) : SpL (sp_setting_at K C) [.ref a, .int n] H ((setAt ws n).map V.int) :=
  fun H1 e Q q E => ⟨a, ws, n, rfl, ex_l e h1, h2, h, fun p H2 hp e2 h2 => q p H2 hp e2 h2⟩
theorem ok_setting_at {P : Program} {w : World} {K : PySem.W.Frag} {mg : Str → Option Value} {base : Heap} {C : Cs} (T : Txt K mg C) : Cl P w K mg base CX0 1 "setting_at" ["wheels", "number"] (sp_setting_at K C) := by
  refine cl0 T.d_setting_at sc_setting_at (fun vs H Q E h => ?_) (fun f cdv A outer s H vs Q E hr h => ?_)
  · obtain ⟨a, ws, n, rfl, hW, hp, hm, k⟩ := h
    rfl
  · obtain ⟨a, ws, n, rfl, hW, hp, hm, k⟩ := h
    refine ⟨_, (pss_cons (ps_set (i := 2) sc_setting_at.nd rfl (.inl rfl) (pe_lst pa_nil))
    (pss_cons (ps_for PassesOwn.never rfl (pi_listK (K := K) rfl (pv 0)) (pg_name (i := 3) sc_setting_at.nd rfl (.inl rfl))
    (pss_cons (ps_asg (pe_callB call_divmodW (by rfl) T.b_divmod (by decide +kernel) (pa_cons (pv 1) (pa_cons (pv 3) pa_nil))) (pg_tupK (K := K) (n := 2) rfl rfl (pgs_cons (pg_name (i := 1) sc_setting_at.nd rfl (.inl rfl)) (pgs_cons (pg_name (i := 4) sc_setting_at.nd rfl (.inl rfl)) pgs_nil))))
    (pss_one (ps_expr (pe_bm PySem.F.plainAttrs_list PySem.F.slot_list_append PySem.F.type_list_append mt_append (pv 2) (pa_cons (pe_ifExp (pt_cmpR op_eq (pe_op op_mod (pv 1) pe_int) pe_int (nomark _)) (pv 4) (pe_op op_sub (pe_op op_sub (pv 3) pe_int) (pv 4))) pa_nil))))))
    (pss_one (ps_ret (pv 2))))), ?_⟩
    dsimp only [cxOf, L2H.cxH, Cx.nox, Cx.wish, L2.start, List.map_cons, List.map_nil, List.length_cons, List.length_nil, List.cons_append, List.nil_append]
    refine q_asgL (el_lst ea_nil (Nat.zero_le _)) fun l H1 hl e1 h1 => ?_
    refine q_forLn (K := K) (a := a) (xs := ws.map V.int) (ev_var rfl) (ex_l e1 hW) (fun i σ' H' => ∃ v3 v4, σ' = [some (.ref a), some (.int (dvd ws n i)), some (.ref l), v3, v4] ∧ Ex H H' ∧ H' l = some (.lst (((setAt ws n).take i).map V.int))) (fun H2 e2 => ⟨none, none, rfl, e1.trans e2, e2 _ _ h1⟩) (fun i σ' H' _ ⟨_, _, _, e, _⟩ => ex_l e hW) ?_ ?_
    · rintro i x σ' H' hx ⟨v3, v4, rfl, e, eo⟩
      obtain ⟨w, rfl, hw, hm'⟩ := map_get hx
      have hi := (List.getElem?_eq_some_iff.mp hw).1
      have h0 := hp w hm'
      refine q_divmod (a := dvd ws n i) (b := w) (by walk_at "ea") (divp_small (by omega) (hm.lt w hm')) fun H2 e2 => ?_
      refine s_app (l := l) (e2 _ _ eo) (ev_var rfl) (v := .int (if dvd ws n i / w % 2 = 0 then dvd ws n i % w else w - 1 - dvd ws n i % w)) ?_ (by rw [List.length_map, List.length_take]; have := hm.len; have := setAt_len ws n; omega) fun H3 e3 => ?_
      · refine ev_if (b := decide (dvd ws n i / w % 2 = 0)) (by walk_at "et") (fun hb => ?_) (fun hb => ?_)
        · rw [if_pos (of_decide_eq_true hb)]
          exact ev_var rfl
        · rw [if_neg (of_decide_eq_false hb)]
          walk_at "ev"
      · refine ⟨some (.int w), some (.int (dvd ws n i % w)), ?_, Ex.mut ((e.trans e2).trans e3) hl, ?_⟩
        · rw [dvd_succ hw]
          rfl
        · rw [upd_same, take_succ_of (setAt_get hw), List.map_append]
          rfl
    · rintro σ' H' ⟨v3, v4, rfl, e, eo⟩
      rw [List.length_map, List.take_of_length_le (by rw [setAt_len]; exact Nat.le_refl _)] at eo
      exact s_ret (ev_var rfl) fun H2 e2 => k l H2 hl (e.trans e2) (e2 _ _ eo)
/-! ### number_at -/
theorem numAt_drop {ws ss : List Int} {k : Nat} (h : k < ws.length) (hl : ss.length = ws.length) :
    numAt (ws.drop k) (ss.drop k) = numAt (ws.drop (k + 1)) (ss.drop (k + 1)) * ws.getD k 0 + (if numAt (ws.drop (k + 1)) (ss.drop (k + 1)) % 2 = 0 then ss.getD k 0 else ws.getD k 0 - 1 - ss.getD k 0) := by
  have h2 : k < ss.length := by omega
  rw [List.drop_eq_getElem_cons h, List.drop_eq_getElem_cons h2, List.getD_eq_getElem?_getD, List.getD_eq_getElem?_getD, List.getElem?_eq_getElem h, List.getElem?_eq_getElem h2]
  rfl
theorem InS.drop : ∀ {ws ss : List Int} (k : Nat), InS ws ss → InS (ws.drop k) (ss.drop k)
  | _, _, 0, h => h
  | [], [], _ + 1, _ => trivial
  | _ :: _, _ :: _, k + 1, h => InS.drop k h.2
  | [], _ :: _, _ + 1, h => False.elim h
  | _ :: _, [], _ + 1, h => False.elim h
theorem Sm.drop {ws : List Int} (h : Sm ws) (k : Nat) : Sm (ws.drop k) := ⟨by rw [List.length_drop]; have := h.len; omega, fun w hw => h.pos w (List.mem_of_mem_drop hw), fun w hw => h.lt w (List.mem_of_mem_drop hw)⟩
theorem num_lt {ws ss : List Int} (h : Sm ws) (hi : InS ws ss) : (numAt ws ss).natAbs < 2 ^ 50001 := by
  obtain ⟨a, b⟩ := num_bd hi
  have hc := cnt_lt (ws := ws) fun w hw => h.nat hw
  have hp : (2 : Nat) ^ (250 * ws.length + 1) ≤ 2 ^ 50001 := Nat.pow_le_pow_right (by omega) (by have := h.len; omega)
  omega
theorem getD_mem {ws : List Int} {k : Nat} (h : k < ws.length) : ws.getD k 0 ∈ ws := by
  rw [List.getD_eq_getElem?_getD, List.getElem?_eq_getElem h]
  exact List.getElem_mem h
def sp_number_at (K : PySem.W.Frag) (_ : Cs) : Sp := fun vs H Q _ => ∃ (a b : Addr) (ws ss : List Int), vs = [.ref a, .ref b] ∧ SqL K H a (ws.map V.int) ∧ SqL K H b (ss.map V.int) ∧ InS ws ss ∧ Sm ws ∧ RetV (.int (numAt ws ss)) H Q
theorem spv_number_at {K : PySem.W.Frag} {C : Cs} {H : Hp} {a b : Addr} {ws ss : List Int} (h1 : SqL K H a (ws.map V.int)) (h2 : SqL K H b (ss.map V.int)) (hi : InS ws ss) (h : Sm ws) : SpV (sp_number_at K C) [.ref a, .ref b] H (.int (numAt ws ss)) :=
  fun H1 e Q q E => ⟨a, b, ws, ss, rfl, ex_l e h1, ex_l e h2, hi, h, q⟩
theorem ok_number_at {P : Program} {w : World} {K : PySem.W.Frag} {mg : Str → Option Value} {base : Heap} {C : Cs} (T : Txt K mg C) : Cl P w K mg base CX0 1 "number_at" ["wheels", "setting"] (sp_number_at K C) := by
  refine cl0 T.d_number_at sc_number_at (fun vs H Q E h => ?_) (fun f cdv A outer s H vs Q E hr h => ?_)
  · obtain ⟨a, b, ws, ss, rfl, hW, hS, hi, hm, k⟩ := h
    rfl
  · obtain ⟨a, b, ws, ss, rfl, hW, hS, hi, hm, k⟩ := h
    refine ⟨_, (pss_cons (ps_set (i := 2) sc_number_at.nd rfl (.inl rfl) pe_int)
    (pss_cons (ps_for PassesOwn.never rfl (pi_revR (by rfl) T.b_reversed (prg_1 (by rfl) T.b_range (pe_callB (call_lenK (K := K) rfl) (by rfl) T.b_len PySem.boot_len (pa_cons (pv 0) pa_nil)))) (pg_name (i := 3) sc_number_at.nd rfl (.inl rfl))
    (pss_cons (ps_set (i := 4) sc_number_at.nd rfl (.inl rfl) (pe_ifExp (pt_cmpR op_eq (pe_op op_mod (pv 2) pe_int) pe_int (nomark _)) (pe_ix (ix_listK (K := K) rfl) (pv 1) (pv 3) (fun _ _ => rfl)) (pe_op op_sub (pe_op op_sub (pe_ix (ix_listK (K := K) rfl) (pv 0) (pv 3) (fun _ _ => rfl)) pe_int) (pe_ix (ix_listK (K := K) rfl) (pv 1) (pv 3) (fun _ _ => rfl)))))
    (pss_one (ps_set (i := 2) sc_number_at.nd rfl (.inl rfl) (pe_op op_add (pe_op op_mulA (pv 2) (pe_ix (ix_listK (K := K) rfl) (pv 0) (pv 3) (fun _ _ => rfl))) (pv 4))))))
    (pss_one (ps_ret (pv 2))))), ?_⟩
    dsimp only [cxOf, L2H.cxH, Cx.nox, Cx.wish, L2.start, List.map_cons, List.map_nil, List.length_cons, List.length_nil, List.cons_append, List.nil_append]
    have hsl := hi.len
    refine q_asg ev_c fun H1 e1 => ?_
    have hW1 := ex_l e1 hW
    refine q_forV (n := ws.length) (by walk_at "ev") (by have := hm.len; omega) (fun i σ' H' => ∃ v3 v4, σ' = [some (.ref a), some (.ref b), some (.int (numAt (ws.drop (ws.length - i)) (ss.drop (ws.length - i)))), v3, v4] ∧ Ex H H') (fun H2 e2 => ⟨none, none, ?_, e1.trans e2⟩) ?_ ?_
    · rw [Nat.sub_zero, List.drop_length]
      rfl
    · rintro i σ' H' hlt ⟨v3, v4, rfl, e⟩
      have hW2 := ex_l e hW
      have hS2 := ex_l e hS
      have ek : ws.length - i = ws.length - 1 - i + 1 := by omega
      have hk : ws.length - 1 - i < ws.length := by omega
      have hk2 : ws.length - 1 - i < ss.length := by omega
      rw [ek]
      have hM : IntMulOk (numAt (ws.drop (ws.length - 1 - i + 1)) (ss.drop (ws.length - 1 - i + 1))) (ws.getD (ws.length - 1 - i) 0) :=
        mulX (mulx_ok (num_lt (hm.drop _) (hi.drop _)) (hm.nat (getD_mem hk)) (by decide))
      refine q_asg (v := .int (if numAt (ws.drop (ws.length - 1 - i + 1)) (ss.drop (ws.length - 1 - i + 1)) % 2 = 0 then ss.getD (ws.length - 1 - i) 0 else ws.getD (ws.length - 1 - i) 0 - 1 - ss.getD (ws.length - 1 - i) 0)) ?_ fun H3 e3 => ?_
      · refine ev_if (b := decide (numAt (ws.drop (ws.length - 1 - i + 1)) (ss.drop (ws.length - 1 - i + 1)) % 2 = 0)) (by walk_at "et") (fun hb => ?_) (fun hb => ?_)
        · rw [if_pos (of_decide_eq_true hb)]
          walk_at "ev"
        · rw [if_neg (of_decide_eq_false hb)]
          walk_at "ev"
      · have hW3 := ex_l e3 hW2
        refine s_asg (by walk_at "ev") fun H4 e4 => ⟨some (.int ((ws.length - 1 - i : Nat) : Int)), some (.int (if numAt (ws.drop (ws.length - 1 - i + 1)) (ss.drop (ws.length - 1 - i + 1)) % 2 = 0 then ss.getD (ws.length - 1 - i) 0 else ws.getD (ws.length - 1 - i) 0 - 1 - ss.getD (ws.length - 1 - i) 0)), ?_, (e.trans e3).trans e4⟩
        rw [show ws.length - (i + 1) = ws.length - 1 - i by omega, numAt_drop hk hsl]
        rfl
    · rintro σ' H' ⟨v3, v4, rfl, e⟩
      rw [Nat.sub_self, List.drop_zero, List.drop_zero]
      exact s_ret (ev_var rfl) fun H2 e2 => k _ (e.trans e2)
/-! ### setting_of, number_of -/
theorem numOk_iff {m : Int} {kd : Kd} : numOk m kd = true ↔ ∃ i, kd = .int i ∧ 0 ≤ i ∧ i < m := by
  cases kd with
  | int i =>
    show (decide (0 ≤ i) && decide (i < m)) = true ↔ _
    rw [Bool.and_eq_true, decide_eq_true_iff, decide_eq_true_iff]
    exact ⟨fun h => ⟨i, rfl, h⟩, fun ⟨j, e, h⟩ => by cases e; exact h⟩
  | bool => exact ⟨fun h => (nomatch h), fun ⟨j, e, h⟩ => (nomatch e)⟩
  | list => exact ⟨fun h => (nomatch h), fun ⟨j, e, h⟩ => (nomatch e)⟩
  | str => exact ⟨fun h => (nomatch h), fun ⟨j, e, h⟩ => (nomatch e)⟩
  | tup => exact ⟨fun h => (nomatch h), fun ⟨j, e, h⟩ => (nomatch e)⟩
  | rest => exact ⟨fun h => (nomatch h), fun ⟨j, e, h⟩ => (nomatch e)⟩
theorem Thg.toInt {K : PySem.W.Frag} {H : Hp} {v : V} {i : Int} (h : Thg K H v (.int i)) : v = .int i := by
  cases h
  rfl
theorem setOk_get {K : PySem.W.Frag} {H : Hp} : ∀ {ws : List Int} {xs : List V} {ks : List Kd}, Thgs K H xs ks → setOk ws ks = true → ∃ ss : List Int, ks = ss.map Kd.int ∧ xs = ss.map V.int ∧ InS ws ss
  | [], _, _, .nil, _ => ⟨[], rfl, rfl, trivial⟩
  | [], _, _, .cons _ _, h => nomatch h
  | _ :: _, _, _, .nil, h => nomatch h
  | w :: ws, _, _, .cons (a := v) (b := kd) r t, h => by
    have h' : (inR w kd && setOk ws _) = true := h
    rw [Bool.and_eq_true] at h'
    obtain ⟨ss, rfl, rfl, hi⟩ := setOk_get t h'.2
    cases r with
    | int i =>
      have h1 : (decide (0 ≤ i) && decide (i < w)) = true := h'.1
      rw [Bool.and_eq_true, decide_eq_true_iff, decide_eq_true_iff] at h1
      exact ⟨i :: ss, rfl, rfl, h1, hi⟩
    | bl b => exact nomatch h'.1
    | non => exact nomatch h'.1
    | str x => exact nomatch h'.1
    | lst _ => exact nomatch h'.1
    | tup _ => exact nomatch h'.1
    | dct _ => exact nomatch h'.1
theorem SetV.get {K : PySem.W.Frag} {H : Hp} {ws : List Int} {v : V} (h : SetV K H ws v true) : ∃ (a : Addr) (ss : List Int), v = .ref a ∧ SqL K H a (ss.map V.int) ∧ InS ws ss := by
  rcases h with ⟨kd, hv, hk, hb⟩ | ⟨a, xs, ks, rfl, hS, hT, hl, hb⟩
  · cases hb
  · obtain ⟨ss, rfl, rfl, hi⟩ := setOk_get hT hb.symm
    exact ⟨a, ss, rfl, hS, hi⟩
def sp_setting_of (K : PySem.W.Frag) (C : Cs) : Sp := fun vs H Q E => ∃ (v n : V), vs = [v, n] ∧ Door K C H v E fun _ ws => Sm ws ∧ ∃ kd, Thg K H n kd ∧ (numOk (cnt ws) kd = false → RetX C.BadNumber H E) ∧
  ∀ i, kd = .int i → 0 ≤ i → i < cnt ws → RetL ((setAt ws i).map V.int) H Q
theorem spl_setting_of {K : PySem.W.Frag} {C : Cs} {H : Hp} {a : Addr} {ws : List Int} {n : Int} (h1 : SqL K H a (ws.map V.int)) (h2 : Pos ws) (h : Sm ws) (n0 : 0 ≤ n) (n1 : n < cnt ws) : SpL (sp_setting_of K C) [.ref a, .int n] H ((setAt ws n).map V.int) :=
  fun H1 e Q q E => ⟨_, _, rfl, .inr (.inr ⟨a, ws, rfl, ex_l e h1, h2, Nat.le_trans h.len (by decide), h, .int n, .int n, fun z => (by rw [numOk_iff.mpr ⟨n, rfl, n0, n1⟩] at z; cases z), fun i ei _ _ => by cases ei; exact fun p H2 hp e2 h2 => q p H2 hp e2 h2⟩)⟩
theorem ok_setting_of {P : Program} {w : World} {K : PySem.W.Frag} {mg : Str → Option Value} {base : Heap} {C : Cs} (T : Txt K mg C) : Cl P w K mg base (L2N.CX P w) 3 "setting_of" ["wheels", "number"] (sp_setting_of K C) := by
  have c_check_wheels := ok_check_wheels (P := P) (w := w) (base := base) T
  have c_check_number := ok_check_number (P := P) (w := w) (base := base) T
  have c_setting_at := ok_setting_at (P := P) (w := w) (base := base) T
  refine clX T.d_setting_of sc_setting_of (fun vs H Q E h => ?_) (fun f cdv A outer s H vs Q E hr h => ?_)
  · obtain ⟨v, n, rfl, hd⟩ := h
    rfl
  · obtain ⟨v, n, rfl, hd⟩ := h
    refine ⟨_, (pss_cons (ps_expr (pe_cl c_check_wheels (hr.mono (by decide)) (by rfl) (pass1 (L2N.takes_of rfl rfl rfl rfl)) (pa_cons (pv 0) pa_nil)))
    (pss_cons (ps_expr (pe_cl c_check_number (hr.mono (by decide)) (by rfl) (pass1 (L2N.takes_of rfl rfl rfl rfl)) (pa_cons (pv 0) (pa_cons (pv 1) pa_nil))))
    (pss_one (ps_ret (pe_cl c_setting_at (hr.mono (by decide)) (by rfl) pass0 (pa_cons (pv 0) (pa_cons (pv 1) pa_nil))))))), ?_⟩
    dsimp only [cxOf, L2H.cxH, Cx.nox, Cx.wish, L2.start, List.map_cons, List.map_nil, List.length_cons, List.length_nil, List.cons_append, List.nil_append]
    refine q_call (vs := [v]) (by walk_at "ea") fun H1 e1 => (hd.mono e1).check fun a ws ev hW hp hl ⟨hm, kd, hn, kx, kk⟩ H2 e2 => ?_
    subst ev
    have e12 := e1.trans e2
    refine q_call (vs := [.ref a, n]) (by walk_at "ea") fun H3 e3 => ?_
    have e13 := e12.trans e3
    refine ⟨a, ws, n, kd, rfl, ex_l (e2.trans e3) hW, hm, hn.mono e13, fun q H4 e4 => ?_, fun q => (kx q).go e13⟩
    obtain ⟨i, rfl, i0, i1⟩ := numOk_iff.mp q
    have en := hn.toInt
    subst en
    exact s_retL (el_call (ea_cons (ev_var rfl) (ea_cons (ev_var rfl) ea_nil)) (spl_setting_at (ex_l ((e2.trans e3).trans e4) hW) hp hm)) fun p H5 hp5 e5 h5 => kk i rfl i0 i1 p H5 (fresh_back (e13.trans e4) hp5) ((e13.trans e4).trans e5) h5
/-- what is asked as a setting of ws at a door: a bad one is refused, with a good one it goes on -/
def DoorS (K : PySem.W.Frag) (C : Cs) (H : Hp) (ws : List Int) (s : V) (E : XK) (good : Addr → List Int → Prop) : Prop :=
  (SetV K H ws s false ∧ RetX C.BadSetting H E) ∨ ∃ (c : Addr) (ss : List Int), s = .ref c ∧ SqL K H c (ss.map V.int) ∧ InS ws ss ∧ good c ss
theorem DoorS.mono {K : PySem.W.Frag} {C : Cs} {H H' : Hp} {ws : List Int} {s : V} {E : XK} {good : Addr → List Int → Prop} (e : Ex H H') (h : DoorS K C H ws s E good) : DoorS K C H' ws s E good := by
  rcases h with ⟨h1, h2⟩ | ⟨c, ss, rfl, h1, h2, h3⟩
  · exact .inl ⟨h1.mono e, h2.go e⟩
  · exact .inr ⟨c, ss, rfl, ex_l e h1, h2, h3⟩
theorem DoorS.check {K : PySem.W.Frag} {C : Cs} {H : Hp} {a : Addr} {ws : List Int} {s : V} {E : XK} {good : Addr → List Int → Prop} (hW : SqL K H a (ws.map V.int)) (hl : ws.length ≤ 40000) (h : DoorS K C H ws s E good) {Q : VK}
    (k : ∀ c ss, s = .ref c → SqL K H c (ss.map V.int) → InS ws ss → good c ss → ∀ H1, Ex H H1 → Q .non H1) : sp_check_setting K C [.ref a, s] H Q E := by
  rcases h with ⟨h1, h2⟩ | ⟨c, ss, rfl, h1, h2, h3⟩
  · exact ⟨a, ws, s, false, rfl, hW, hl, h1, fun q => (nomatch q), fun _ => h2⟩
  · exact ⟨a, ws, _, true, rfl, hW, hl, SetV.good h1 (by rw [h2.len]; exact hl) h2, fun _ => k c ss rfl h1 h2 h3, fun q => (nomatch q)⟩
def sp_number_of (K : PySem.W.Frag) (C : Cs) : Sp := fun vs H Q E => ∃ (v s : V), vs = [v, s] ∧ Door K C H v E fun _ ws => Sm ws ∧ DoorS K C H ws s E fun _ ss => RetV (.int (numAt ws ss)) H Q
theorem spv_number_of {K : PySem.W.Frag} {C : Cs} {H : Hp} {a b : Addr} {ws ss : List Int} (h1 : SqL K H a (ws.map V.int)) (h2 : Pos ws) (h : Sm ws) (h3 : SqL K H b (ss.map V.int)) (hi : InS ws ss) : SpV (sp_number_of K C) [.ref a, .ref b] H (.int (numAt ws ss)) :=
  fun H1 e Q q E => ⟨_, _, rfl, .inr (.inr ⟨a, ws, rfl, ex_l e h1, h2, Nat.le_trans h.len (by decide), h, .inr ⟨b, ss, rfl, ex_l e h3, hi, q⟩⟩)⟩
theorem ok_number_of {P : Program} {w : World} {K : PySem.W.Frag} {mg : Str → Option Value} {base : Heap} {C : Cs} (T : Txt K mg C) : Cl P w K mg base (L2N.CX P w) 4 "number_of" ["wheels", "setting"] (sp_number_of K C) := by
  have c_check_wheels := ok_check_wheels (P := P) (w := w) (base := base) T
  have c_check_setting := ok_check_setting (P := P) (w := w) (base := base) T
  have c_number_at := ok_number_at (P := P) (w := w) (base := base) T
  refine clX T.d_number_of sc_number_of (fun vs H Q E h => ?_) (fun f cdv A outer s H vs Q E hr h => ?_)
  · obtain ⟨v, s', rfl, hd⟩ := h
    rfl
  · obtain ⟨v, s', rfl, hd⟩ := h
    refine ⟨_, (pss_cons (ps_expr (pe_cl c_check_wheels (hr.mono (by decide)) (by rfl) (pass1 (L2N.takes_of rfl rfl rfl rfl)) (pa_cons (pv 0) pa_nil)))
    (pss_cons (ps_expr (pe_cl c_check_setting (hr.mono (by decide)) (by rfl) (pass1 (L2N.takes_of rfl rfl rfl rfl)) (pa_cons (pv 0) (pa_cons (pv 1) pa_nil))))
    (pss_one (ps_ret (pe_cl c_number_at (hr.mono (by decide)) (by rfl) pass0 (pa_cons (pv 0) (pa_cons (pv 1) pa_nil))))))), ?_⟩
    dsimp only [cxOf, L2H.cxH, Cx.nox, Cx.wish, L2.start, List.map_cons, List.map_nil, List.length_cons, List.length_nil, List.cons_append, List.nil_append]
    refine q_call (vs := [v]) (by walk_at "ea") fun H1 e1 => (hd.mono e1).check fun a ws ev hW hp hl ⟨hm, hs⟩ H2 e2 => ?_
    subst ev
    have e12 := e1.trans e2
    refine q_call (vs := [.ref a, s']) (by walk_at "ea") fun H3 e3 => ?_
    have e13 := e12.trans e3
    refine (hs.mono e13).check (ex_l (e2.trans e3) hW) hl fun c ss ec hS hi kk H4 e4 => ?_
    subst ec
    exact s_ret (ev_call (ea_cons (ev_var rfl) (ea_cons (ev_var rfl) ea_nil)) (spv_number_at (ex_l ((e2.trans e3).trans e4) hW) (ex_l e4 hS) hi hm)) fun H5 e5 => kk H5 ((e13.trans e4).trans e5)
/-! ### the law's own draws -/
def primes : List Int := [1000003, 1000033, 1000037, 1000039, 1000081, 1000099, 1000117, 1000121, 1000133, 1000151, 1000159, 1000171, 1000183, 1000187, 1000193, 1000199]
theorem primes_len : primes.length = 16 := rfl
theorem primes_pos {i : Nat} (h : i < 16) : 0 < primes.getD i 0 := by
  have : ∀ i : Fin 16, 0 < primes.getD i.val 0 := by decide
  exact this ⟨i, h⟩
def drawI (c k m : Int) : Int := (c * 48271 + k * 69621) % (primes.getD (k % 16).toNat 0) % m
theorem draw_nn {c k m : Int} (h : 0 < m) : 0 ≤ drawI c k m := Int.emod_nonneg _ (by omega)
theorem draw_lt {c k m : Int} (h : 0 < m) : drawI c k m < m := Int.emod_lt_of_pos _ h
def sp_law_cell_at (K : PySem.W.Frag) (_ : Cs) : Sp := fun vs H Q _ => ∃ (a : Addr) (ns : List Int) (k : Int), vs = [.ref a, .int k] ∧ SqL K H a (ns.map V.int) ∧ 0 ≤ k ∧ RetV (.int (ns.getD k.toNat 0)) H Q
theorem spv_cell {K : PySem.W.Frag} {C : Cs} {H : Hp} {a : Addr} {ns : List Int} {k : Int} (h1 : SqL K H a (ns.map V.int)) (h : 0 ≤ k) : SpV (sp_law_cell_at K C) [.ref a, .int k] H (.int (ns.getD k.toNat 0)) :=
  fun H1 e Q q E => ⟨a, ns, k, rfl, ex_l e h1, h, q⟩
theorem ok_law_cell_at {P : Program} {w : World} {K : PySem.W.Frag} {mg : Str → Option Value} {base : Heap} {C : Cs} (T : Txt K mg C) : Cl P w K mg base CX0 1 "_law_cell_at" ["_law_script", "_law_k"] (sp_law_cell_at K C) := by
  refine cl0 T.d_law_cell_at sc_law_cell_at (fun vs H Q E h => ?_) (fun f cdv A outer s H vs Q E hr h => ?_)
  · obtain ⟨a, ns, k, rfl, hS, h0, kk⟩ := h
    rfl
  · obtain ⟨a, ns, k, rfl, hS, h0, kk⟩ := h
    refine ⟨_, (pss_cons (ps_if (pt_cmpR op_lt (pv 1) (pe_callB (call_lenK (K := K) rfl) (by rfl) T.b_len PySem.boot_len (pa_cons (pv 0) pa_nil)) (nomark _)) (pss_one (ps_ret (pe_ix (ix_listK (K := K) rfl) (pv 0) (pv 1) (fun _ _ => rfl)))) pss_nil)
    (pss_one (ps_ret pe_int))), ?_⟩
    dsimp only [cxOf, L2H.cxH, Cx.nox, Cx.wish, L2.start, List.map_cons, List.map_nil, List.length_cons, List.length_nil, List.cons_append, List.nil_append]
    refine q_when (b := decide (k < (ns.length : Int))) (by walk_at "et") (fun hb H1 e => ?_) (fun hb H1 e => ?_)
    · have hk := of_decide_eq_true hb
      have hS1 := ex_l e hS
      exact s_ret (by walk_at "ev") fun H2 e2 => kk _ (e.trans e2)
    · have hk := of_decide_eq_false hb
      rw [List.getD_eq_getElem?_getD, List.getElem?_eq_none (by omega)] at kk
      exact s_ret ev_c fun H2 e2 => kk _ (e.trans e2)
def sp_law_draw (K : PySem.W.Frag) (_ : Cs) : Sp := fun vs H Q _ => ∃ (c k m : Int), vs = [.int c, .int k, .int m] ∧ 0 < m ∧ RetV (.int (drawI c k m)) H Q
theorem spv_draw {K : PySem.W.Frag} {C : Cs} {H : Hp} {c k m : Int} (h : 0 < m) : SpV (sp_law_draw K C) [.int c, .int k, .int m] H (.int (drawI c k m)) :=
  fun H1 e Q q E => ⟨c, k, m, rfl, h, q⟩
theorem ok_law_draw {P : Program} {w : World} {K : PySem.W.Frag} {mg : Str → Option Value} {base : Heap} {C : Cs} (T : Txt K mg C) : Cl P w K mg base CX0 1 "_law_draw" ["_law_cell", "_law_k", "_law_many"] (sp_law_draw K C) := by
  refine cl0 T.d_law_draw sc_law_draw (fun vs H Q E h => ?_) (fun f cdv A outer s H vs Q E hr h => ?_)
  · obtain ⟨c, k, m, rfl, h0, kk⟩ := h
    rfl
  · obtain ⟨c, k, m, rfl, h0, kk⟩ := h
    refine ⟨_, (pss_cons (ps_set (i := 3) sc_law_draw.nd rfl (.inl rfl) (pe_tup (pa_cons pe_int (pa_cons pe_int (pa_cons pe_int (pa_cons pe_int (pa_cons pe_int (pa_cons pe_int (pa_cons pe_int (pa_cons pe_int (pa_cons pe_int (pa_cons pe_int (pa_cons pe_int (pa_cons pe_int (pa_cons pe_int (pa_cons pe_int (pa_cons pe_int (pa_cons pe_int pa_nil))))))))))))))))))
    (pss_one (ps_ret (pe_op op_mod (pe_op op_mod (pe_op op_add (pe_op op_mulA (pv 0) pe_int) (pe_op op_mulA (pv 1) pe_int)) (pe_ix (ix_tupK (K := K) rfl) (pv 3) (pe_op op_mod (pv 1) pe_int) (fun _ _ => rfl))) (pv 2))))), ?_⟩
    dsimp only [cxOf, L2H.cxH, Cx.nox, Cx.wish, L2.start, List.map_cons, List.map_nil, List.length_cons, List.length_nil, List.cons_append, List.nil_append]
    refine q_asgU (eu_tup (by walk_at "ea") (by show (16 : Nat) ≤ 100000; decide)) fun p H1 hp e1 h1 => ?_
    have h1' : SqT K H1 p (primes.map V.int) := st_of h1
    have k0 : 0 ≤ k % 16 := Int.emod_nonneg _ (by decide)
    have k1 : k % 16 < 16 := Int.emod_lt_of_pos _ (by decide)
    have k2 := primes_len
    have hpp : 0 < primes.getD (k % 16).toNat 0 := primes_pos (by omega)
    exact s_ret (v := .int (drawI c k m)) (by unfold drawI; walk_at "ev") fun H2 e2 => kk _ (e1.trans e2)
def menuI : List Int := [4, 2, 9, 40, 3, 1]
theorem menu_len : menuI.length = 6 := rfl
theorem menu_pos {i : Nat} (h : i < 6) : 0 < menuI.getD i 0 ∧ menuI.getD i 0 ≤ 40 := by
  have : ∀ i : Fin 6, 0 < menuI.getD i.val 0 ∧ menuI.getD i.val 0 ≤ 40 := by decide
  exact this ⟨i, h⟩
def kindI (s : List Int) : Int := drawI (s.getD 0 0) 6 6
/-- the size by its steps -/
def size0 (kind c k : Int) : Int := 1 + drawI c (k % 5 + 1) (menuI.getD kind.toNat 0)
def size1 (kind c k : Int) : Int := if kind = 2 then size0 kind c k / 2 * 2 + 1 else size0 kind c k
def size2 (kind c k : Int) : Int := if kind = 4 ∧ 2 < k then 1 else size1 kind c k
def sizeI (kind c k : Int) : Int := if kind = 5 then 1 + c / 7 % 10 ^ (59 : Int).toNat else size2 kind c k
theorem kind_bd (s : List Int) : 0 ≤ kindI s ∧ kindI s < 6 := ⟨draw_nn (by decide), draw_lt (by decide)⟩
theorem size_bd {kind c k : Int} (h0 : 0 ≤ kind) (h1 : kind < 6) : 1 ≤ sizeI kind c k ∧ sizeI kind c k ≤ 10 ^ 59 := by
  have hm := menu_pos (i := kind.toNat) (by omega)
  have a := draw_nn (c := c) (k := k % 5 + 1) hm.1
  have b := draw_lt (c := c) (k := k % 5 + 1) hm.1
  have z0 : 1 ≤ size0 kind c k ∧ size0 kind c k ≤ 40 := by unfold size0; omega
  have z1 : 1 ≤ size1 kind c k ∧ size1 kind c k ≤ 41 := by unfold size1; split <;> omega
  have z2 : 1 ≤ size2 kind c k ∧ size2 kind c k ≤ 41 := by unfold size2; split <;> omega
  have e : (10 : Int) ^ (59 : Int).toNat = 100000000000000000000000000000000000000000000000000000000000 := by decide
  have e2 : (10 : Int) ^ 59 = 100000000000000000000000000000000000000000000000000000000000 := by decide
  rw [e2]
  unfold sizeI
  rw [e]
  split
  · have c0 := Int.emod_nonneg (c / 7) (b := 100000000000000000000000000000000000000000000000000000000000) (by decide)
    have c1 := Int.emod_lt_of_pos (c / 7) (b := 100000000000000000000000000000000000000000000000000000000000) (by decide)
    omega
  · omega
def wheelsI (ns : List Int) : List Int := (List.range (ns.take 63).length).map fun i => sizeI (kindI (ns.take 63)) ((ns.take 63).getD i 0) (i : Int)
theorem wheels_len (ns : List Int) : (wheelsI ns).length = min 63 ns.length := by
  unfold wheelsI
  rw [List.length_map, List.length_range, List.length_take]
theorem wheels_bd {ns : List Int} {w : Int} (h : w ∈ wheelsI ns) : 1 ≤ w ∧ w ≤ 10 ^ 59 := by
  obtain ⟨i, _, rfl⟩ := List.mem_map.mp h
  exact size_bd (kind_bd _).1 (kind_bd _).2
theorem wheels_pos (ns : List Int) : Pos (wheelsI ns) := fun w h => (wheels_bd h).1
theorem lim59 : (10 : Int) ^ 59 < 2 ^ 250 := by decide
theorem wheels_sm (ns : List Int) : Sm (wheelsI ns) := ⟨by rw [wheels_len]; omega, fun w h => by have := (wheels_bd h).1; omega, fun w h => by have := (wheels_bd h).2; have := lim59; omega⟩
def sp_law_wheels (K : PySem.W.Frag) (_ : Cs) : Sp := fun vs H Q _ => ∃ (a : Addr) (ns : List Int), vs = [.ref a] ∧ SqL K H a (ns.map V.int) ∧ RetL ((wheelsI ns).map V.int) H Q
theorem spl_wheels {K : PySem.W.Frag} {C : Cs} {H : Hp} {a : Addr} {ns : List Int} (h1 : SqL K H a (ns.map V.int)) : SpL (sp_law_wheels K C) [.ref a] H ((wheelsI ns).map V.int) :=
  fun H1 e Q q E => ⟨a, ns, rfl, ex_l e h1, fun p H2 hp e2 h2 => q p H2 hp e2 h2⟩
theorem ok_law_wheels {P : Program} {w : World} {K : PySem.W.Frag} {mg : Str → Option Value} {base : Heap} {C : Cs} (T : Txt K mg C) : Cl P w K mg base CX0 2 "_law_wheels" ["_law_script"] (sp_law_wheels K C) := by
  have c_law_draw := ok_law_draw (P := P) (w := w) (base := base) T
  have c_law_cell_at := ok_law_cell_at (P := P) (w := w) (base := base) T
  refine cl0 T.d_law_wheels sc_law_wheels (fun vs H Q E h => ?_) (fun f cdv A outer s H vs Q E hr h => ?_)
  · obtain ⟨a, ns, rfl, hS, kk⟩ := h
    rfl
  · obtain ⟨a, ns, rfl, hS, kk⟩ := h
    refine ⟨_, (pss_cons (ps_set (i := 0) sc_law_wheels.nd rfl (.inl rfl) (pe_slice (sl_listK (K := K) rfl) (pv 0) po_none (po_some pe_int)))
    (pss_cons (ps_set (i := 1) sc_law_wheels.nd rfl (.inl rfl) (pe_cl c_law_draw (hr.mono (by decide)) (by rfl) pass0 (pa_cons (pe_cl c_law_cell_at (hr.mono (by decide)) (by rfl) pass0 (pa_cons (pv 0) (pa_cons pe_int pa_nil))) (pa_cons pe_int (pa_cons pe_int pa_nil)))))
    (pss_cons (ps_set (i := 2) sc_law_wheels.nd rfl (.inl rfl) (pe_lst pa_nil))
    (pss_cons (ps_for PassesOwn.never rfl (pi_range1 (by rfl) T.b_range (pa_cons (pe_callB (call_lenK (K := K) rfl) (by rfl) T.b_len PySem.boot_len (pa_cons (pv 0) pa_nil)) pa_nil)) (pg_name (i := 3) sc_law_wheels.nd rfl (.inl rfl))
    (pss_cons (ps_set (i := 4) sc_law_wheels.nd rfl (.inl rfl) (pe_op op_add pe_int (pe_cl c_law_draw (hr.mono (by decide)) (by rfl) pass0 (pa_cons (pe_ix (ix_listK (K := K) rfl) (pv 0) (pv 3) (fun _ _ => rfl)) (pa_cons (pe_op op_add (pe_op op_mod (pv 3) pe_int) pe_int) (pa_cons (pe_ix (ix_tupK (K := K) rfl) (pe_tup (pa_cons pe_int (pa_cons pe_int (pa_cons pe_int (pa_cons pe_int (pa_cons pe_int (pa_cons pe_int pa_nil))))))) (pv 1) (fun _ _ => rfl)) pa_nil))))))
    (pss_cons (ps_if (pt_cmpR op_eq (pv 1) pe_int (nomark _)) (pss_one (ps_set (i := 4) sc_law_wheels.nd rfl (.inl rfl) (pe_op op_add (pe_op op_mulA (pe_op op_fdiv (pv 4) pe_int) pe_int) pe_int))) pss_nil)
    (pss_cons (ps_if (PW.pt (pw_and (pt_cmpR op_eq (pv 1) pe_int (nomark _)) (pw_and1 (pt_cmpR op_gt (pv 3) pe_int (nomark _))))) (pss_one (ps_set (i := 4) sc_law_wheels.nd rfl (.inl rfl) pe_int)) pss_nil)
    (pss_cons (ps_if (pt_cmpR op_eq (pv 1) pe_int (nomark _)) (pss_one (ps_set (i := 4) sc_law_wheels.nd rfl (.inl rfl) (pe_op op_add pe_int (pe_op op_mod (pe_op op_fdiv (pe_ix (ix_listK (K := K) rfl) (pv 0) (pv 3) (fun _ _ => rfl)) pe_int) (pe_op op_pow pe_int pe_int))))) pss_nil)
    (pss_one (ps_expr (pe_bm PySem.F.plainAttrs_list PySem.F.slot_list_append PySem.F.type_list_append mt_append (pv 2) (pa_cons (pv 4) pa_nil)))))))))
    (pss_one (ps_ret (pv 2))))))), ?_⟩
    dsimp only [cxOf, L2H.cxH, Cx.nox, Cx.wish, L2.start, List.map_cons, List.map_nil, List.length_cons, List.length_nil, List.cons_append, List.nil_append]
    refine q_asgL (el_sl (ev_var rfl) eo_none (eo_some ev_c) hS) fun c H1 hc e1 h1 => ?_
    rw [show ((63 : Int)) = ((63 : Nat) : Int) from rfl, cut_to, ← List.map_take] at h1
    have hl : (ns.take 63).length ≤ 63 := List.length_take_le ..
    generalize hs : ns.take 63 = s at h1 hl
    have kb := kind_bd s
    refine q_asg (v := .int (kindI s)) (ev_call (ea_cons (ev_call (ea_cons (ev_var rfl) (ea_cons ev_c ea_nil)) (spv_cell (ns := s) (sq_of h1) (by decide))) (by walk_at "ea")) (spv_draw (m := 6) (by decide))) fun H2 e2 => ?_
    refine q_asgL (el_lst ea_nil (Nat.zero_le _)) fun l H3 hl3 e3 h3 => ?_
    have hS3 : SqL K H3 c (s.map V.int) := sq_of (e3 _ _ (e2 _ _ h1))
    have hn : Ex H H2 := e1.trans e2
    refine q_forR1 (n := (s.length : Int)) (by walk_at "ea") (by omega) (fun i σ' H' => ∃ v3 v4, σ' = [some (.ref c), some (.int (kindI s)), some (.ref l), v3, v4] ∧ Ex H2 H' ∧ H' l = some (.lst (((List.range i).map fun i => sizeI (kindI s) (s.getD i 0) (i : Int)).map V.int)))
      (fun H4 e4 => ⟨none, none, rfl, e3.trans e4, e4 _ _ h3⟩) (fun i σ' H' hi ⟨v3, v4, es, e, eo⟩ => ?_) (fun σ' H' ⟨v3, v4, es, e, eo⟩ => ?_)
    · subst es
      have hS' : SqL K H' c (s.map V.int) := sq_of (e _ _ (e2 _ _ h1))
      have m1 := menu_pos (i := (kindI s).toNat) (by omega)
      have m2 := menu_len
      refine q_asg (v := .int (size0 (kindI s) (s.getD i 0) (i : Int))) (ev_op ev_c (ev_call (ea_cons (by walk_at "ev") (ea_cons (by walk_at "ev") (ea_cons (ev_ixU (xs := menuI.map V.int) (i := kindI s) (eu_tup (by show EvA _ _ _ [.int 4, .int 2, .int 9, .int 40, .int 3, .int 1]; walk_at "ea") (by show (6 : Nat) ≤ 100000; decide)) (fun H1 e => ev_var rfl) (at_intZ (by omega) (by omega))) ea_nil))) (spv_draw m1.1)) rv_I0) fun H5 e5 => ?_
      refine q_ifI (c := kindI s = 2) (e0 := size0 (kindI s) (s.getD i 0) (i : Int)) (e1 := size0 (kindI s) (s.getD i 0) (i : Int) / 2 * 2 + 1) (by walk_at "et") rfl (fun _ => by walk_at "ev") fun H6 e6 => ?_
      refine q_ifI (c := kindI s = 4 ∧ 2 < (i : Int)) (e0 := size1 (kindI s) (s.getD i 0) (i : Int)) (e1 := 1) (et_tt (by walk_at "et") dec_and) rfl (fun _ => by walk_at "ev") fun H7 e7 => ?_
      have hS7 : SqL K H7 c (s.map V.int) := ex_l ((e5.trans e6).trans e7) hS'
      refine q_ifI (c := kindI s = 5) (e0 := size2 (kindI s) (s.getD i 0) (i : Int)) (e1 := 1 + s.getD i 0 / 7 % 10 ^ (59 : Int).toNat) (by walk_at "et") rfl (fun _ => by walk_at "ev") fun H8 e8 => ?_
      refine s_app (l := l) ((((e5.trans e6).trans e7).trans e8) _ _ eo) (ev_var rfl) (v := .int (sizeI (kindI s) (s.getD i 0) (i : Int))) (ev_var rfl) (by rw [range_map_len]; omega) fun H9 e9 => ?_
      refine ⟨some (.int (i : Int)), some (.int (sizeI (kindI s) (s.getD i 0) (i : Int))), rfl, Ex.mut (e.trans ((((e5.trans e6).trans e7).trans e8).trans e9)) hl3, ?_⟩
      rw [upd_same, range_map_succ]
    · subst es
      rw [Int.toNat_natCast] at eo
      refine s_ret (ev_var rfl) fun H4 e4 => kk l H4 (fresh_back hn hl3) ((hn.trans e).trans e4) ?_
      rw [e4 _ _ eo]
      unfold wheelsI
      rw [hs]
def farN (s : List Int) (by_ : Int) : Nat → Int
  | 0 => 0
  | i + 1 => farN s by_ i * 1000003 + s.getD i 0 / 11 + drawI (s.getD i 0) ((i : Int) % 3 + by_) 1000003
def farI (s : List Int) (by_ m : Int) : Int := farN s by_ s.length % m
theorem far_bd {s : List Int} {b m : Int} (h : 0 < m) : 0 ≤ farI s b m ∧ farI s b m < m := ⟨Int.emod_nonneg _ (by omega), Int.emod_lt_of_pos _ h⟩
def sp_law_far (K : PySem.W.Frag) (_ : Cs) : Sp := fun vs H Q _ => ∃ (a : Addr) (ns : List Int) (b m : Int), vs = [.ref a, .int b, .int m] ∧ SqL K H a (ns.map V.int) ∧ ns.length ≤ 1000 ∧ 0 < m ∧ RetV (.int (farI ns b m)) H Q
theorem spv_far {K : PySem.W.Frag} {C : Cs} {H : Hp} {a : Addr} {ns : List Int} {b m : Int} (h1 : SqL K H a (ns.map V.int)) (h2 : ns.length ≤ 1000) (h : 0 < m) : SpV (sp_law_far K C) [.ref a, .int b, .int m] H (.int (farI ns b m)) :=
  fun H1 e Q q E => ⟨a, ns, b, m, rfl, ex_l e h1, h2, h, q⟩
/-! ### settings drawn -/
def set0 (c w k b : Int) : Int := (c / 3 + drawI c (k % 4 + b) 1000003) % w
def set1 (kind c w k b : Int) : Int := if kind = 1 ∧ 0 < set0 c w k b % 3 then w - 1 else set0 c w k b
def set2 (kind c w k b : Int) : Int := if kind = 2 ∧ 0 < set1 kind c w k b % 3 then 0 else set1 kind c w k b
theorem set_bd {kind c w k b : Int} (h : 1 ≤ w) : 0 ≤ set2 kind c w k b ∧ set2 kind c w k b < w := by
  have z0 : 0 ≤ set0 c w k b ∧ set0 c w k b < w := ⟨Int.emod_nonneg _ (by omega), Int.emod_lt_of_pos _ (by omega)⟩
  have z1 : 0 ≤ set1 kind c w k b ∧ set1 kind c w k b < w := by unfold set1; split <;> omega
  unfold set2
  split <;> omega
def settingI (ns ws : List Int) (b : Int) : List Int := (List.range ws.length).map fun i => set2 (drawI (ns.getD 1 0) b 3) (ns.getD i 0) (ws.getD i 0) (i : Int) b
theorem inS_range : ∀ {ws : List Int} (f : Nat → Int), (∀ i, i < ws.length → 0 ≤ f i ∧ f i < ws.getD i 0) → InS ws ((List.range ws.length).map f)
  | [], _, _ => trivial
  | w :: ws, f, h => by
    rw [List.length_cons, List.range_succ_eq_map, List.map_cons, List.map_map]
    exact ⟨h 0 (by simp), inS_range (f ∘ Nat.succ) fun i hi => h (i + 1) (by simpa using hi)⟩
theorem setting_in {ns ws : List Int} {b : Int} (h : Pos ws) : InS ws (settingI ns ws b) := inS_range _ fun i hi => set_bd (h _ (getD_mem hi))
theorem setting_len (ns ws : List Int) (b : Int) : (settingI ns ws b).length = ws.length := by
  unfold settingI
  rw [List.length_map, List.length_range]
def sp_law_setting (K : PySem.W.Frag) (_ : Cs) : Sp := fun vs H Q _ => ∃ (a c : Addr) (ns ws : List Int) (b : Int), vs = [.ref a, .ref c, .int b] ∧ SqL K H a (ns.map V.int) ∧ SqL K H c (ws.map V.int) ∧ ws.length ≤ ns.length ∧ ws.length ≤ 1000 ∧ Pos ws ∧ RetL ((settingI ns ws b).map V.int) H Q
theorem spl_setting {K : PySem.W.Frag} {C : Cs} {H : Hp} {a c : Addr} {ns ws : List Int} {b : Int} (h1 : SqL K H a (ns.map V.int)) (h2 : SqL K H c (ws.map V.int)) (h3 : ws.length ≤ ns.length) (h4 : ws.length ≤ 1000) (h5 : Pos ws) : SpL (sp_law_setting K C) [.ref a, .ref c, .int b] H ((settingI ns ws b).map V.int) :=
  fun H1 e Q q E => ⟨a, c, ns, ws, b, rfl, ex_l e h1, ex_l e h2, h3, h4, h5, fun p H2 hp e2 h2 => q p H2 hp e2 h2⟩
theorem ok_law_setting {P : Program} {w : World} {K : PySem.W.Frag} {mg : Str → Option Value} {base : Heap} {C : Cs} (T : Txt K mg C) : Cl P w K mg base CX0 2 "_law_setting" ["_law_script", "_law_wheels_here", "_law_by"] (sp_law_setting K C) := by
  have c_law_draw := ok_law_draw (P := P) (w := w) (base := base) T
  have c_law_cell_at := ok_law_cell_at (P := P) (w := w) (base := base) T
  refine cl0 T.d_law_setting sc_law_setting (fun vs H Q E h => ?_) (fun f cdv A outer s H vs Q E hr h => ?_)
  · obtain ⟨a, c, ns, ws, b, rfl, hS, hW, hle, hl, hp, kk⟩ := h
    rfl
  · obtain ⟨a, c, ns, ws, b, rfl, hS, hW, hle, hl, hp, kk⟩ := h
    refine ⟨_, (pss_cons (ps_set (i := 3) sc_law_setting.nd rfl (.inl rfl) (pe_cl c_law_draw (hr.mono (by decide)) (by rfl) pass0 (pa_cons (pe_cl c_law_cell_at (hr.mono (by decide)) (by rfl) pass0 (pa_cons (pv 0) (pa_cons pe_int pa_nil))) (pa_cons (pv 2) (pa_cons pe_int pa_nil)))))
    (pss_cons (ps_set (i := 4) sc_law_setting.nd rfl (.inl rfl) (pe_lst pa_nil))
    (pss_cons (ps_for PassesOwn.never rfl (pi_enum (by rfl) T.b_enumerate (pa_cons (pv 1) pa_nil)) (pg_tupK (K := K) (n := 2) rfl rfl (pgs_cons (pg_name (i := 5) sc_law_setting.nd rfl (.inl rfl)) (pgs_cons (pg_name (i := 6) sc_law_setting.nd rfl (.inl rfl)) pgs_nil)))
    (pss_cons (ps_set (i := 7) sc_law_setting.nd rfl (.inl rfl) (pe_op op_mod (pe_op op_add (pe_op op_fdiv (pe_ix (ix_listK (K := K) rfl) (pv 0) (pv 5) (fun _ _ => rfl)) pe_int) (pe_cl c_law_draw (hr.mono (by decide)) (by rfl) pass0 (pa_cons (pe_ix (ix_listK (K := K) rfl) (pv 0) (pv 5) (fun _ _ => rfl)) (pa_cons (pe_op op_add (pe_op op_mod (pv 5) pe_int) (pv 2)) (pa_cons pe_int pa_nil))))) (pv 6)))
    (pss_cons (ps_if (PW.pt (pw_and (pt_cmpR op_eq (pv 3) pe_int (nomark _)) (pw_and1 (pt_cmpR op_gt (pe_op op_mod (pv 7) pe_int) pe_int (nomark _))))) (pss_one (ps_set (i := 7) sc_law_setting.nd rfl (.inl rfl) (pe_op op_sub (pv 6) pe_int))) pss_nil)
    (pss_cons (ps_if (PW.pt (pw_and (pt_cmpR op_eq (pv 3) pe_int (nomark _)) (pw_and1 (pt_cmpR op_gt (pe_op op_mod (pv 7) pe_int) pe_int (nomark _))))) (pss_one (ps_set (i := 7) sc_law_setting.nd rfl (.inl rfl) pe_int)) pss_nil)
    (pss_one (ps_expr (pe_bm PySem.F.plainAttrs_list PySem.F.slot_list_append PySem.F.type_list_append mt_append (pv 4) (pa_cons (pv 7) pa_nil))))))))
    (pss_one (ps_ret (pv 4)))))), ?_⟩
    dsimp only [cxOf, L2H.cxH, Cx.nox, Cx.wish, L2.start, List.map_cons, List.map_nil, List.length_cons, List.length_nil, List.cons_append, List.nil_append]
    refine q_asg (v := .int (drawI (ns.getD 1 0) b 3)) (ev_call (ea_cons (ev_call (ea_cons (ev_var rfl) (ea_cons ev_c ea_nil)) (spv_cell hS (by decide))) (by walk_at "ea")) (spv_draw (m := 3) (by decide))) fun H1 e1 => ?_
    unfold settingI at kk
    generalize drawI (ns.getD 1 0) b 3 = kd at kk
    refine q_asgL (el_lst ea_nil (Nat.zero_le _)) fun l H2 hl2 e2 h2 => ?_
    have hW2 := ex_l (e1.trans e2) hW
    refine q_forE (K := K) (a := c) (xs := ws.map V.int) (by walk_at "ea") hW2 (fun i σ' H' => ∃ v5 v6 v7, σ' = [some (.ref a), some (.ref c), some (.int b), some (.int kd), some (.ref l), v5, v6, v7] ∧ Ex H1 H' ∧ H' l = some (.lst (((List.range i).map fun i => set2 kd (ns.getD i 0) (ws.getD i 0) (i : Int) b).map V.int)))
      (fun H3 e3 => ⟨none, none, none, rfl, e2.trans e3, e3 _ _ h2⟩) (fun i σ' H' _ ⟨_, _, _, _, e, _⟩ => ex_l (e1.trans e) hW) (fun i x σ' H' H3 hx ⟨v5, v6, v7, es, e, eo⟩ e3 => ?_) (fun σ' H' ⟨v5, v6, v7, es, e, eo⟩ => ?_)
    · subst es
      obtain ⟨w, rfl, hw, hm⟩ := map_get hx
      have ew : ws.getD i 0 = w := by rw [List.getD_eq_getElem?_getD, hw]; rfl
      have hi := (List.getElem?_eq_some_iff.mp hw).1
      have w1 := hp w hm
      have hS3 := ex_l ((e1.trans e).trans e3) hS
      refine q_asg (v := .int (set0 (ns.getD i 0) w (i : Int) b)) (ev_op (ev_op (by walk_at "ev") (ev_call (ea_cons (by walk_at "ev") (ea_cons (by walk_at "ev") (ea_cons ev_c ea_nil))) (spv_draw (m := 1000003) (by decide))) rv_I0) (ev_var rfl) (rv_I (by omega))) fun H4 e4 => ?_
      refine q_ifI (c := kd = 1 ∧ 0 < set0 (ns.getD i 0) w (i : Int) b % 3) (e0 := set0 (ns.getD i 0) w (i : Int) b) (e1 := w - 1) (et_tt (by walk_at "et") dec_and) rfl (fun _ => by walk_at "ev") fun H5 e5 => ?_
      refine q_ifI (c := kd = 2 ∧ 0 < set1 kd (ns.getD i 0) w (i : Int) b % 3) (e0 := set1 kd (ns.getD i 0) w (i : Int) b) (e1 := 0) (et_tt (by walk_at "et") dec_and) rfl (fun _ => by walk_at "ev") fun H6 e6 => ?_
      refine s_app (l := l) ((((e3.trans e4).trans e5).trans e6) _ _ eo) (ev_var rfl) (v := .int (set2 kd (ns.getD i 0) w (i : Int) b)) (ev_var rfl) (by rw [range_map_len]; omega) fun H7 e7 => ?_
      refine ⟨some (.int (i : Int)), some (.int w), some (.int (set2 kd (ns.getD i 0) w (i : Int) b)), rfl, Ex.mut (e.trans ((((e3.trans e4).trans e5).trans e6).trans e7)) hl2, ?_⟩
      rw [upd_same, range_map_succ, ew]
    · subst es
      rw [List.length_map] at eo
      exact s_ret (ev_var rfl) fun H4 e4 => kk l H4 (fresh_back e1 hl2) ((e1.trans e).trans e4) (e4 _ _ eo)
/-! ### counts, settings, steps reckoned by the law -/
def sp_law_count (K : PySem.W.Frag) (_ : Cs) : Sp := fun vs H Q _ => ∃ (a : Addr) (ws : List Int), vs = [.ref a] ∧ SqL K H a (ws.map V.int) ∧ Sm ws ∧ RetV (.int (cnt ws)) H Q
theorem spv_law_count {K : PySem.W.Frag} {C : Cs} {H : Hp} {a : Addr} {ws : List Int} (h1 : SqL K H a (ws.map V.int)) (h : Sm ws) : SpV (sp_law_count K C) [.ref a] H (.int (cnt ws)) :=
  fun H1 e Q q E => ⟨a, ws, rfl, ex_l e h1, h, q⟩
theorem ok_law_count {P : Program} {w : World} {K : PySem.W.Frag} {mg : Str → Option Value} {base : Heap} {C : Cs} (T : Txt K mg C) : Cl P w K mg base CX0 1 "_law_count" ["_law_wheels_here"] (sp_law_count K C) := by
  refine cl0 T.d_law_count sc_law_count (fun vs H Q E h => ?_) (fun f cdv A outer s H vs Q E hr h => ?_)
  · obtain ⟨a, ws, rfl, hW, hm, k⟩ := h
    rfl
  · obtain ⟨a, ws, rfl, hW, hm, k⟩ := h
    refine ⟨_, (pss_cons (ps_set (i := 1) sc_law_count.nd rfl (.inl rfl) pe_int)
    (pss_cons (ps_for PassesOwn.never rfl (pi_listK (K := K) rfl (pv 0)) (pg_name (i := 2) sc_law_count.nd rfl (.inl rfl))
    (pss_one (ps_set (i := 1) sc_law_count.nd rfl (.inl rfl) (pe_op op_mulA (pv 1) (pv 2)))))
    (pss_one (ps_ret (pv 1))))), ?_⟩
    dsimp only [cxOf, L2H.cxH, Cx.nox, Cx.wish, L2.start, List.map_cons, List.map_nil, List.length_cons, List.length_nil, List.cons_append, List.nil_append]
    refine q_asg ev_c fun H1 e1 => ?_
    refine q_forLn (K := K) (a := a) (xs := ws.map V.int) (ev_var rfl) (ex_l e1 hW) (fun i σ' H' => ∃ v, σ' = [some (.ref a), some (.int (cnt (ws.take i))), v] ∧ Ex H H') (fun H2 e2 => ⟨_, rfl, e1.trans e2⟩) (fun i σ' H' _ ⟨_, _, e⟩ => ex_l e hW) ?_ ?_
    · rintro i x σ' H' hx ⟨v, rfl, e⟩
      obtain ⟨w, rfl, hw, hm'⟩ := map_get hx
      have hM : IntMulOk (cnt (ws.take i)) w := mulX (hm.mulX hm')
      refine s_asg (v := .int (cnt (ws.take i) * w)) (by walk_at "ev") fun H2 e2 => ⟨some (.int w), ?_, e.trans e2⟩
      rw [take_succ_of hw, cnt_snoc]
      rfl
    · rintro σ' H' ⟨v, rfl, e⟩
      refine s_ret (ev_var rfl) fun H2 e2 => ?_
      rw [List.length_map, List.take_length]
      exact k H2 (e.trans e2)
def sp_law_whole (K : PySem.W.Frag) (_ : Cs) : Sp := fun vs H Q _ => ∃ (v : V) (kd : Kd), vs = [v] ∧ Thg K H v kd ∧ RetV (.bl kd.whole) H Q
theorem spv_law_whole {K : PySem.W.Frag} {C : Cs} {H : Hp} {i : Int} : SpV (sp_law_whole K C) [.int i] H (.bl true) := fun H1 e Q q E => ⟨_, _, rfl, .int i, q⟩
def sp_law_step (K : PySem.W.Frag) (_ : Cs) : Sp := fun vs H Q _ => ∃ (a b : Addr) (xs ys : List Int), vs = [.ref a, .ref b] ∧ SqL K H a (xs.map V.int) ∧ SqL K H b (ys.map V.int) ∧ xs.length = ys.length ∧ xs.length ≤ 40000 ∧ RetV (.bl (decide (dist xs ys = 1))) H Q
theorem spv_step {K : PySem.W.Frag} {C : Cs} {H : Hp} {a b : Addr} {xs ys : List Int} (h1 : SqL K H a (xs.map V.int)) (h2 : SqL K H b (ys.map V.int)) (h3 : xs.length = ys.length) (h4 : xs.length ≤ 40000) : SpV (sp_law_step K C) [.ref a, .ref b] H (.bl (decide (dist xs ys = 1))) :=
  fun H1 e Q q E => ⟨a, b, xs, ys, rfl, ex_l e h1, ex_l e h2, h3, h4, q⟩
theorem ev_dist {K : PySem.W.Frag} {H : Hp} {σ : L2.St} {ta : TA} {te : TE} {j : Nat} {vs : List Nat} {xs ys : List Int} (h : EvA ta σ H [.int (xs.length : Int)]) (hl : xs.length = ys.length) (hz : xs.length ≤ 40000) (hw : ∀ x, wipe ((wipe σ vs).set j (some x)) vs = wipe σ vs)
    (he : ∀ (i : Nat) H1, Ex H H1 → i < xs.length → Ev te ((wipe σ vs).set j (some (.int (i : Int)))) H1 (.int (iabs (xs.getD i 0 - ys.getD i 0)))) :
    Ev (tCB (rSum K) (tCons (tLc (iRng1 ta) (gName j) tYes te vs) tNil)) σ H (.int (dist xs ys)) := by
  rw [← dist_sum xs ys hl]
  refine ev_sumN (el_range (n := xs.length) (by rw [List.length_map, List.length_map, List.length_range]) h hz hw fun i y H1 e hi hy => ?_)
  rw [List.map_map, List.getElem?_map, List.getElem?_range hi] at hy
  cases hy
  exact he i H1 e hi
def sp_law_is_setting (K : PySem.W.Frag) (_ : Cs) : Sp := fun vs H Q _ => ∃ (a b : Addr) (ws ss : List Int), vs = [.ref a, .ref b] ∧ SqL K H a (ws.map V.int) ∧ SqL K H b (ss.map V.int) ∧ ws.length ≤ 40000 ∧ ss.length ≤ 40000 ∧ RetV (.bl (setOk ws (ss.map Kd.int))) H Q
theorem spv_law_is_setting {K : PySem.W.Frag} {C : Cs} {H : Hp} {a b : Addr} {ws ss : List Int} (h1 : SqL K H a (ws.map V.int)) (h2 : SqL K H b (ss.map V.int)) (h3 : ws.length ≤ 40000) (h4 : ss.length ≤ 40000) : SpV (sp_law_is_setting K C) [.ref a, .ref b] H (.bl (setOk ws (ss.map Kd.int))) :=
  fun H1 e Q q E => ⟨a, b, ws, ss, rfl, ex_l e h1, ex_l e h2, h3, h4, q⟩
theorem any_false (n : Nat) : ((List.replicate n false)).any id = false := by
  induction n with
  | zero => rfl
  | succ n ih => rw [List.replicate_succ, List.any_cons, ih]; rfl
/-! ### neighbours, near, apart -/
theorem cut_setV {ss : List Int} {k : Nat} (x : Int) (h : k < ss.length) : cutV (ss.map V.int) none (some (k : Int)) ++ [V.int x] ++ cutV (ss.map V.int) (some ((k : Int) + 1)) none = (ss.set k x).map V.int := by
  rw [cut_to, show ((k : Int) + 1) = ((k + 1 : Nat) : Int) from rfl, cut_from, ← set_cut x h, List.map_append, List.map_append, List.map_take, List.map_drop]
  rfl
/-- s[:k] + [x] + s[k + 1:] -/
theorem el_put {K : PySem.W.Frag} {H : Hp} {σ : L2.St} {t1 t2 t3 t4 te : TE} {p : Addr} {ss : List Int} {k : Nat} {x : Int} (hS : SqL K H p (ss.map V.int)) (hk : k < ss.length) (hl : ss.length ≤ 40000) (h1 : Ev t1 σ H (.ref p)) (h2 : Ev t2 σ H (.int (k : Int))) (hx : Ev te σ H (.int x)) (h3 : Ev t3 σ H (.ref p)) (h4 : Ev t4 σ H (.int ((k : Int) + 1))) :
    EvL (tOp (rCatQ K) (tOp (rCatQ K) (tSl (rSlL K) t1 tNoPart (tPart t2)) (tLst (tCons te tNil))) (tSl (rSlL K) t3 (tPart t4) tNoPart)) σ H ((ss.set k x).map V.int) := by
  rw [← cut_setV x hk]
  have l1 := cutV_length (ss.map V.int) none (some (k : Int))
  have l2 := cutV_length (ss.map V.int) (some ((k : Int) + 1)) none
  rw [List.length_map] at l1 l2
  exact el_catLL (el_catLL (el_sl h1 eo_none (eo_some h2) hS) (el_lst (ea_cons hx ea_nil) (by show 1 ≤ 100000; decide)) (by show _ + 1 ≤ 100000; omega)) (el_sl h3 (eo_some h4) eo_none hS) (by rw [List.length_append]; show _ + 1 + _ ≤ 100000; omega)
def sp_neighbours (K : PySem.W.Frag) (_ : Cs) : Sp := fun vs H Q _ => ∃ (a b : Addr) (ws ss : List Int), vs = [.ref a, .ref b] ∧ SqL K H a (ws.map V.int) ∧ SqL K H b (ss.map V.int) ∧ InS ws ss ∧ ws.length ≤ 1000 ∧ RetR K (sortL (nbs ws ss)) H Q
theorem spr_neighbours {K : PySem.W.Frag} {C : Cs} {H : Hp} {a b : Addr} {ws ss : List Int} (h1 : SqL K H a (ws.map V.int)) (h2 : SqL K H b (ss.map V.int)) (hi : InS ws ss) (hl : ws.length ≤ 1000) : SpR K (sp_neighbours K C) [.ref a, .ref b] H (sortL (nbs ws ss)) :=
  fun H1 e Q q E => ⟨a, b, ws, ss, rfl, ex_l e h1, ex_l e h2, hi, hl, q⟩
theorem ok_neighbours {P : Program} {w : World} {K : PySem.W.Frag} {mg : Str → Option Value} {base : Heap} {C : Cs} (T : Txt K mg C) : Cl P w K mg base CX0 1 "neighbours" ["wheels", "setting"] (sp_neighbours K C) := by
  refine cl0 T.d_neighbours sc_neighbours (fun vs H Q E h => ?_) (fun f cdv A outer s H vs Q E hr h => ?_)
  · obtain ⟨a, b, ws, ss, rfl, hW, hS, hi, hl, k⟩ := h
    rfl
  · obtain ⟨a, b, ws, ss, rfl, hW, hS, hi, hl, k⟩ := h
    refine ⟨_, (pss_cons (ps_set (i := 2) sc_neighbours.nd rfl (.inl rfl) (pe_lst pa_nil))
    (pss_cons (ps_for PassesOwn.never rfl (pi_enum (by rfl) T.b_enumerate (pa_cons (pv 1) pa_nil)) (pg_tupK (K := K) (n := 2) rfl rfl (pgs_cons (pg_name (i := 3) sc_neighbours.nd rfl (.inl rfl)) (pgs_cons (pg_name (i := 4) sc_neighbours.nd rfl (.inl rfl)) pgs_nil)))
    (pss_cons (ps_if (pt_cmpR op_gt (pv 4) pe_int (nomark _)) (pss_one (ps_expr (pe_bm PySem.F.plainAttrs_list PySem.F.slot_list_append PySem.F.type_list_append mt_append (pv 2) (pa_cons (pe_op (op_catK (K := K) rfl) (pe_op (op_catK (K := K) rfl) (pe_slice (sl_listK (K := K) rfl) (pv 1) po_none (po_some (pv 3))) (pe_lst (pa_cons (pe_op op_sub (pv 4) pe_int) pa_nil))) (pe_slice (sl_listK (K := K) rfl) (pv 1) (po_some (pe_op op_add (pv 3) pe_int)) po_none)) pa_nil)))) pss_nil)
    (pss_one (ps_if (pt_cmpR op_lt (pe_op op_add (pv 4) pe_int) (pe_ix (ix_listK (K := K) rfl) (pv 0) (pv 3) (fun _ _ => rfl)) (nomark _)) (pss_one (ps_expr (pe_bm PySem.F.plainAttrs_list PySem.F.slot_list_append PySem.F.type_list_append mt_append (pv 2) (pa_cons (pe_op (op_catK (K := K) rfl) (pe_op (op_catK (K := K) rfl) (pe_slice (sl_listK (K := K) rfl) (pv 1) po_none (po_some (pv 3))) (pe_lst (pa_cons (pe_op op_add (pv 4) pe_int) pa_nil))) (pe_slice (sl_listK (K := K) rfl) (pv 1) (po_some (pe_op op_add (pv 3) pe_int)) po_none)) pa_nil)))) pss_nil))))
    (pss_one (ps_ret (pe_callB (call_sortedK (K := K) rfl hr.units) (by rfl) T.b_sorted (by decide +kernel) (pa_cons (pv 2) pa_nil)))))), ?_⟩
    dsimp only [cxOf, L2H.cxH, Cx.nox, Cx.wish, L2.start, List.map_cons, List.map_nil, List.length_cons, List.length_nil, List.cons_append, List.nil_append]
    have hsl := hi.len
    refine q_asgL (el_lst ea_nil (Nat.zero_le _)) fun d H1 hd e1 h1 => ?_
    refine q_forE (K := K) (a := b) (xs := ss.map V.int) (by walk_at "ea") (ex_l e1 hS) (fun i σ' H' => ∃ v3 v4 xs, σ' = [some (.ref a), some (.ref b), some (.ref d), v3, v4] ∧ Ex H H' ∧ H' d = some (.lst xs) ∧ RowsA d H' xs (nbUp ws ss i))
      (fun H2 e2 => ⟨none, none, [], rfl, e1.trans e2, e2 _ _ h1, .nil⟩) (fun i σ' H' _ ⟨_, _, _, _, e, _⟩ => ex_l e hS) (fun i x σ' H' H2 hx ⟨v3, v4, xs, es, e, hxd, hr⟩ e2 => ?_) (fun σ' H' ⟨v3, v4, xs, es, e, hxd, hr⟩ => ?_)
    · subst es
      obtain ⟨s, rfl, hs, _⟩ := map_get hx
      have hik := (List.getElem?_eq_some_iff.mp hs).1
      have es : ss.getD i 0 = s := by rw [List.getD_eq_getElem?_getD, hs]; rfl
      have hS2 := ex_l (e.trans e2) hS
      have hW2 := ex_l (e.trans e2) hW
      have hll := hr.len
      have hnl := nbUp_len ws ss i
      refine q_ifApp (c := 0 < ss.getD i 0) (ns := ss.set i (ss.getD i 0 - 1)) (e2 _ _ hxd) (hr.mono e2) (by omega) (by rw [es]; walk_at "et") (ev_var rfl) (fun _ => el_put hS2 hik (by omega) (ev_var rfl) (ev_var rfl) (by rw [es]; walk_at "ev") (ev_var rfl) (by walk_at "ev")) fun xs1 H3 b3 h3 hr3 => ?_
      have e3 : Ex H H3 := b3.ex (e.trans e2) hd
      have hS3 := ex_l e3 hS
      have hW3 := ex_l e3 hW
      have hll3 := hr3.len
      rw [List.length_append] at hll3
      have h1l : (if 0 < ss.getD i 0 then [ss.set i (ss.getD i 0 - 1)] else []).length ≤ 1 := by split <;> simp
      have hiw : i < ws.length := by omega
      refine s_ifApp (c := ss.getD i 0 + 1 < ws.getD i 0) (ns := ss.set i (ss.getD i 0 + 1)) h3 hr3 (by omega) (by rw [es]; walk_at "et") (ev_var rfl) (fun _ => el_put hS3 hik (by omega) (ev_var rfl) (ev_var rfl) (by rw [es]; walk_at "ev") (ev_var rfl) (by walk_at "ev")) fun xs2 H4 b4 h4 hr4 => ?_
      refine ⟨some (.int (i : Int)), some (.int s), xs2, rfl, b4.ex e3 hd, h4, ?_⟩
      rw [List.append_assoc] at hr4
      exact hr4
    · subst es
      rw [List.length_map] at hr
      exact s_retR (er_sorted (ev_var rfl) (sq_of hxd) hr.rows) (k.mono e)
def sp_near (K : PySem.W.Frag) (C : Cs) : Sp := fun vs H Q E => ∃ (v s : V), vs = [v, s] ∧ Door K C H v E fun _ ws => ws.length ≤ 1000 ∧ DoorS K C H ws s E fun _ ss => RetR K (sortL (nbs ws ss)) H Q
theorem spr_near {K : PySem.W.Frag} {C : Cs} {H : Hp} {a b : Addr} {ws ss : List Int} (h1 : SqL K H a (ws.map V.int)) (h2 : Pos ws) (h3 : SqL K H b (ss.map V.int)) (hi : InS ws ss) (hl : ws.length ≤ 1000) : SpR K (sp_near K C) [.ref a, .ref b] H (sortL (nbs ws ss)) :=
  fun H1 e Q q E => ⟨_, _, rfl, .inr (.inr ⟨a, ws, rfl, ex_l e h1, h2, by omega, hl, .inr ⟨b, ss, rfl, ex_l e h3, hi, q⟩⟩)⟩
theorem ok_near {P : Program} {w : World} {K : PySem.W.Frag} {mg : Str → Option Value} {base : Heap} {C : Cs} (T : Txt K mg C) : Cl P w K mg base (L2N.CX P w) 4 "near" ["wheels", "setting"] (sp_near K C) := by
  have c_check_wheels := ok_check_wheels (P := P) (w := w) (base := base) T
  have c_check_setting := ok_check_setting (P := P) (w := w) (base := base) T
  have c_neighbours := ok_neighbours (P := P) (w := w) (base := base) T
  refine clX T.d_near sc_near (fun vs H Q E h => ?_) (fun f cdv A outer s H vs Q E hr h => ?_)
  · obtain ⟨v, s', rfl, hd⟩ := h
    rfl
  · obtain ⟨v, s', rfl, hd⟩ := h
    refine ⟨_, (pss_cons (ps_expr (pe_cl c_check_wheels (hr.mono (by decide)) (by rfl) (pass1 (L2N.takes_of rfl rfl rfl rfl)) (pa_cons (pv 0) pa_nil)))
    (pss_cons (ps_expr (pe_cl c_check_setting (hr.mono (by decide)) (by rfl) (pass1 (L2N.takes_of rfl rfl rfl rfl)) (pa_cons (pv 0) (pa_cons (pv 1) pa_nil))))
    (pss_one (ps_ret (pe_cl c_neighbours (hr.mono (by decide)) (by rfl) pass0 (pa_cons (pv 0) (pa_cons (pv 1) pa_nil))))))), ?_⟩
    dsimp only [cxOf, L2H.cxH, Cx.nox, Cx.wish, L2.start, List.map_cons, List.map_nil, List.length_cons, List.length_nil, List.cons_append, List.nil_append]
    refine q_call (vs := [v]) (by walk_at "ea") fun H1 e1 => (hd.mono e1).check fun a ws ev hW hp hl ⟨hl2, hs⟩ H2 e2 => ?_
    subst ev
    have e12 := e1.trans e2
    refine q_call (vs := [.ref a, s']) (by walk_at "ea") fun H3 e3 => ?_
    have e13 := e12.trans e3
    refine (hs.mono e13).check (ex_l (e2.trans e3) hW) hl fun c ss ec hS hi kk H4 e4 => ?_
    subst ec
    exact s_retR (er_call (ea_cons (ev_var rfl) (ea_cons (ev_var rfl) ea_nil)) (spr_neighbours (ex_l ((e2.trans e3).trans e4) hW) (ex_l e4 hS) hi hl2)) (kk.mono (e13.trans e4))
def sp_apart (K : PySem.W.Frag) (C : Cs) : Sp := fun vs H Q E => ∃ (v s t : V), vs = [v, s, t] ∧ Door K C H v E fun _ ws => DoorS K C H ws s E fun _ ss => DoorS K C H ws t E fun _ ts => RetV (.int (dist ss ts)) H Q
theorem spv_apart {K : PySem.W.Frag} {C : Cs} {H : Hp} {a b c : Addr} {ws ss ts : List Int} (h1 : SqL K H a (ws.map V.int)) (h2 : Pos ws) (hl : ws.length ≤ 1000) (h3 : SqL K H b (ss.map V.int)) (hi : InS ws ss) (h4 : SqL K H c (ts.map V.int)) (hi2 : InS ws ts) : SpV (sp_apart K C) [.ref a, .ref b, .ref c] H (.int (dist ss ts)) :=
  fun H1 e Q q E => ⟨_, _, _, rfl, .inr (.inr ⟨a, ws, rfl, ex_l e h1, h2, by omega, .inr ⟨b, ss, rfl, ex_l e h3, hi, .inr ⟨c, ts, rfl, ex_l e h4, hi2, q⟩⟩⟩)⟩
theorem ok_apart {P : Program} {w : World} {K : PySem.W.Frag} {mg : Str → Option Value} {base : Heap} {C : Cs} (T : Txt K mg C) : Cl P w K mg base (L2N.CX P w) 4 "apart" ["wheels", "one", "other"] (sp_apart K C) := by
  have c_check_wheels := ok_check_wheels (P := P) (w := w) (base := base) T
  have c_check_setting := ok_check_setting (P := P) (w := w) (base := base) T
  refine clX T.d_apart sc_apart (fun vs H Q E h => ?_) (fun f cdv A outer s H vs Q E hr h => ?_)
  · obtain ⟨v, s', t', rfl, hd⟩ := h
    rfl
  · obtain ⟨v, s', t', rfl, hd⟩ := h
    refine ⟨_, (pss_cons (ps_expr (pe_cl c_check_wheels (hr.mono (by decide)) (by rfl) (pass1 (L2N.takes_of rfl rfl rfl rfl)) (pa_cons (pv 0) pa_nil)))
    (pss_cons (ps_expr (pe_cl c_check_setting (hr.mono (by decide)) (by rfl) (pass1 (L2N.takes_of rfl rfl rfl rfl)) (pa_cons (pv 0) (pa_cons (pv 1) pa_nil))))
    (pss_cons (ps_expr (pe_cl c_check_setting (hr.mono (by decide)) (by rfl) (pass1 (L2N.takes_of rfl rfl rfl rfl)) (pa_cons (pv 0) (pa_cons (pv 2) pa_nil))))
    (pss_one (ps_ret (pe_callB (cr_sumK (K := K) rfl rfl) (by rfl) T.b_sum (by decide +kernel) (pa_cons (pe_lc (own := [("k", 3)]) (g := gName 3) (tt := tYes) rfl sc_apart.nd (pi_range1 (by rfl) T.b_range (pa_cons (pe_callB (call_lenK (K := K) rfl) (by rfl) T.b_len PySem.boot_len (pa_cons (pv 0) pa_nil)) pa_nil)) (blkOk_by (N := ["wheels", "one", "other", "k"]) (sc := defScope S_apart) (own := [("k", 3)]) (by decide +kernel)) (fun _ _ _ _ _ => (pg_name (i := 3) sc_apart.nd rfl (.inl rfl))) (fun _ _ _ _ _ => pts_nil) (fun _ _ _ _ _ => (pe_callB call_abs (by rfl) T.b_abs (by decide +kernel) (pa_cons (pe_op op_sub (pe_ix (ix_listK (K := K) rfl) (pv 1) (pv 3) (fun _ _ => rfl)) (pe_ix (ix_listK (K := K) rfl) (pv 2) (pv 3) (fun _ _ => rfl))) pa_nil)))) pa_nil))))))), ?_⟩
    dsimp only [cxOf, L2H.cxH, Cx.nox, Cx.wish, L2.start, List.map_cons, List.map_nil, List.length_cons, List.length_nil, List.cons_append, List.nil_append]
    refine q_call (vs := [v]) (by walk_at "ea") fun H1 e1 => (hd.mono e1).check fun a ws ev hW hp hl hs H2 e2 => ?_
    subst ev
    have e12 := e1.trans e2
    refine q_call (vs := [.ref a, s']) (by walk_at "ea") fun H3 e3 => ?_
    have e13 := e12.trans e3
    refine (hs.mono e13).check (ex_l (e2.trans e3) hW) hl fun c ss ec hS hi ht H4 e4 => ?_
    subst ec
    have e14 := e13.trans e4
    refine q_call (vs := [.ref a, t']) (by walk_at "ea") fun H5 e5 => ?_
    have e15 := e14.trans e5
    refine (ht.mono e15).check (ex_l (((e2.trans e3).trans e4).trans e5) hW) hl fun d ts ed hT hi2 kk H6 e6 => ?_
    subst ed
    have hW6 := ex_l ((((e2.trans e3).trans e4).trans e5).trans e6) hW
    have hS6 := ex_l ((e4.trans e5).trans e6) hS
    have hT6 := ex_l e6 hT
    have hls := hi.len
    have hlt := hi2.len
    refine s_ret (v := .int (dist ss ts)) (ev_dist (by rw [hls]; walk_at "ea") (by omega) (by omega) (fun _ => rfl) fun i H7 e7 hlt => ?_) fun H7 e7 => kk H7 ((e15.trans e6).trans e7)
    have hS7 := ex_l e7 hS6
    have hT7 := ex_l e7 hT6
    walk_at "ev"
/-! ### answers -/
theorem given_len_eq (n : Nat) (f : Nat → Bool) (w : Nat → V) : (given n f w).length = ((List.range n).filter f).length := by
  unfold given
  rw [List.length_map]
def sp_turning (K : PySem.W.Frag) (_ : Cs) : Sp := fun vs H Q _ => ∃ (a : Addr) (ws : List Int), vs = [.ref a] ∧ SqL K H a (ws.map V.int) ∧ ws.length ≤ 1000 ∧ RetL (given ws.length (fun i => decide (1 < ws.getD i 0)) fun i => .int (i : Int)) H Q
theorem spl_turning {K : PySem.W.Frag} {C : Cs} {H : Hp} {a : Addr} {ws : List Int} (h1 : SqL K H a (ws.map V.int)) (hl : ws.length ≤ 1000) : SpL (sp_turning K C) [.ref a] H (given ws.length (fun i => decide (1 < ws.getD i 0)) fun i => .int (i : Int)) :=
  fun H1 e Q q E => ⟨a, ws, rfl, ex_l e h1, hl, fun p H2 hp e2 h2 => q p H2 hp e2 h2⟩
theorem getD_of {ws : List Int} {i : Nat} {x : V} (h : (ws.map V.int)[i]? = some x) : x = .int (ws.getD i 0) := by
  obtain ⟨w, rfl, hw, _⟩ := map_get h
  rw [List.getD_eq_getElem?_getD, hw]
  rfl
theorem ok_turning {P : Program} {w : World} {K : PySem.W.Frag} {mg : Str → Option Value} {base : Heap} {C : Cs} (T : Txt K mg C) : Cl P w K mg base CX0 1 "turning" ["wheels"] (sp_turning K C) := by
  refine cl0 T.d_turning sc_turning (fun vs H Q E h => ?_) (fun f cdv A outer s H vs Q E hr h => ?_)
  · obtain ⟨a, ws, rfl, hW, hl, k⟩ := h
    rfl
  · obtain ⟨a, ws, rfl, hW, hl, k⟩ := h
    refine ⟨_, (pss_one (ps_ret (pe_lc (own := [("k", 1), ("size", 2)]) rfl sc_turning.nd (pi_enum (by rfl) T.b_enumerate (pa_cons (pv 0) pa_nil)) (blkOk_by (N := ["wheels", "k", "size"]) (sc := defScope S_turning) (own := [("k", 1), ("size", 2)]) (by decide +kernel)) (fun _ _ _ _ _ => (pg_tupK (K := K) (n := 2) rfl rfl (pgs_cons (pg_name (i := 1) sc_turning.nd rfl (.inl rfl)) (pgs_cons (pg_name (i := 2) sc_turning.nd rfl (.inl rfl)) pgs_nil)))) (fun _ _ _ _ _ => (pts_one (pt_cmpR op_gt (pv 2) pe_int (nomark _)))) (fun _ _ _ _ _ => (pv 1))))), ?_⟩
    dsimp only [cxOf, L2H.cxH, Cx.nox, Cx.wish, L2.start, List.map_cons, List.map_nil, List.length_cons, List.length_nil, List.cons_append, List.nil_append]
    have e := el_lcEnum (K := K) (σ := List.map some [V.ref a] ++ List.replicate 2 none) (H := H) (xs := ws.map V.int) (a := a) (ta := tCons (tVar 0) tNil) (t := tTest (tOp (rI0 fun i j => V.bl (decide (j < i))) (tVar 2) (tC (V.int 1)))) (te := tVar 1) (i := 1) (j := 2) (vs := [1, 2]) (fun i => decide (1 < ws.getD i 0)) (fun i => .int (i : Int)) (ea_cons (ev_var rfl) ea_nil) hW (by rw [List.length_map]; omega) (fun _ _ => rfl)
      (fun n x H1 e hx => by rw [getD_of hx]; walk_at "et") (fun n x H1 e hx _ => ev_var rfl)
    rw [List.length_map] at e
    exact s_retL e k
theorem ev_turnN {K : PySem.W.Frag} {C : Cs} {H : Hp} {σ : L2.St} {E : XK} {ta : TA} {a : Addr} {ws : List Int} (ha : EvA ta σ H [.ref a]) (h1 : SqL K H a (ws.map V.int)) (hl : ws.length ≤ 1000) :
    Ev (tCB (fun xs H Q => ∃ p ys, xs = [.ref p] ∧ (SqL K H p ys ∨ SqT K H p ys) ∧ Q (.int ys.length) H) (tCons (tCall (sp_turning K C) [] E ta) tNil)) σ H (.int (turnN ws : Int)) :=
  ev_cbN (el_call ha (spl_turning h1 hl)) fun p H1 hp e => rc_len (sq_of hp) (given_len_eq _ _ _)
def aroundB (ws : List Int) : Bool := decide (1 < (turnN ws : Int)) && decide (cnt ws % 2 = 0)
def oddB (ws : List Int) : Bool := decide (cnt ws % 2 = 1)
def deadB (ws ss : List Int) : Bool := setOk ws (ss.map Kd.int) && decide (((nbs ws ss).length : Int) < 2)
def sp_Around_shows (K : PySem.W.Frag) (_ : Cs) : Sp := fun vs H Q _ => ∃ (x : V) (a : Addr) (ws : List Int), vs = [x, .ref a] ∧ SqL K H a (ws.map V.int) ∧ Sm ws ∧ RetV (.bl (aroundB ws)) H Q
theorem spv_around_shows {K : PySem.W.Frag} {C : Cs} {H : Hp} {x : V} {a : Addr} {ws : List Int} (h1 : SqL K H a (ws.map V.int)) (hm : Sm ws) : SpV (sp_Around_shows K C) [x, .ref a] H (.bl (aroundB ws)) :=
  fun H1 e Q q E => ⟨x, a, ws, rfl, ex_l e h1, hm, q⟩
theorem ok_Around_shows {P : Program} {w : World} {K : PySem.W.Frag} {mg : Str → Option Value} {base : Heap} {C : Cs} (T : Txt K mg C) : MCl P w K mg base CX0 2 C.Around "shows" ["self", "wheels"] (sp_Around_shows K C) := by
  have c_count_of := ok_count_of (P := P) (w := w) (base := base) T
  have c_turning := ok_turning (P := P) (w := w) (base := base) T
  refine cm0 T.m_Around_shows sc_Around_shows (fun vs H Q E h => ?_) (fun f cdv A outer s H vs Q E hr h => ?_)
  · obtain ⟨x, a, ws, rfl, hW, hm, k⟩ := h
    rfl
  · obtain ⟨x, a, ws, rfl, hW, hm, k⟩ := h
    refine ⟨_, (pss_one (ps_ret (pe_and (pe_cmpR op_gt (pe_callB (call_lenK (K := K) rfl) (by rfl) T.b_len PySem.boot_len (pa_cons (pe_cl c_turning (hr.mono (by decide)) (by rfl) pass0 (pa_cons (pv 1) pa_nil)) pa_nil)) pe_int (nomark _)) (pe_one (pe_cmpR op_eq (pe_op op_mod (pe_cl c_count_of (hr.mono (by decide)) (by rfl) pass0 (pa_cons (pv 1) pa_nil)) pe_int) pe_int (nomark _)))))), ?_⟩
    dsimp only [cxOf, L2H.cxH, Cx.nox, Cx.wish, L2.start, List.map_cons, List.map_nil, List.length_cons, List.length_nil, List.cons_append, List.nil_append]
    have hl := hm.len
    refine s_ret (v := .bl (aroundB ws)) (ev_andV (ev_op (ev_turnN (ea_cons (ev_var rfl) ea_nil) hW (by omega)) ev_c rv_I0) fun _ => ev_op (ev_op (ev_call (ea_cons (ev_var rfl) ea_nil) (spv_count_of hW hm)) ev_c (rv_I (by decide))) ev_c rv_eqI) k
def sp_Odd_shows (K : PySem.W.Frag) (_ : Cs) : Sp := fun vs H Q _ => ∃ (x : V) (a : Addr) (ws : List Int), vs = [x, .ref a] ∧ SqL K H a (ws.map V.int) ∧ Sm ws ∧ RetV (.bl (oddB ws)) H Q
theorem spv_odd_shows {K : PySem.W.Frag} {C : Cs} {H : Hp} {x : V} {a : Addr} {ws : List Int} (h1 : SqL K H a (ws.map V.int)) (hm : Sm ws) : SpV (sp_Odd_shows K C) [x, .ref a] H (.bl (oddB ws)) :=
  fun H1 e Q q E => ⟨x, a, ws, rfl, ex_l e h1, hm, q⟩
/-- at x stands a Dead whose setting, the list at p, is ss -/
def DeadAt (C : Cs) (H : Hp) (x p : Addr) (ss : List Int) : Prop := ∃ dx, H x = some (.ins C.Dead dx [("setting", .ref p)]) ∧ H p = some (.lst (ss.map V.int))
theorem DeadAt.mono {C : Cs} {H H' : Hp} {x p : Addr} {ss : List Int} (e : Ex H H') (h : DeadAt C H x p ss) : DeadAt C H' x p ss := by
  obtain ⟨dx, h1, h2⟩ := h
  exact ⟨dx, e _ _ h1, e _ _ h2⟩
theorem look_setting {v : V} : List.lookup ("setting" : Str) [(("setting" : Str), v)] = some v := by simp [List.lookup]
theorem look_shows {v : V} : List.lookup ("shows" : Str) [(("setting" : Str), v)] = none := by
  have h : (("shows" : Str) == ("setting" : Str)) = false := by decide +kernel
  simp [List.lookup, h]
def sp_Dead_shows (K : PySem.W.Frag) (C : Cs) : Sp := fun vs H Q _ => ∃ (x a p : Addr) (ws ss : List Int), vs = [.ref x, .ref a] ∧ DeadAt C H x p ss ∧ SqL K H a (ws.map V.int) ∧ ws.length ≤ 1000 ∧ ss.length ≤ 1000 ∧ RetV (.bl (deadB ws ss)) H Q
theorem spv_dead_shows {K : PySem.W.Frag} {C : Cs} {H : Hp} {x a p : Addr} {ws ss : List Int} (h1 : DeadAt C H x p ss) (h2 : SqL K H a (ws.map V.int)) (hl : ws.length ≤ 1000) (hl2 : ss.length ≤ 1000) : SpV (sp_Dead_shows K C) [.ref x, .ref a] H (.bl (deadB ws ss)) :=
  fun H1 e Q q E => ⟨x, a, p, ws, ss, rfl, h1.mono e, ex_l e h2, hl, hl2, q⟩
theorem sortL_len' (nss : List (List Int)) : (sortL nss).length = nss.length := List.length_mergeSort _
def sp_Dead_init (K : PySem.W.Frag) (C : Cs) : Sp := fun vs H Q _ => ∃ (x dx a : Addr) (ss : List Int), vs = [.ref x, .ref a] ∧ H x = some (.ins C.Dead dx []) ∧ SqL K H a (ss.map V.int) ∧
  ∀ p H2, H p = none → But x H H2 → DeadAt C H2 x p ss → Q .non H2
theorem ok_Dead_init {P : Program} {w : World} {K : PySem.W.Frag} {mg : Str → Option Value} {base : Heap} {C : Cs} (T : Txt K mg C) : MCl P w K mg base CX0 1 C.Dead "__init__" ["self", "setting"] (sp_Dead_init K C) := by
  refine cm0 T.m_Dead_init sc_Dead_init (fun vs H Q E h => ?_) (fun f cdv A outer s H vs Q E hr h => ?_)
  · obtain ⟨x, dx, a, ss, rfl, hx, hS, k⟩ := h
    rfl
  · obtain ⟨x, dx, a, ss, rfl, hx, hS, k⟩ := h
    refine ⟨_, (pss_one (ps_fld (pv 0) (pe_callTy (call_listK (K := K) rfl) (by rfl) T.b_list (by decide +kernel) (pa_cons (pv 1) pa_nil)) rfl)), ?_⟩
    dsimp only [cxOf, L2H.cxH, Cx.nox, Cx.wish, L2.start, List.map_cons, List.map_nil, List.length_cons, List.length_nil, List.cons_append, List.nil_append]
    refine el_copy (ev_var rfl) hS H (Ex.refl H) _ fun p H1 hp e1 h1 => ?_
    have npx : p ≠ x := fun z => by
      rw [z, hx] at hp
      cases hp
    refine ⟨.ref x, rfl, x, C.Dead, dx, [], rfl, e1 _ _ hx, T.c_Dead.cl, T.n_setting, (by show 0 < 1000; decide), ?_⟩
    exact k p _ hp (But.upd e1) ⟨dx, upd_same, by rw [upd_ne npx]; exact h1⟩
/-- a new Dead -/
theorem mk_dead {K : PySem.W.Frag} {C : Cs} {H : Hp} {σ : L2.St} {E : XK} {te : TE} {a : Addr} {ss : List Int} {Q : VK} (ha : Ev te σ H (.ref a)) (hS : SqL K H a (ss.map V.int)) {H1 : Hp} (e : Ex H H1)
    (k : ∀ x p H2, H1 x = none → H1 p = none → x ≠ p → Ex H1 H2 → DeadAt C H2 x p ss → Q (.ref x) H2) : tMake C.Dead (sp_Dead_init K C) [] E (tCons te tNil) σ H1 Q :=
  ha H1 e _ fun H2 e2 x dx nx nd ne => by
    have e3 : Ex H2 (upd (upd H2 dx (.own x)) x (.ins C.Dead dx [])) := fun b o hb => by
      rw [upd_ne (ne_of_none hb nx), upd_ne (ne_of_none hb nd)]
      exact hb
    refine ⟨x, dx, a, ss, rfl, upd_same, ex_l ((e.trans e2).trans e3) hS, fun p H3 hp b3 hd => ⟨rfl, ?_⟩⟩
    have hp2 : H2 p = none := fresh_back e3 hp
    have nxp : x ≠ p := fun z => by
      rw [← z, upd_same] at hp
      cases hp
    exact k x p H3 (fresh_back e2 nx) (fresh_back e2 hp2) nxp (e2.trans (b3.ex e3 nx)) hd
/-- Dead(..).shows(..) of a new one -/
theorem ev_methD {K : PySem.W.Frag} {C : Cs} {H : Hp} {σ : L2.St} {E E' : XK} {te : TE} {ta' : TA} {a b : Addr} {ws ss : List Int} (ha : Ev te σ H (.ref a)) (hS : SqL K H a (ss.map V.int)) (hb : EvA ta' σ H [.ref b]) (hW : SqL K H b (ws.map V.int)) (hl : ws.length ≤ 1000) (hl2 : ss.length ≤ 1000) :
    Ev (tMeth C.Dead "shows" (sp_Dead_shows K C) [] E (tMake C.Dead (sp_Dead_init K C) [] E' (tCons te tNil)) ta') σ H (.bl (deadB ws ss)) := fun H1 e Q q =>
  mk_dead ha hS e fun x p H2 hx hp nxp e2 hd => by
    obtain ⟨dx, h1, h2⟩ := hd
    exact ⟨x, dx, _, rfl, h1, look_shows, hb H2 (e.trans e2) _ fun H3 e3 => spv_dead_shows ⟨dx, e3 _ _ h1, e3 _ _ h2⟩ (ex_l ((e.trans e2).trans e3) hW) hl hl2 H3 (Ex.refl _) Q (fun H4 e4 => q H4 ((e2.trans e3).trans e4)) E⟩
/-- Dead([..]).shows([..]), both new lists -/
theorem ev_methDL {K : PySem.W.Frag} {C : Cs} {H : Hp} {σ : L2.St} {E E' : XK} {te tb : TE} {ws ss : List Int} (ha : EvL te σ H (ss.map V.int)) (hb : EvL tb σ H (ws.map V.int)) (hl : ws.length ≤ 1000) (hl2 : ss.length ≤ 1000) :
    Ev (tMeth C.Dead "shows" (sp_Dead_shows K C) [] E (tMake C.Dead (sp_Dead_init K C) [] E' (tCons te tNil)) (tCons tb tNil)) σ H (.bl (deadB ws ss)) := fun H1 e Q q =>
  ha H1 e _ fun a H2 hn e2 h2 x dx nx nd ne => by
    have e3 : Ex H2 (upd (upd H2 dx (.own x)) x (.ins C.Dead dx [])) := fun b o hb => by
      rw [upd_ne (ne_of_none hb nx), upd_ne (ne_of_none hb nd)]
      exact hb
    refine ⟨x, dx, a, ss, rfl, upd_same, sq_of (e3 _ _ h2), fun p H3 hp b3 hd => ⟨rfl, ?_⟩⟩
    obtain ⟨dx, h3, h4⟩ := hd
    have e23 := b3.ex e3 nx
    exact ⟨x, dx, _, rfl, h3, look_shows, hb H3 ((e.trans e2).trans e23) _ fun b H4 hnb e4 hb4 => spv_dead_shows ⟨dx, e4 _ _ h3, e4 _ _ h4⟩ (sq_of hb4) hl hl2 H4 (Ex.refl _) Q (fun H5 e5 => q H5 (((e2.trans e23).trans e4).trans e5)) E⟩
theorem q_mkDead {K : PySem.W.Frag} {C : Cs} {H : Hp} {σ : L2.St} {E : XK} {te : TE} {tz : TS} {D : Ends} {i : Nat} {a : Addr} {ss : List Int} (ha : Ev te σ H (.ref a)) (hS : SqL K H a (ss.map V.int))
    (k : ∀ x p H2, H x = none → H p = none → x ≠ p → Ex H H2 → DeadAt C H2 x p ss → tz D (σ.set i (some (.ref x))) H2) : tSeq (tAsg (tMake C.Dead (sp_Dead_init K C) [] E (tCons te tNil)) (gName i)) tz D σ H := by
  show tMake C.Dead (sp_Dead_init K C) [] E (tCons te tNil) σ H (fun v H1 => gName i v σ H1 fun σ' H2 => tz D σ' H2)
  exact mk_dead (C := C) (Q := fun v H1 => gName i v σ H1 fun σ' H2 => tz D σ' H2) ha hS (Ex.refl H) k
/-! ### around, check_ring, ring_setting, ring_number -/
inductive AnsK where
  | odd
  | around
  | dead (ss : List Int)
/-- an answer at x; what is new since H -/
def AnsAt (C : Cs) (H H1 : Hp) (x : Addr) : AnsK → Prop
  | .odd => ∃ dx, H1 x = some (.ins C.Odd dx [])
  | .around => ∃ dx, H1 x = some (.ins C.Around dx [])
  | .dead ss => ∃ p, H p = none ∧ x ≠ p ∧ DeadAt C H1 x p ss
theorem AnsAt.mono {C : Cs} {H H1 H2 : Hp} {x : Addr} {k : AnsK} (h : AnsAt C H H1 x k) (e : Ex H1 H2) : AnsAt C H H2 x k := by
  cases k with
  | odd => exact ⟨h.choose, e _ _ h.choose_spec⟩
  | around => exact ⟨h.choose, e _ _ h.choose_spec⟩
  | dead ss =>
    obtain ⟨p, a, b, c⟩ := h
    exact ⟨p, a, b, c.mono e⟩
theorem AnsAt.back {C : Cs} {H0 H H1 : Hp} {x : Addr} {k : AnsK} (h : AnsAt C H H1 x k) (e : Ex H0 H) : AnsAt C H0 H1 x k := by
  cases k with
  | odd => exact h
  | around => exact h
  | dead ss =>
    obtain ⟨p, a, b, c⟩ := h
    exact ⟨p, fresh_back e a, b, c⟩
def ansOf (ws : List Int) : AnsK := if turnN ws < 2 then .dead (List.replicate ws.length 0) else if cnt ws % 2 = 1 then .odd else .around
def RetA (C : Cs) (k : AnsK) (H : Hp) (Q : VK) : Prop := ∀ x H1, H x = none → Ex H H1 → AnsAt C H H1 x k → Q (.ref x) H1
theorem RetA.mono {C : Cs} {k : AnsK} {H H' : Hp} {Q : VK} (h : RetA C k H Q) (e : Ex H H') : RetA C k H' Q := fun x H1 hx e1 ha => h x H1 (fresh_back e hx) (e.trans e1) (ha.back e)
theorem mk_deadL {K : PySem.W.Frag} {C : Cs} {H : Hp} {σ : L2.St} {E : XK} {te : TE} {ss : List Int} {Q : VK} (ha : EvL te σ H (ss.map V.int)) {H1 : Hp} (e : Ex H H1)
    (k : ∀ x p H2, H1 x = none → H1 p = none → x ≠ p → Ex H1 H2 → DeadAt C H2 x p ss → Q (.ref x) H2) : tMake C.Dead (sp_Dead_init K C) [] E (tCons te tNil) σ H1 Q :=
  ha H1 e _ fun a H2 hn e2 h2 x dx nx nd ne => by
    have e3 : Ex H2 (upd (upd H2 dx (.own x)) x (.ins C.Dead dx [])) := fun b o hb => by
      rw [upd_ne (ne_of_none hb nx), upd_ne (ne_of_none hb nd)]
      exact hb
    refine ⟨x, dx, a, ss, rfl, upd_same, sq_of (e3 _ _ h2), fun p H3 hp b3 hd => ⟨rfl, ?_⟩⟩
    have hp2 : H2 p = none := fresh_back e3 hp
    have nxp : x ≠ p := fun z => by
      rw [← z, upd_same] at hp
      cases hp
    exact k x p H3 (fresh_back e2 nx) (fresh_back e2 hp2) nxp (e2.trans (b3.ex e3 nx)) hd
theorem mk_new {c : Addr} {σ : L2.St} {H1 : Hp} {Q : VK} (k : ∀ x dx H2, H1 x = none → Ex H1 H2 → H2 x = some (.ins c dx []) → Q (.ref x) H2) : tMakeO c σ H1 Q := fun x dx nx nd ne =>
  k x dx _ nx (fun b o hb => by
    rw [upd_ne (ne_of_none hb nx), upd_ne (ne_of_none hb nd)]
    exact hb) upd_same
theorem Door.imp {K : PySem.W.Frag} {C : Cs} {H : Hp} {v : V} {E : XK} {good good' : Addr → List Int → Prop} (h : Door K C H v E good) (k : ∀ a ws, v = .ref a → SqL K H a (ws.map V.int) → Pos ws → ws.length ≤ 40000 → good a ws → good' a ws) : Door K C H v E good' := by
  rcases h with h | h | ⟨a, ws, ev, h1, h2, h3, h4⟩
  · exact .inl h
  · exact .inr (.inl h)
  · exact .inr (.inr ⟨a, ws, ev, h1, h2, h3, k a ws ev h1 h2 h3 h4⟩)
theorem Door.good {K : PySem.W.Frag} {C : Cs} {H : Hp} {a : Addr} {ws : List Int} {E : XK} {good : Addr → List Int → Prop} (h1 : SqL K H a (ws.map V.int)) (h2 : Pos ws) (h3 : ws.length ≤ 40000) (h4 : good a ws) : Door K C H (.ref a) E good := .inr (.inr ⟨a, ws, rfl, h1, h2, h3, h4⟩)
def sp_around (K : PySem.W.Frag) (C : Cs) : Sp := fun vs H Q E => ∃ (v : V), vs = [v] ∧ Door K C H v E fun _ ws => Sm ws ∧ RetA C (ansOf ws) H Q
theorem ok_around {P : Program} {w : World} {K : PySem.W.Frag} {mg : Str → Option Value} {base : Heap} {C : Cs} (T : Txt K mg C) : Cl P w K mg base (L2N.CX P w) 3 "around" ["wheels"] (sp_around K C) := by
  have c_check_wheels := ok_check_wheels (P := P) (w := w) (base := base) T
  have c_turning := ok_turning (P := P) (w := w) (base := base) T
  have c_Dead_init := ok_Dead_init (P := P) (w := w) (base := base) T
  have c_count_of := ok_count_of (P := P) (w := w) (base := base) T
  refine clX T.d_around sc_around (fun vs H Q E h => ?_) (fun f cdv A outer s H vs Q E hr h => ?_)
  · obtain ⟨v, rfl, hd⟩ := h
    rfl
  · obtain ⟨v, rfl, hd⟩ := h
    refine ⟨_, (pss_cons (ps_expr (pe_cl c_check_wheels (hr.mono (by decide)) (by rfl) (pass1 (L2N.takes_of rfl rfl rfl rfl)) (pa_cons (pv 0) pa_nil)))
    (pss_cons (ps_if (pt_cmpR op_lt (pe_callB (call_lenK (K := K) rfl) (by rfl) T.b_len PySem.boot_len (pa_cons (pe_cl c_turning (hr.mono (by decide)) (by rfl) pass0 (pa_cons (pv 0) pa_nil)) pa_nil)) pe_int (nomark _)) (pss_one (ps_ret (pe_mki T.c_Dead c_Dead_init (hr.mono (by decide)) (by rfl) pass0 (pa_cons (pe_lc (own := [("size", 1)]) (g := gName 1) (tt := tYes) rfl sc_around.nd (pi_listK (K := K) rfl (pv 0)) (blkOk_by (N := ["wheels", "size"]) (sc := defScope S_around) (own := [("size", 1)]) (by decide +kernel)) (fun _ _ _ _ _ => (pg_name (i := 1) sc_around.nd rfl (.inl rfl))) (fun _ _ _ _ _ => pts_nil) (fun _ _ _ _ _ => pe_int)) pa_nil)))) pss_nil)
    (pss_cons (ps_if (pt_cmpR op_eq (pe_op op_mod (pe_cl c_count_of (hr.mono (by decide)) (by rfl) pass0 (pa_cons (pv 0) pa_nil)) pe_int) pe_int (nomark _)) (pss_one (ps_ret (pe_mko T.c_Odd T.i_Odd (by rfl)))) pss_nil)
    (pss_one (ps_ret (pe_mko T.c_Around T.i_Around (by rfl))))))), ?_⟩
    dsimp only [cxOf, L2H.cxH, Cx.nox, Cx.wish, L2.start, List.map_cons, List.map_nil, List.length_cons, List.length_nil, List.cons_append, List.nil_append]
    refine q_call (vs := [v]) (by walk_at "ea") fun H1 e1 => (hd.mono e1).check fun a ws ev hW hp hl ⟨hm, k⟩ H2 e2 => ?_
    subst ev
    have hW2 := ex_l e2 hW
    have hml := hm.len
    refine q_when (b := decide ((turnN ws : Int) < 2)) (et_test (ev_op (ev_turnN (ea_cons (ev_var rfl) ea_nil) hW2 (by omega)) ev_c rv_I0)) (fun hb H3 e3 => ?_) fun hb H3 e3 => ?_
    · have hW3 := ex_l e3 hW2
      have ht : turnN ws < 2 := by have := of_decide_eq_true hb; omega
      refine mk_deadL (ss := List.replicate ws.length 0) (el_list (by rw [List.length_map, List.length_map, List.length_replicate]) (ev_var rfl) hW3 (by rw [List.length_map]; omega) (fun _ => rfl) fun i x y H4 e4 hx hy => ?_) (Ex.refl H3) fun x p H4 hx hp4 nxp e4 h4 => ?_
      · rw [← map_rep, List.getElem?_replicate] at hy
        split at hy
        · cases hy; exact ev_c
        · cases hy
      · refine k x H4 (fresh_back ((e1.trans e2).trans e3) hx) (((e1.trans e2).trans e3).trans e4) ?_
        unfold ansOf
        rw [if_pos ht]
        exact ⟨p, fresh_back ((e1.trans e2).trans e3) hp4, nxp, h4⟩
    · have hW3 := ex_l e3 hW2
      have ht : ¬ turnN ws < 2 := by have := of_decide_eq_false hb; omega
      refine q_when (b := decide (cnt ws % 2 = 1)) (et_test (ev_op (ev_op (ev_call (ea_cons (ev_var rfl) ea_nil) (spv_count_of hW3 hm)) ev_c (rv_I (by decide))) ev_c rv_eqI)) (fun hc H4 e4 => ?_) fun hc H4 e4 => ?_
      · refine mk_new fun x dx H5 hx e5 h5 => ?_
        have e05 := ((e1.trans e2).trans e3).trans e4
        refine k x H5 (fresh_back e05 hx) (e05.trans e5) ?_
        unfold ansOf
        rw [if_neg ht, if_pos (of_decide_eq_true hc)]
        exact ⟨dx, h5⟩
      · refine mk_new fun x dx H5 hx e5 h5 => ?_
        have e05 := ((e1.trans e2).trans e3).trans e4
        refine k x H5 (fresh_back e05 hx) (e05.trans e5) ?_
        unfold ansOf
        rw [if_neg ht, if_neg (of_decide_eq_false hc)]
        exact ⟨dx, h5⟩
def sp_check_ring (K : PySem.W.Frag) (C : Cs) : Sp := fun vs H Q E => ∃ (v : V), vs = [v] ∧ Door K C H v E fun _ ws => Sm ws ∧ (aroundB ws = true → RetV .non H Q) ∧ (aroundB ws = false → RetX C.NoRing H E)
theorem ok_check_ring {P : Program} {w : World} {K : PySem.W.Frag} {mg : Str → Option Value} {base : Heap} {C : Cs} (T : Txt K mg C) : Cl P w K mg base (L2N.CX P w) 3 "check_ring" ["wheels"] (sp_check_ring K C) := by
  have c_check_wheels := ok_check_wheels (P := P) (w := w) (base := base) T
  have c_Around_shows := ok_Around_shows (P := P) (w := w) (base := base) T
  refine clX T.d_check_ring sc_check_ring (fun vs H Q E h => ?_) (fun f cdv A outer s H vs Q E hr h => ?_)
  · obtain ⟨v, rfl, hd⟩ := h
    rfl
  · obtain ⟨v, rfl, hd⟩ := h
    refine ⟨_, (pss_cons (ps_expr (pe_cl c_check_wheels (hr.mono (by decide)) (by rfl) (pass1 (L2N.takes_of rfl rfl rfl rfl)) (pa_cons (pv 0) pa_nil)))
    (pss_one (ps_if (pt_not (pt_val (pe_mcl c_Around_shows T.c_Around.cl (hr.mono (by decide)) pass0 (pe_mko T.c_Around T.i_Around (by rfl)) (pa_cons (pv 0) pa_nil)) (by intro _; rfl))) (pss_one (L2N.ps_raise rfl (L2N.takes_of rfl rfl rfl rfl) (L2N.pmk_own PySem.F.excBase_ValueError T.e_NoRing.x T.e_NoRing.g T.e_NoRing.k (raises_own T.e_NoRing.b T.e_NoRing.t) rfl))) pss_nil))), ?_⟩
    dsimp only [cxOf, L2H.cxH, Cx.nox, Cx.wish, L2.start, List.map_cons, List.map_nil, List.length_cons, List.length_nil, List.cons_append, List.nil_append]
    refine q_call (vs := [v]) (by walk_at "ea") fun H1 e1 => (hd.mono e1).check fun a ws ev hW hp hl ⟨hm, k1, k2⟩ H2 e2 => ?_
    subst ev
    have hW2 := ex_l e2 hW
    refine s_if (b := !aroundB ws) (et_not (et_B (ev_methO (ea_cons (ev_var rfl) ea_nil) fun p dx H3 e3 h3 => spv_around_shows (ex_l e3 hW2) hm))) (fun q H3 e3 => k2 (by cases h : aroundB ws with | true => rw [h] at q; cases q | false => rfl) H3 ((e1.trans e2).trans e3))
      (fun q H3 e3 => k1 (by cases h : aroundB ws with | true => rfl | false => rw [h] at q; cases q) H3 ((e1.trans e2).trans e3))
theorem ring_of {ws : List Int} (hp : Pos ws) (h : aroundB ws = true) : Ring ws := by
  have h' : (decide (1 < (turnN ws : Int)) && decide (cnt ws % 2 = 0)) = true := h
  rw [Bool.and_eq_true, decide_eq_true_iff, decide_eq_true_iff] at h'
  exact ⟨hp, by omega, h'.2⟩
def sp_even_wheel (K : PySem.W.Frag) (_ : Cs) : Sp := fun vs H Q _ => ∃ (a : Addr) (ws : List Int), vs = [.ref a] ∧ SqL K H a (ws.map V.int) ∧ ws.length ≤ 1000 ∧ cnt ws % 2 = 0 ∧ RetV (.int (evenAt ws : Int)) H Q
theorem spv_even {K : PySem.W.Frag} {C : Cs} {H : Hp} {a : Addr} {ws : List Int} (h1 : SqL K H a (ws.map V.int)) (hl : ws.length ≤ 1000) (h : cnt ws % 2 = 0) : SpV (sp_even_wheel K C) [.ref a] H (.int (evenAt ws : Int)) :=
  fun H1 e Q q E => ⟨a, ws, rfl, ex_l e h1, hl, h, q⟩
theorem ok_even_wheel {P : Program} {w : World} {K : PySem.W.Frag} {mg : Str → Option Value} {base : Heap} {C : Cs} (T : Txt K mg C) : Cl P w K mg base CX0 1 "even_wheel" ["wheels"] (sp_even_wheel K C) := by
  refine cl0 T.d_even_wheel sc_even_wheel (fun vs H Q E h => ?_) (fun f cdv A outer s H vs Q E hr h => ?_)
  · obtain ⟨a, ws, rfl, hW, hl, hc, k⟩ := h
    rfl
  · obtain ⟨a, ws, rfl, hW, hl, hc, k⟩ := h
    refine ⟨_, (pss_one (ps_ret (pe_ix (ix_listK (K := K) rfl) (pe_lc (own := [("k", 1), ("size", 2)]) rfl sc_even_wheel.nd (pi_enum (by rfl) T.b_enumerate (pa_cons (pv 0) pa_nil)) (blkOk_by (N := ["wheels", "k", "size"]) (sc := defScope S_even_wheel) (own := [("k", 1), ("size", 2)]) (by decide +kernel)) (fun _ _ _ _ _ => (pg_tupK (K := K) (n := 2) rfl rfl (pgs_cons (pg_name (i := 1) sc_even_wheel.nd rfl (.inl rfl)) (pgs_cons (pg_name (i := 2) sc_even_wheel.nd rfl (.inl rfl)) pgs_nil)))) (fun _ _ _ _ _ => (pts_one (pt_cmpR op_eq (pe_op op_mod (pv 2) pe_int) pe_int (nomark _)))) (fun _ _ _ _ _ => (pv 1))) pe_int (fun _ _ => rfl)))), ?_⟩
    dsimp only [cxOf, L2H.cxH, Cx.nox, Cx.wish, L2.start, List.map_cons, List.map_nil, List.length_cons, List.length_nil, List.cons_append, List.nil_append]
    have e := el_lcEnum (K := K) (σ := List.map some [V.ref a] ++ List.replicate 2 none) (H := H) (xs := ws.map V.int) (a := a) (ta := tCons (tVar 0) tNil) (t := tTest (tOp rEq (tOp (rI (fun _ j => 0 < j) fun i j => V.int (i % j)) (tVar 2) (tC (V.int 2))) (tC (V.int 0)))) (te := tVar 1) (i := 1) (j := 2) (vs := [1, 2]) (fun i => decide (ws.getD i 0 % 2 = 0)) (fun i => .int (i : Int)) (ea_cons (ev_var rfl) ea_nil) hW (by rw [List.length_map]; omega) (fun _ _ => rfl)
      (fun n x H1 e hx => by rw [getD_of hx]; walk_at "et") (fun n x H1 e hx _ => ev_var rfl)
    rw [List.length_map] at e
    obtain ⟨r, hr, _, _⟩ := even_at hc
    refine s_ret (ev_opLS e ev_c fun q H1 hq e1 => rv_ixL (sq_of hq) ?_) k
    unfold given
    rw [hr]
    show atI _ ((0 : Nat) : Int) = _
    exact atI_nat rfl
def sp_without (K : PySem.W.Frag) (_ : Cs) : Sp := fun vs H Q _ => ∃ (a : Addr) (s : List Int) (k : Nat), vs = [.ref a, .int (k : Int)] ∧ SqL K H a (s.map V.int) ∧ s.length ≤ 1000 ∧ RetL ((wo s k).map V.int) H Q
theorem spl_without {K : PySem.W.Frag} {C : Cs} {H : Hp} {a : Addr} {s : List Int} {k : Nat} (h1 : SqL K H a (s.map V.int)) (hl : s.length ≤ 1000) : SpL (sp_without K C) [.ref a, .int (k : Int)] H ((wo s k).map V.int) :=
  fun H1 e Q q E => ⟨a, s, k, rfl, ex_l e h1, hl, fun p H2 hp e2 h2 => q p H2 hp e2 h2⟩
theorem cut_wo (s : List Int) (k : Nat) : cutV (s.map V.int) none (some (k : Int)) ++ cutV (s.map V.int) (some ((k : Int) + 1)) none = (wo s k).map V.int := by
  rw [cut_to, show ((k : Int) + 1) = ((k + 1 : Nat) : Int) from rfl, cut_from, wo, List.map_append, List.map_take, List.map_drop]
theorem ok_without {P : Program} {w : World} {K : PySem.W.Frag} {mg : Str → Option Value} {base : Heap} {C : Cs} (T : Txt K mg C) : Cl P w K mg base CX0 1 "without" ["things", "place"] (sp_without K C) := by
  refine cl0 T.d_without sc_without (fun vs H Q E h => ?_) (fun f cdv A outer s H vs Q E hr h => ?_)
  · obtain ⟨a, s', n, rfl, hS, hl, k⟩ := h
    rfl
  · obtain ⟨a, s', n, rfl, hS, hl, k⟩ := h
    refine ⟨_, (pss_one (ps_ret (pe_op (op_catK (K := K) rfl) (pe_slice (sl_listK (K := K) rfl) (pv 0) po_none (po_some (pv 1))) (pe_slice (sl_listK (K := K) rfl) (pv 0) (po_some (pe_op op_add (pv 1) pe_int)) po_none)))), ?_⟩
    dsimp only [cxOf, L2H.cxH, Cx.nox, Cx.wish, L2.start, List.map_cons, List.map_nil, List.length_cons, List.length_nil, List.cons_append, List.nil_append]
    have l1 := cutV_length (s'.map V.int) none (some (n : Int))
    have l2 := cutV_length (s'.map V.int) (some ((n : Int) + 1)) none
    rw [List.length_map] at l1 l2
    refine s_retL (xs := (wo s' n).map V.int) ?_ k
    rw [← cut_wo]
    exact el_catLL (el_sl (ev_var rfl) eo_none (eo_some (ev_var rfl)) hS) (el_sl (ev_var rfl) (eo_some (ev_op (ev_var rfl) ev_c rv_I0)) eo_none hS) (by omega)
theorem cut_ins (s : List Int) (k : Nat) (h : Int) : cutV (s.map V.int) none (some (k : Int)) ++ [V.int h] ++ cutV (s.map V.int) (some (k : Int)) none = (ins s k h).map V.int := by
  rw [cut_to, cut_from, ins, List.map_append, List.map_append, List.map_take, List.map_drop]
  rfl
theorem divp_near {i j w : Int} (h0 : 0 < j) (i0 : 0 ≤ i) (h1 : i < w * j) (hw : w < 2 ^ 250) : CDivP i j := by
  refine ⟨h0, ?_⟩
  have hw0 : 0 < w := by
    by_cases c : 0 < w
    · exact c
    · have := Int.mul_le_mul_of_nonneg_right (show w ≤ 0 by omega) (show 0 ≤ j by omega)
      omega
  have ew : w = ((w.natAbs : Nat) : Int) := by omega
  have ej : j = ((j.natAbs : Nat) : Int) := by omega
  have ei : i = ((i.natAbs : Nat) : Int) := by omega
  have n1 : i.natAbs < w.natAbs * j.natAbs := by
    rw [ew, ej, ei] at h1
    exact_mod_cast h1
  have n2 : w.natAbs < 2 ^ 250 := by
    rw [ew] at hw
    exact_mod_cast hw
  have n3 : j.natAbs < 2 ^ (j.natAbs.log2 + 1) := Nat.lt_log2_self
  have n4 : i.natAbs < 2 ^ (250 + (j.natAbs.log2 + 1)) := by
    rw [Nat.pow_add]
    exact Nat.lt_of_lt_of_le n1 (Nat.mul_le_mul (Nat.le_of_lt n2) (Nat.le_of_lt n3))
  show (decide ((if j == 0 then 0 else j.natAbs.log2 / 30 + 1) > 300) && decide ((if i == 0 then 0 else i.natAbs.log2 / 30 + 1) > (if j == 0 then 0 else j.natAbs.log2 / 30 + 1) + 150)) = false
  rw [if_neg (show ¬ (j == 0) = true by simpa using (show j ≠ 0 by omega))]
  have n5 : ¬ (if i == 0 then 0 else i.natAbs.log2 / 30 + 1) > j.natAbs.log2 / 30 + 1 + 150 := by
    split
    · omega
    · next hi =>
      have hi0 : i.natAbs ≠ 0 := fun z => hi (by rw [ei, z]; rfl)
      have := (Nat.log2_lt hi0).mpr n4
      omega
  rw [decide_eq_false n5, Bool.and_false]
theorem q_ifK {α : Type} {b : Bool} {t : TT} {tu tz : TS} {D : Ends} {σ : L2.St} {H : Hp} (σ' : α → L2.St) (h : EvT t σ H b) (h1 : b = true → (∀ x H1, Ex H H1 → tz D (σ' x) H1) → ∀ H1, Ex H H1 → tu { D with nx := tz D } σ H1) (h2 : b = false → (∀ x H1, Ex H H1 → tz D (σ' x) H1) → ∀ H1, Ex H H1 → tz D σ H1)
    (k : ∀ x H1, Ex H H1 → tz D (σ' x) H1) : tSeq (tIfS t tu tNext) tz D σ H := q_when h (fun q => h1 q k) (fun q => h2 q k)
theorem Sm.wo {ws : List Int} (h : Sm ws) (k : Nat) : Sm (wo ws k) := ⟨by
  have := h.len
  rw [WW.wo, List.length_append, List.length_take, List.length_drop]
  omega, fun w hw => (List.mem_append.mp hw).elim (fun z => h.pos w (List.mem_of_mem_take z)) (fun z => h.pos w (List.mem_of_mem_drop z)), fun w hw => (List.mem_append.mp hw).elim (fun z => h.lt w (List.mem_of_mem_take z)) (fun z => h.lt w (List.mem_of_mem_drop z))⟩
def sp_ring_setting (K : PySem.W.Frag) (C : Cs) : Sp := fun vs H Q E => ∃ (v n : V), vs = [v, n] ∧ Door K C H v E fun _ ws => Sm ws ∧ (aroundB ws = false → RetX C.NoRing H E) ∧ (aroundB ws = true → ∃ kd, Thg K H n kd ∧ (numOk (cnt ws) kd = false → RetX C.BadNumber H E) ∧
  ∀ i, kd = .int i → 0 ≤ i → i < cnt ws → RetL ((ringS ws i).map V.int) H Q)
theorem spl_ring_setting {K : PySem.W.Frag} {C : Cs} {H : Hp} {a : Addr} {ws : List Int} {n : Int} (h1 : SqL K H a (ws.map V.int)) (h2 : Pos ws) (h : Sm ws) (hr : aroundB ws = true) (n0 : 0 ≤ n) (n1 : n < cnt ws) : SpL (sp_ring_setting K C) [.ref a, .int n] H ((ringS ws n).map V.int) :=
  fun H1 e Q q E => ⟨_, _, rfl, .inr (.inr ⟨a, ws, rfl, ex_l e h1, h2, Nat.le_trans h.len (by decide), h, fun z => (by rw [hr] at z; cases z), fun _ => ⟨.int n, .int n, fun z => (by rw [numOk_iff.mpr ⟨n, rfl, n0, n1⟩] at z; cases z), fun i ei _ _ => by cases ei; exact fun p H2 hp e2 h2 => q p H2 hp e2 h2⟩⟩)⟩
theorem ok_ring_setting {P : Program} {w : World} {K : PySem.W.Frag} {mg : Str → Option Value} {base : Heap} {C : Cs} (T : Txt K mg C) : Cl P w K mg base (L2N.CX P w) 4 "ring_setting" ["wheels", "number"] (sp_ring_setting K C) := by
  have c_check_ring := ok_check_ring (P := P) (w := w) (base := base) T
  have c_check_number := ok_check_number (P := P) (w := w) (base := base) T
  have c_even_wheel := ok_even_wheel (P := P) (w := w) (base := base) T
  have c_without := ok_without (P := P) (w := w) (base := base) T
  have c_count_of := ok_count_of (P := P) (w := w) (base := base) T
  have c_setting_at := ok_setting_at (P := P) (w := w) (base := base) T
  refine clX T.d_ring_setting sc_ring_setting (fun vs H Q E h => ?_) (fun f cdv A outer s H vs Q E hr h => ?_)
  · obtain ⟨v, n, rfl, hd⟩ := h
    rfl
  · obtain ⟨v, n, rfl, hd⟩ := h
    refine ⟨_, (pss_cons (ps_expr (pe_cl c_check_ring (hr.mono (by decide)) (by rfl) (pass1 (L2N.takes_of rfl rfl rfl rfl)) (pa_cons (pv 0) pa_nil)))
    (pss_cons (ps_expr (pe_cl c_check_number (hr.mono (by decide)) (by rfl) (pass1 (L2N.takes_of rfl rfl rfl rfl)) (pa_cons (pv 0) (pa_cons (pv 1) pa_nil))))
    (pss_cons (ps_set (i := 2) sc_ring_setting.nd rfl (.inl rfl) (pe_cl c_even_wheel (hr.mono (by decide)) (by rfl) pass0 (pa_cons (pv 0) pa_nil)))
    (pss_cons (ps_set (i := 3) sc_ring_setting.nd rfl (.inl rfl) (pe_cl c_without (hr.mono (by decide)) (by rfl) pass0 (pa_cons (pv 0) (pa_cons (pv 2) pa_nil))))
    (pss_cons (ps_set (i := 4) sc_ring_setting.nd rfl (.inl rfl) (pe_ix (ix_listK (K := K) rfl) (pv 0) (pv 2) (fun _ _ => rfl)))
    (pss_cons (ps_par rfl sc_ring_setting.nd (i := 5) (j := 6) rfl rfl (by decide) rfl rfl (pa_cons (pv 1) (pa_cons pe_int pa_nil)) (by rfl))
    (pss_cons (ps_if (pt_cmpR op_ge (pv 1) (pv 4) (nomark _)) (pss_cons (ps_asg (pe_callB call_divmodW (by rfl) T.b_divmod (by decide +kernel) (pa_cons (pe_op op_sub (pv 1) (pv 4)) (pa_cons (pe_op op_sub (pe_cl c_count_of (hr.mono (by decide)) (by rfl) pass0 (pa_cons (pv 3) pa_nil)) pe_int) pa_nil))) (pg_tupK (K := K) (n := 2) rfl rfl (pgs_cons (pg_name (i := 7) sc_ring_setting.nd rfl (.inl rfl)) (pgs_cons (pg_name (i := 8) sc_ring_setting.nd rfl (.inl rfl)) pgs_nil))))
    (pss_cons (ps_set (i := 5) sc_ring_setting.nd rfl (.inl rfl) (pe_op op_sub (pe_op op_sub (pv 4) pe_int) (pv 7)))
    (pss_one (ps_set (i := 6) sc_ring_setting.nd rfl (.inl rfl) (pe_ifExp (pt_cmpR op_eq (pe_op op_mod (pv 7) pe_int) pe_int (nomark _)) (pe_op op_add (pv 8) pe_int) (pe_op op_sub (pe_op op_sub (pe_cl c_count_of (hr.mono (by decide)) (by rfl) pass0 (pa_cons (pv 3) pa_nil)) pe_int) (pv 8))))))) pss_nil)
    (pss_cons (ps_set (i := 9) sc_ring_setting.nd rfl (.inl rfl) (pe_cl c_setting_at (hr.mono (by decide)) (by rfl) pass0 (pa_cons (pv 3) (pa_cons (pv 6) pa_nil))))
    (pss_one (ps_ret (pe_op (op_catK (K := K) rfl) (pe_op (op_catK (K := K) rfl) (pe_slice (sl_listK (K := K) rfl) (pv 9) po_none (po_some (pv 2))) (pe_lst (pa_cons (pv 5) pa_nil))) (pe_slice (sl_listK (K := K) rfl) (pv 9) (po_some (pv 2)) po_none)))))))))))), ?_⟩
    dsimp only [cxOf, L2H.cxH, Cx.nox, Cx.wish, L2.start, List.map_cons, List.map_nil, List.length_cons, List.length_nil, List.cons_append, List.nil_append]
    refine q_call (vs := [v]) (by walk_at "ea") fun H1 e1 => ⟨v, rfl, (hd.mono e1).imp fun a ws ev hW hp hl ⟨hm, kx, kk⟩ => ⟨hm, fun hb H2 e2 => ?_, fun hb => (kx hb).go e1⟩⟩
    subst ev
    obtain ⟨kd, hn, kx2, kk2⟩ := kk hb
    have R := ring_of hp hb
    have F := R.facts
    have e12 := e1.trans e2
    refine q_call (vs := [.ref a, n]) (by walk_at "ea") fun H3 e3 => ?_
    have e13 := e12.trans e3
    refine ⟨a, ws, n, kd, rfl, ex_l (e2.trans e3) hW, hm, hn.mono e13, fun q H4 e4 => ?_, fun q => (kx2 q).go e13⟩
    obtain ⟨i, rfl, i0, i1⟩ := numOk_iff.mp q
    have en := hn.toInt
    subst en
    have hml := hm.len
    have e14 := e13.trans e4
    have hW4 := ex_l ((e2.trans e3).trans e4) hW
    refine q_asg (ev_call (ea_cons (ev_var rfl) ea_nil) (spv_even hW4 (by omega) R.ev)) fun H5 e5 => ?_
    have hW5 := ex_l e5 hW4
    have kR := kk2 i rfl i0 i1
    unfold ringS at kR
    obtain ⟨Flt, Fz2, Fz0, FP1, Fc⟩ := F
    have hmem := getD_mem Flt
    have lw := len_wo Flt
    generalize hke : evenAt ws = k at kR Flt Fz2 Fz0 FP1 Fc hmem lw
    generalize hz : ws.getD k 0 = z at kR Fz2 Fz0 FP1 Fc hmem
    refine q_asgL (el_call (ea_cons (ev_var rfl) (ea_cons (ev_var rfl) ea_nil)) (spl_without hW5 (by omega))) fun o H6 ho e6 hO => ?_
    have hW6 := ex_l e6 hW5
    have hmo := hm.wo k
    have hpo := hp.wo k
    generalize hwo : wo ws k = os at kR FP1 Fc hO hmo hpo lw
    refine q_asg (v := .int z) (ev_to (ev_op (ev_var rfl) (ev_var rfl) (rv_ixI hW6 Flt)) (by rw [hz])) fun H7 e7 => ?_
    have hO7 := e7 _ _ hO
    refine q_par (v := .int i) (w := .int 0) (by walk_at "ea") fun H8 e8 => ?_
    have hO8 := e8 _ _ hO7
    refine q_ifK (b := decide (z ≤ i)) (fun (x : Option V × Option V) => [some (.ref a), some (.int i), some (.int (k : Int)), some (.ref o), some (.int z), some (.int (rH z (cnt os - 1) i)), some (.int (rP z (cnt os - 1) i)), x.1, x.2, none]) (by walk_at "et") (fun hc kq H9 e9 => ?_) (fun hc kq H9 e9 => ?_) fun x H9 e9 => ?_
    · have hzi := of_decide_eq_true hc
      have hO9 := e9 _ _ hO8
      refine q_divmod (a := i - z) (b := cnt os - 1) (ea_cons (by walk_at "ev") (ea_cons (ev_op (ev_call (ea_cons (ev_var rfl) ea_nil) (spv_count_of (sq_of hO9) hmo)) ev_c rv_I0) ea_nil)) (divp_near (w := z) (by omega) (by omega) (by omega) (hm.lt z hmem)) fun H10 e10 => ?_
      refine q_asg (v := .int (z - 1 - (i - z) / (cnt os - 1))) (by walk_at "ev") fun H11 e11 => ?_
      have hO11 := (e10.trans e11) _ _ hO9
      refine s_asg (v := .int (rP z (cnt os - 1) i)) (ev_if (b := decide ((i - z) / (cnt os - 1) % 2 = 0)) (by walk_at "et") (fun hb => ?_) (fun hb => ?_)) fun H12 e12 => ?_
      · refine ev_to (by walk_at "ev") ?_
        unfold rP
        rw [if_neg (by omega), if_pos (of_decide_eq_true hb)]
      · refine ev_to (ev_op (ev_op (ev_call (ea_cons (ev_var rfl) ea_nil) (spv_count_of (sq_of hO11) hmo)) ev_c rv_I0) (ev_var rfl) rv_I0) ?_
        unfold rP
        rw [if_neg (by omega), if_neg (of_decide_eq_false hb)]
      · have := kq (some (.int ((i - z) / (cnt os - 1))), some (.int ((i - z) % (cnt os - 1)))) H12 (((e9.trans e10).trans e11).trans e12)
        have eh : rH z (cnt os - 1) i = z - 1 - (i - z) / (cnt os - 1) := by unfold rH; rw [if_neg (by omega)]
        dsimp only at this
        rw [eh] at this
        exact this
    · have hzi := of_decide_eq_false hc
      have := kq (none, none) H9 e9
      have eh := r_lo (z := z) (P := cnt os - 1) (n := i) (by omega)
      dsimp only at this
      rw [eh.1, eh.2] at this
      exact this
    · have hO9 := e9 _ _ hO8
      refine q_asgL (el_call (ea_cons (ev_var rfl) (ea_cons (ev_var rfl) ea_nil)) (spl_setting_at (sq_of hO9) hpo hmo)) fun t H10 ht e10 hT => ?_
      have hTl := setAt_len os (rP z (cnt os - 1) i)
      generalize setAt os (rP z (cnt os - 1) i) = ts at hT hTl kR
      have l1 := cutV_length (ts.map V.int) none (some (k : Int))
      have l2 := cutV_length (ts.map V.int) (some (k : Int)) none
      rw [List.length_map] at l1 l2
      refine s_retL (xs := (ins ts k (rH z (cnt os - 1) i)).map V.int) ?_ (RetL.mono kR (((((e14.trans e5).trans e6).trans e7).trans e8).trans (e9.trans e10)))
      rw [← cut_ins]
      exact el_catLL (el_catLL (el_sl (ev_var rfl) eo_none (eo_some (ev_var rfl)) (sq_of hT)) (el_lst (ea_cons (ev_var rfl) ea_nil) (by show 1 ≤ 100000; decide)) (by show _ + 1 ≤ 100000; omega)) (el_sl (ev_var rfl) (eo_some (ev_var rfl)) eo_none (sq_of hT)) (by rw [List.length_append]; show _ + 1 + _ ≤ 100000; omega)
def sp_ring_number (K : PySem.W.Frag) (C : Cs) : Sp := fun vs H Q E => ∃ (v s : V), vs = [v, s] ∧ Door K C H v E fun _ ws => Sm ws ∧ (aroundB ws = false → RetX C.NoRing H E) ∧ (aroundB ws = true → DoorS K C H ws s E fun _ ss => RetV (.int (ringN ws ss)) H Q)
theorem spv_ring_number {K : PySem.W.Frag} {C : Cs} {H : Hp} {a b : Addr} {ws ss : List Int} (h1 : SqL K H a (ws.map V.int)) (h2 : Pos ws) (h : Sm ws) (hr : aroundB ws = true) (h3 : SqL K H b (ss.map V.int)) (hi : InS ws ss) : SpV (sp_ring_number K C) [.ref a, .ref b] H (.int (ringN ws ss)) :=
  fun H1 e Q q E => ⟨_, _, rfl, .inr (.inr ⟨a, ws, rfl, ex_l e h1, h2, Nat.le_trans h.len (by decide), h, fun z => (by rw [hr] at z; cases z), fun _ => .inr ⟨b, ss, rfl, ex_l e h3, hi, q⟩⟩)⟩
theorem ok_ring_number {P : Program} {w : World} {K : PySem.W.Frag} {mg : Str → Option Value} {base : Heap} {C : Cs} (T : Txt K mg C) : Cl P w K mg base (L2N.CX P w) 4 "ring_number" ["wheels", "setting"] (sp_ring_number K C) := by
  have c_check_ring := ok_check_ring (P := P) (w := w) (base := base) T
  have c_check_setting := ok_check_setting (P := P) (w := w) (base := base) T
  have c_even_wheel := ok_even_wheel (P := P) (w := w) (base := base) T
  have c_without := ok_without (P := P) (w := w) (base := base) T
  have c_number_at := ok_number_at (P := P) (w := w) (base := base) T
  have c_count_of := ok_count_of (P := P) (w := w) (base := base) T
  refine clX T.d_ring_number sc_ring_number (fun vs H Q E h => ?_) (fun f cdv A outer s H vs Q E hr h => ?_)
  · obtain ⟨v, s', rfl, hd⟩ := h
    rfl
  · obtain ⟨v, s', rfl, hd⟩ := h
    refine ⟨_, (pss_cons (ps_expr (pe_cl c_check_ring (hr.mono (by decide)) (by rfl) (pass1 (L2N.takes_of rfl rfl rfl rfl)) (pa_cons (pv 0) pa_nil)))
    (pss_cons (ps_expr (pe_cl c_check_setting (hr.mono (by decide)) (by rfl) (pass1 (L2N.takes_of rfl rfl rfl rfl)) (pa_cons (pv 0) (pa_cons (pv 1) pa_nil))))
    (pss_cons (ps_set (i := 2) sc_ring_number.nd rfl (.inl rfl) (pe_cl c_even_wheel (hr.mono (by decide)) (by rfl) pass0 (pa_cons (pv 0) pa_nil)))
    (pss_cons (ps_set (i := 3) sc_ring_number.nd rfl (.inl rfl) (pe_cl c_without (hr.mono (by decide)) (by rfl) pass0 (pa_cons (pv 0) (pa_cons (pv 2) pa_nil))))
    (pss_cons (ps_par rfl sc_ring_number.nd (i := 4) (j := 5) rfl rfl (by decide) rfl rfl (pa_cons (pe_ix (ix_listK (K := K) rfl) (pv 1) (pv 2) (fun _ _ => rfl)) (pa_cons (pe_cl c_number_at (hr.mono (by decide)) (by rfl) pass0 (pa_cons (pv 3) (pa_cons (pe_cl c_without (hr.mono (by decide)) (by rfl) pass0 (pa_cons (pv 1) (pa_cons (pv 2) pa_nil))) pa_nil))) pa_nil)) (by rfl))
    (pss_cons (ps_if (pt_cmpR op_eq (pv 5) pe_int (nomark _)) (pss_one (ps_ret (pv 4))) pss_nil)
    (pss_cons (ps_set (i := 6) sc_ring_number.nd rfl (.inl rfl) (pe_op op_sub (pe_op op_sub (pe_ix (ix_listK (K := K) rfl) (pv 0) (pv 2) (fun _ _ => rfl)) pe_int) (pv 4)))
    (pss_cons (ps_set (i := 7) sc_ring_number.nd rfl (.inl rfl) (pe_ifExp (pt_cmpR op_eq (pe_op op_mod (pv 6) pe_int) pe_int (nomark _)) (pe_op op_sub (pv 5) pe_int) (pe_op op_sub (pe_op op_sub (pe_cl c_count_of (hr.mono (by decide)) (by rfl) pass0 (pa_cons (pv 3) pa_nil)) pe_int) (pv 5))))
    (pss_one (ps_ret (pe_op op_add (pe_op op_add (pe_ix (ix_listK (K := K) rfl) (pv 0) (pv 2) (fun _ _ => rfl)) (pe_op op_mulA (pv 6) (pe_op op_sub (pe_cl c_count_of (hr.mono (by decide)) (by rfl) pass0 (pa_cons (pv 3) pa_nil)) pe_int))) (pv 7)))))))))))), ?_⟩
    dsimp only [cxOf, L2H.cxH, Cx.nox, Cx.wish, L2.start, List.map_cons, List.map_nil, List.length_cons, List.length_nil, List.cons_append, List.nil_append]
    refine q_call (vs := [v]) (by walk_at "ea") fun H1 e1 => ⟨v, rfl, (hd.mono e1).imp fun a ws ev hW hp hl ⟨hm, kx, kk⟩ => ⟨hm, fun hb H2 e2 => ?_, fun hb => (kx hb).go e1⟩⟩
    subst ev
    have hs := kk hb
    have R := ring_of hp hb
    have F := R.facts
    have e12 := e1.trans e2
    refine q_call (vs := [.ref a, s']) (by walk_at "ea") fun H3 e3 => ?_
    have e13 := e12.trans e3
    refine (hs.mono e13).check (ex_l (e2.trans e3) hW) hl fun c ss ec hS hi kR H4 e4 => ?_
    subst ec
    have hml := hm.len
    have hsl := hi.len
    have e14 := e13.trans e4
    have hW4 := ex_l ((e2.trans e3).trans e4) hW
    have hS4 := ex_l e4 hS
    refine q_asg (ev_call (ea_cons (ev_var rfl) ea_nil) (spv_even hW4 (by omega) R.ev)) fun H5 e5 => ?_
    have hW5 := ex_l e5 hW4
    have hS5 := ex_l e5 hS4
    unfold ringN at kR
    obtain ⟨Flt, Fz2, Fz0, FP1, Fc⟩ := F
    have hmem := getD_mem Flt
    have lw := len_wo Flt
    have hat := hi.at _ Flt
    have hio := hi.wo (evenAt ws)
    generalize hke : evenAt ws = k at kR Flt Fz2 Fz0 FP1 Fc hmem lw hat hio
    refine q_asgL (el_call (ea_cons (ev_var rfl) (ea_cons (ev_var rfl) ea_nil)) (spl_without hW5 (by omega))) fun o H6 ho e6 hO => ?_
    have hW6 := ex_l e6 hW5
    have hS6 := ex_l e6 hS5
    have hmo := hm.wo k
    generalize hwo : wo ws k = os at kR FP1 Fc hO hmo lw hio
    refine q_par (v := .int (ss.getD k 0)) (w := .int (numAt os (wo ss k))) (ea_cons (ev_op (ev_var rfl) (ev_var rfl) (rv_ixI hS6 (by omega))) (ea_cons (ev_callSL (ev_var rfl) (el_call (ea_cons (ev_var rfl) (ea_cons (ev_var rfl) ea_nil)) (spl_without hS6 (by omega))) fun q H7 hq e7 => spv_number_at (sq_of (e7 _ _ hO)) (sq_of hq) hio hmo) ea_nil)) fun H7 e7 => ?_
    have hO7 := e7 _ _ hO
    have hW7 := ex_l e7 hW6
    generalize hh : ss.getD k 0 = h at kR hat
    generalize hz : ws.getD k 0 = z at kR Fz2 Fz0 FP1 Fc hmem hat
    generalize numAt os (wo ss k) = p at kR
    have e07 := ((e14.trans e5).trans e6).trans e7
    refine q_when (b := decide (p = 0)) (by walk_at "et") (fun hc H8 e8 => ?_) fun hc H8 e8 => ?_
    · refine s_ret (ev_var rfl) fun H9 e9 => ?_
      unfold rN at kR
      rw [if_pos (of_decide_eq_true hc)] at kR
      exact kR H9 (((e14.trans e5).trans (e6.trans e7)).trans (e8.trans e9))
    · have hW8 := ex_l e8 hW7
      have hO8 := e8 _ _ hO7
      unfold rN at kR
      rw [if_neg (of_decide_eq_false hc)] at kR
      refine q_asg (v := .int (z - 1 - h)) (ev_op (ev_op (ev_to (ev_op (ev_var rfl) (ev_var rfl) (rv_ixI hW8 Flt)) (by rw [hz])) ev_c rv_I0) (ev_var rfl) rv_I0) fun H9 e9 => ?_
      have hW9 := ex_l e9 hW8
      have hO9 := e9 _ _ hO8
      refine q_asg (v := .int (if (z - 1 - h) % 2 = 0 then p - 1 else cnt os - 1 - p)) (ev_if (b := decide ((z - 1 - h) % 2 = 0)) (by walk_at "et") (fun hb => ?_) (fun hb => ?_)) fun H10 e10 => ?_
      · rw [if_pos (of_decide_eq_true hb)]
        walk_at "ev"
      · rw [if_neg (of_decide_eq_false hb)]
        exact ev_op (ev_op (ev_call (ea_cons (ev_var rfl) ea_nil) (spv_count_of (sq_of hO9) hmo)) ev_c rv_I0) (ev_var rfl) rv_I0
      · have hW10 := ex_l e10 hW9
        have hO10 := e10 _ _ hO9
        have hzl := hm.lt z hmem
        have hM : IntMulOk (z - 1 - h) (cnt os - 1) := by
          have c1 := cnt_lt (ws := os) fun w hw => hmo.nat hw
          have c2 : (2 : Nat) ^ (250 * os.length + 1) ≤ 2 ^ 50001 := Nat.pow_le_pow_right (by omega) (by have := hmo.len; omega)
          have z1 : (z - 1 - h).natAbs < 2 ^ 250 := by
            have ez : z - 1 - h = (((z - 1 - h).natAbs : Nat) : Int) := by omega
            have : (((z - 1 - h).natAbs : Nat) : Int) < 2 ^ 250 := by omega
            exact_mod_cast this
          exact mulX (mulx_ok z1 (show (cnt os - 1).natAbs < 2 ^ 50001 by omega) (by decide))
        refine s_ret (ev_op (ev_op (ev_to (ev_op (ev_var rfl) (ev_var rfl) (rv_ixI hW10 Flt)) (by rw [hz])) (ev_op (ev_var rfl) (ev_op (ev_call (ea_cons (ev_var rfl) ea_nil) (spv_count_of (sq_of hO10) hmo)) ev_c rv_I0) (rv_I hM)) rv_I0) (ev_var rfl) rv_I0) fun H11 e11 => ?_
        exact kR H11 (((e14.trans e5).trans (e6.trans e7)).trans (((e8.trans e9).trans e10).trans e11))
/-! ### written -/
def numT (i : Int) : Str := Str.ofString (toString i)
def wrT (ws ss : List Int) : Str := Txt.join (Str.ofString " ") (ws.map numT) ++ Str.ofString ":" ++ Txt.join (Str.ofString "") (ss.map fun n => Str.ofString " " ++ numT n)
def fits (ws : List Int) : Bool := ws.all fun w => decide (w < 10 ^ 60)
theorem fits_iff {ws : List Int} : fits ws = true ↔ ∀ w ∈ ws, w < 10 ^ 60 := by
  unfold fits
  rw [List.all_eq_true]
  exact ⟨fun h w hw => of_decide_eq_true (h w hw), fun h w hw => decide_eq_true (h w hw)⟩
theorem numT_len {i : Int} (h0 : 0 ≤ i) (h1 : i < 10 ^ 60) : (numT i).length ≤ 60 := PyProof.Rows.toString_length_le h0 (by decide) h1
theorem sum_le {B : Nat} : ∀ {ys : List Str}, (∀ y ∈ ys, y.length ≤ B) → (ys.map (·.length)).sum ≤ ys.length * B
  | [], _ => Nat.zero_le _
  | x :: r, h => by
    have h1 := h x List.mem_cons_self
    have h2 := sum_le (ys := r) fun z hz => h z (List.mem_cons_of_mem _ hz)
    rw [List.map_cons, List.sum_cons, List.length_cons, Nat.succ_mul]
    omega
theorem join_le (sep : Str) {B : Nat} {ys : List Str} (h : ∀ y ∈ ys, y.length ≤ B) : (Txt.join sep ys).length ≤ ys.length * (B + sep.length) := by
  show (Builtin.Str.glued sep ys).length ≤ _
  rw [StrLaws.glued_eq_join, Nat.mul_add]
  have := StrLaws.join_length_le sep ys
  have := sum_le h
  omega
theorem ev_join {K : PySem.W.Frag} {H : Hp} {σ : L2.St} {to te : TE} {sep : Str} {ys : List Str} (ho : Ev to σ H (.str sep)) (h : EvL te σ H (ys.map V.str)) (hz : (ys.map (·.length)).sum + ys.length * sep.length ≤ 16777216) :
    Ev (tM1 (fun x xs H Q => ∃ a p, ∃ ys : List Str, x = .str a ∧ xs = [.ref p] ∧ (SqL K H p (ys.map V.str) ∨ SqT K H p (ys.map V.str)) ∧ (ys.map (·.length)).sum + ys.length * a.length ≤ 16777216 ∧ Q (.str (Txt.join a ys)) H) to te) σ H (.str (Txt.join sep ys)) := fun H1 e Q q =>
  ho H1 e _ fun H2 e2 => ⟨⟨sep, rfl⟩, h H2 (e.trans e2) _ fun p H3 hp e3 h3 => ⟨sep, p, ys, rfl, rfl, .inl (sq_of h3), hz, q H3 (e2.trans e3)⟩⟩
theorem ev_strI {H : Hp} {σ : L2.St} {te : TE} {i : Int} (h : Ev te σ H (.int i)) (hz : i.natAbs.log2 < 1920) : Ev (tCB (fun xs H Q => ∃ i, xs = [.int i] ∧ i.natAbs.log2 < 1920 ∧ Q (.str (toString i)) H) (tCons te tNil)) σ H (.str (numT i)) :=
  ev_cb (ea_cons h ea_nil) fun H1 e Q q => ⟨i, rfl, hz, q H1 (Ex.refl H1)⟩
theorem rv_cat {H : Hp} {i j : Str} (h : i.length + j.length ≤ 16777216) : RV (fun x y H Q => ∃ i j, x = .str i ∧ y = .str j ∧ i.length + j.length ≤ sizeLine ∧ Q (.str (i ++ j)) H) (.str i) (.str j) H (.str (i ++ j)) :=
  fun H1 _ _ q => ⟨i, j, rfl, rfl, Nat.le_trans h (by rw [sizeLine_eq]; decide), q H1 (Ex.refl H1)⟩
theorem log_ok {i : Int} (h0 : 0 ≤ i) (h1 : i < 10 ^ 60) : i.natAbs.log2 < 1920 := by
  have e : i = ((i.natAbs : Nat) : Int) := by omega
  by_cases c : i.natAbs = 0
  · rw [c]; decide
  · rw [e] at h1
    have h2 : i.natAbs < 10 ^ 60 := by exact_mod_cast h1
    exact (Nat.log2_lt c).mpr (Nat.lt_trans h2 (by decide +kernel))
theorem in_bd : ∀ {ws ss : List Int}, InS ws ss → (∀ w ∈ ws, w < 10 ^ 60) → ∀ s ∈ ss, 0 ≤ s ∧ s < 10 ^ 60
  | [], [], _, _, x, hx => by cases hx
  | [], _ :: _, h, _, _, _ => h.elim
  | w :: ws, s :: ss, h, hw, x, hx => by
    rcases List.mem_cons.mp hx with rfl | hx
    · have := hw w List.mem_cons_self
      exact ⟨h.1.1, Int.lt_trans h.1.2 this⟩
    · exact in_bd h.2 (fun v hv => hw v (List.mem_cons_of_mem _ hv)) x hx
def sp_written (K : PySem.W.Frag) (C : Cs) : Sp := fun vs H Q E => ∃ (v s : V), vs = [v, s] ∧ Door K C H v E fun _ ws => ws.length ≤ 1000 ∧ (fits ws = false → RetX C.BadWheels H E) ∧ (fits ws = true → DoorS K C H ws s E fun _ ss => RetV (.str (wrT ws ss)) H Q)
theorem spv_written {K : PySem.W.Frag} {C : Cs} {H : Hp} {a b : Addr} {ws ss : List Int} (h1 : SqL K H a (ws.map V.int)) (h2 : Pos ws) (hl : ws.length ≤ 1000) (hf : fits ws = true) (h3 : SqL K H b (ss.map V.int)) (hi : InS ws ss) : SpV (sp_written K C) [.ref a, .ref b] H (.str (wrT ws ss)) :=
  fun H1 e Q q E => ⟨_, _, rfl, .inr (.inr ⟨a, ws, rfl, ex_l e h1, h2, by omega, hl, fun z => (by rw [hf] at z; cases z), fun _ => .inr ⟨b, ss, rfl, ex_l e h3, hi, q⟩⟩)⟩
theorem ok_written {P : Program} {w : World} {K : PySem.W.Frag} {mg : Str → Option Value} {base : Heap} {C : Cs} (T : Txt K mg C) : Cl P w K mg base (L2N.CX P w) 4 "written" ["wheels", "setting"] (sp_written K C) := by
  have c_check_wheels := ok_check_wheels (P := P) (w := w) (base := base) T
  have c_check_setting := ok_check_setting (P := P) (w := w) (base := base) T
  refine clX T.d_written sc_written (fun vs H Q E h => ?_) (fun f cdv A outer s H vs Q E hr h => ?_)
  · obtain ⟨v, s', rfl, hd⟩ := h
    rfl
  · obtain ⟨v, s', rfl, hd⟩ := h
    refine ⟨_, (pss_cons (ps_expr (pe_cl c_check_wheels (hr.mono (by decide)) (by rfl) (pass1 (L2N.takes_of rfl rfl rfl rfl)) (pa_cons (pv 0) pa_nil)))
    (pss_cons (ps_if (pt_not (pt_val (pe_callB (cr_allK (K := K) rfl rfl) (by rfl) T.b_all (by decide +kernel) (pa_cons (pe_lc (own := [("size", 3)]) (g := gName 3) (tt := tYes) rfl sc_written.nd (pi_listK (K := K) rfl (pv 0)) (blkOk_by (N := ["wheels", "setting", "sizes", "size", "number"]) (sc := defScope S_written) (own := [("size", 3)]) (by decide +kernel)) (fun _ _ _ _ _ => (pg_name (i := 3) sc_written.nd rfl (.inl rfl))) (fun _ _ _ _ _ => pts_nil) (fun _ _ _ _ _ => (pe_cmpR op_lt (pv 3) (pe_gi T.k_MOST (by rfl)) (nomark _)))) pa_nil)) (by intro _; rfl))) (pss_one (L2N.ps_raise rfl (L2N.takes_of rfl rfl rfl rfl) (L2N.pmk_own PySem.F.excBase_ValueError T.e_BadWheels.x T.e_BadWheels.g T.e_BadWheels.k (raises_own T.e_BadWheels.b T.e_BadWheels.t) rfl))) pss_nil)
    (pss_cons (ps_expr (pe_cl c_check_setting (hr.mono (by decide)) (by rfl) (pass1 (L2N.takes_of rfl rfl rfl rfl)) (pa_cons (pv 0) (pa_cons (pv 1) pa_nil))))
    (pss_cons (ps_set (i := 2) sc_written.nd rfl (.inl rfl) (pe_join pe_str (pe_lc (own := [("size", 3)]) (g := gName 3) (tt := tYes) rfl sc_written.nd (pi_listK (K := K) rfl (pv 0)) (blkOk_by (N := ["wheels", "setting", "sizes", "size", "number"]) (sc := defScope S_written) (own := [("size", 3)]) (by decide +kernel)) (fun _ _ _ _ _ => (pg_name (i := 3) sc_written.nd rfl (.inl rfl))) (fun _ _ _ _ _ => pts_nil) (fun _ _ _ _ _ => (pe_callTy call_str_int (by rfl) T.b_str (by decide +kernel) (pa_cons (pv 3) pa_nil))))))
    (pss_one (ps_ret (pe_op op_add_str (pe_op op_add_str (pv 2) pe_str) (pe_join pe_str (pe_lc (own := [("number", 4)]) (g := gName 4) (tt := tYes) rfl sc_written.nd (pi_listK (K := K) rfl (pv 1)) (blkOk_by (N := ["wheels", "setting", "sizes", "size", "number"]) (sc := defScope S_written) (own := [("number", 4)]) (by decide +kernel)) (fun _ _ _ _ _ => (pg_name (i := 4) sc_written.nd rfl (.inl rfl))) (fun _ _ _ _ _ => pts_nil) (fun _ _ _ _ _ => (pe_op op_add_str pe_str (pe_callTy call_str_int (by rfl) T.b_str (by decide +kernel) (pa_cons (pv 4) pa_nil))))))))))))), ?_⟩
    dsimp only [cxOf, L2H.cxH, Cx.nox, Cx.wish, L2.start, List.map_cons, List.map_nil, List.length_cons, List.length_nil, List.cons_append, List.nil_append]
    refine q_call (vs := [v]) (by walk_at "ea") fun H1 e1 => (hd.mono e1).check fun a ws ev hW hp hl0 ⟨hl, kx, kk⟩ H2 e2 => ?_
    subst ev
    have e12 := e1.trans e2
    have hW2 := ex_l e2 hW
    refine q_when (b := !fits ws) (et_not (et_B (ev_to (ev_allN (bs := ws.map fun w => decide (w < 10 ^ 60)) (el_list (by rw [List.length_map, List.length_map, List.length_map]) (ev_var rfl) hW2 (by rw [List.length_map]; omega) (fun _ => rfl) fun i x y H3 e3 hx hy => ?_)) ?_))) (fun q H3 e3 => ?_) fun q H3 e3 => ?_
    · obtain ⟨w, rfl, hw, _⟩ := map_get hx
      rw [List.map_map, List.getElem?_map, hw] at hy
      cases hy
      exact ev_op (ev_var rfl) ev_c rv_I0
    · unfold fits
      rw [List.all_map]
      rfl
    · exact kx (by cases h : fits ws with | true => rw [h] at q; cases q | false => rfl) H3 (e12.trans e3)
    have hf : fits ws = true := by cases h : fits ws with | true => rfl | false => rw [h] at q; cases q
    have hbig := fits_iff.mp hf
    have e13 := e12.trans e3
    refine q_call (vs := [.ref a, s']) (by walk_at "ea") fun H4 e4 => ?_
    have e14 := e13.trans e4
    refine ((kk hf).mono e14).check (ex_l (e3.trans e4) hW2) hl0 fun c ss ec hS hi kR H5 e5 => ?_
    subst ec
    have hW5 := ex_l ((e3.trans e4).trans e5) hW2
    have hS5 := ex_l e5 hS
    have hsl := hi.len
    have hsb := in_bd hi hbig
    have n1 : ∀ y ∈ ws.map numT, y.length ≤ 60 := fun y hy => by
      obtain ⟨w, hw, rfl⟩ := List.mem_map.mp hy
      exact numT_len (by have := hp w hw; omega) (hbig w hw)
    have sp1 : (Str.ofString " ").length = 1 := by decide +kernel
    have sp0 : (Str.ofString "").length = 0 := by decide +kernel
    have spc : (Str.ofString ":").length = 1 := by decide +kernel
    have n2 : ∀ y ∈ ss.map (fun n => Str.ofString " " ++ numT n), y.length ≤ 61 := fun y hy => by
      obtain ⟨w, hw, rfl⟩ := List.mem_map.mp hy
      have := numT_len (hsb w hw).1 (hsb w hw).2
      rw [Str.length_append, sp1]
      omega
    have m1 := sum_le n1
    have m2 := sum_le n2
    have j1 := join_le (Str.ofString " ") n1
    have j2 := join_le (Str.ofString "") n2
    rw [List.length_map] at m1 m2 j1 j2
    rw [sp1] at j1
    rw [sp0] at j2
    refine q_asg (v := .str (Txt.join (Str.ofString " ") (ws.map numT))) (ev_join ev_c (el_list (by rw [List.length_map, List.length_map, List.length_map]) (ev_var rfl) hW5 (by rw [List.length_map]; omega) (fun _ => rfl) fun i x y H6 e6 hx hy => ?_) (by rw [List.length_map, sp1]; omega)) fun H6 e6 => ?_
    · obtain ⟨w, rfl, hw, hm⟩ := map_get hx
      rw [List.map_map, List.getElem?_map, hw] at hy
      cases hy
      exact ev_strI (ev_var rfl) (log_ok (by have := hp w hm; omega) (hbig w hm))
    have hS6 := ex_l e6 hS5
    refine s_ret (v := .str (wrT ws ss)) (ev_op (ev_op (ev_var rfl) ev_c (rv_cat (by rw [spc]; omega))) (ev_join ev_c (el_list (by rw [List.length_map, List.length_map, List.length_map]) (ev_var rfl) hS6 (by rw [List.length_map]; omega) (fun _ => rfl) fun i x y H7 e7 hx hy => ?_) (by rw [List.length_map, sp0]; omega)) (rv_cat (by rw [Str.length_append, spc]; omega))) fun H7 e7 => kR H7 (e14.trans ((e5.trans e6).trans e7))
    obtain ⟨w, rfl, hw, hm⟩ := map_get hx
    rw [List.map_map, List.getElem?_map, hw] at hy
    cases hy
    have := numT_len (hsb w hm).1 (hsb w hm).2
    exact ev_op ev_c (ev_strI (ev_var rfl) (log_ok (hsb w hm).1 (hsb w hm).2)) (rv_cat (by rw [sp1]; omega))
/-! ### which refusal -/
def clsOf (C : Cs) : Nat → Addr
  | 0 => C.BadWheels
  | 1 => C.BadSetting
  | 2 => C.BadNumber
  | _ => C.NoRing
def dueB (i : Nat) : List Bool := [decide (i = 0), decide (i = 1), decide (i = 2), decide (i = 3), false, true]
theorem rc_isX {K : PySem.W.Frag} {H : Hp} {a D : Addr} {c : V} {cv : Value} {b : Bool} (h : ExcC K D) (hc : ClsV c cv) (e : PySem.W.kitOne K (.ref D) cv = some b) : RC (rIsX K a (.ref D) none) [.ref a, c] H (.bl b) :=
  fun H1 _ _ q => ⟨D, c, cv, b, rfl, rfl, h, rfl, hc, e, q H1 (Ex.refl H1)⟩
section
variable {K : PySem.W.Frag} {mg : Str → Option Value} {C : Cs} {i : Nat}
theorem exc_i (T : Txt K mg C) (h : i < 4) : ExcC K (clsOf C i) := by
  match i, h with
  | 0, _ => exact T.exc_BadWheels
  | 1, _ => exact T.exc_BadSetting
  | 2, _ => exact T.exc_BadNumber
  | 3, _ => exact T.exc_NoRing
theorem isW (T : Txt K mg C) (h : i < 4) : PySem.W.kitOne K (.ref (clsOf C i)) (.ref C.BadWheels) = some (decide (i = 0)) := by
  match i, h with
  | 0, _ => exact T.isx_BadWheels_BadWheels
  | 1, _ => exact T.isx_BadSetting_BadWheels
  | 2, _ => exact T.isx_BadNumber_BadWheels
  | 3, _ => exact T.isx_NoRing_BadWheels
theorem isS (T : Txt K mg C) (h : i < 4) : PySem.W.kitOne K (.ref (clsOf C i)) (.ref C.BadSetting) = some (decide (i = 1)) := by
  match i, h with
  | 0, _ => exact T.isx_BadWheels_BadSetting
  | 1, _ => exact T.isx_BadSetting_BadSetting
  | 2, _ => exact T.isx_BadNumber_BadSetting
  | 3, _ => exact T.isx_NoRing_BadSetting
theorem isN (T : Txt K mg C) (h : i < 4) : PySem.W.kitOne K (.ref (clsOf C i)) (.ref C.BadNumber) = some (decide (i = 2)) := by
  match i, h with
  | 0, _ => exact T.isx_BadWheels_BadNumber
  | 1, _ => exact T.isx_BadSetting_BadNumber
  | 2, _ => exact T.isx_BadNumber_BadNumber
  | 3, _ => exact T.isx_NoRing_BadNumber
theorem isR (T : Txt K mg C) (h : i < 4) : PySem.W.kitOne K (.ref (clsOf C i)) (.ref C.NoRing) = some (decide (i = 3)) := by
  match i, h with
  | 0, _ => exact T.isx_BadWheels_NoRing
  | 1, _ => exact T.isx_BadSetting_NoRing
  | 2, _ => exact T.isx_BadNumber_NoRing
  | 3, _ => exact T.isx_NoRing_NoRing
theorem isT (T : Txt K mg C) (h : i < 4) : PySem.W.kitOne K (.ref (clsOf C i)) (.ref C.BadText) = some false := by
  match i, h with
  | 0, _ => exact T.isx_BadWheels_BadText
  | 1, _ => exact T.isx_BadSetting_BadText
  | 2, _ => exact T.isx_BadNumber_BadText
  | 3, _ => exact T.isx_NoRing_BadText
theorem isV (T : Txt K mg C) (h : i < 4) : PySem.W.kitOne K (.ref (clsOf C i)) (.type "ValueError") = some true := by
  match i, h with
  | 0, _ => exact T.isx_BadWheels_ValueError
  | 1, _ => exact T.isx_BadSetting_ValueError
  | 2, _ => exact T.isx_BadNumber_ValueError
  | 3, _ => exact T.isx_NoRing_ValueError
theorem exm_i (T : Txt K mg C) (h : i < 4) : PySem.W.exmOne K (.ref (clsOf C i)) (.ref C.WheelError) = some true := by
  match i, h with
  | 0, _ => exact T.exm_BadWheels_WheelError
  | 1, _ => exact T.exm_BadSetting_WheelError
  | 2, _ => exact T.exm_BadNumber_WheelError
  | 3, _ => exact T.exm_NoRing_WheelError
end
def sp_law_kinds (K : PySem.W.Frag) (C : Cs) (a : Addr) (cls : Value) (d : Option Addr) : Sp := fun vs H Q _ => vs = [.ref a] ∧ ∃ i, i < 4 ∧ cls = .ref (clsOf C i) ∧ d = none ∧ RetL ((dueB i).map V.bl) H Q
theorem ok_law_kinds {P : Program} {w : World} {K : PySem.W.Frag} {mg : Str → Option Value} {base : Heap} {C : Cs} (T : Txt K mg C) : ClP P w K mg base 1 "_law_kinds" ["_law_error"] (sp_law_kinds K C) := by
  refine clP T.d_law_kinds sc_law_kinds (fun a c d vs H Q E h => ?_) (fun f cdv A outer s H vs Q E p cls d hz hf hot hr h => ?_)
  · obtain ⟨rfl, i, hi, rfl, rfl, k⟩ := h
    rfl
  · obtain ⟨rfl, i, hi, rfl, rfl, k⟩ := h
    refine ⟨_, (pss_cons (ps_set (i := 1) sc_law_kinds.nd rfl (.inl rfl) (pe_lst (pa_cons (pe_callB (call_isP (K := K) rfl List.mem_cons_self hz hf) (by rfl) T.b_isinstance (by decide +kernel) (pa_cons (pv 0) (pa_cons (pe_gv T.g_BadWheels (by rfl)) pa_nil))) (pa_cons (pe_callB (call_isP (K := K) rfl List.mem_cons_self hz hf) (by rfl) T.b_isinstance (by decide +kernel) (pa_cons (pv 0) (pa_cons (pe_gv T.g_BadSetting (by rfl)) pa_nil))) (pa_cons (pe_callB (call_isP (K := K) rfl List.mem_cons_self hz hf) (by rfl) T.b_isinstance (by decide +kernel) (pa_cons (pv 0) (pa_cons (pe_gv T.g_BadNumber (by rfl)) pa_nil))) pa_nil)))))
    (pss_one (ps_ret (pe_op (op_catK (K := K) rfl) (pv 1) (pe_lst (pa_cons (pe_callB (call_isP (K := K) rfl List.mem_cons_self hz hf) (by rfl) T.b_isinstance (by decide +kernel) (pa_cons (pv 0) (pa_cons (pe_gv T.g_NoRing (by rfl)) pa_nil))) (pa_cons (pe_callB (call_isP (K := K) rfl List.mem_cons_self hz hf) (by rfl) T.b_isinstance (by decide +kernel) (pa_cons (pv 0) (pa_cons (pe_gv T.g_BadText (by rfl)) pa_nil))) (pa_cons (pe_callB (call_isP (K := K) rfl List.mem_cons_self hz hf) (by rfl) T.b_isinstance (by decide +kernel) (pa_cons (pv 0) (pa_cons (pe_bltn (by rfl) T.b_ValueError (by decide +kernel) (v := .ty "ValueError") rfl) pa_nil))) pa_nil)))))))), ?_⟩
    dsimp only [cxOf, L2H.cxH, Cx.nox, Cx.wish, L2.start, List.map_cons, List.map_nil, List.length_cons, List.length_nil, List.cons_append, List.nil_append]
    refine q_asgL (xs := [decide (i = 0), decide (i = 1), decide (i = 2)].map V.bl) (el_lst (ea_cons (ev_cb (ea_cons (ev_var rfl) (ea_cons ev_c ea_nil)) (rc_isX (exc_i T hi) (.own _) (isW T hi))) (ea_cons (ev_cb (ea_cons (ev_var rfl) (ea_cons ev_c ea_nil)) (rc_isX (exc_i T hi) (.own _) (isS T hi))) (ea_cons (ev_cb (ea_cons (ev_var rfl) (ea_cons ev_c ea_nil)) (rc_isX (exc_i T hi) (.own _) (isN T hi))) ea_nil))) (by show 3 ≤ 100000; decide)) fun l H1 hl e1 h1 => ?_
    refine s_retL (xs := (dueB i).map V.bl) ?_ (RetL.mono k e1)
    show EvL _ _ _ ([decide (i = 0), decide (i = 1), decide (i = 2)].map V.bl ++ [decide (i = 3), false, true].map V.bl)
    exact el_catSL (ev_var rfl) (sq_of h1) (el_lst (ea_cons (ev_cb (ea_cons (ev_var rfl) (ea_cons ev_c ea_nil)) (rc_isX (exc_i T hi) (.own _) (isR T hi))) (ea_cons (ev_cb (ea_cons (ev_var rfl) (ea_cons ev_c ea_nil)) (rc_isX (exc_i T hi) (.own _) (isT T hi))) (ea_cons (ev_cb (ea_cons (ev_var rfl) (ea_cons ev_c ea_nil)) (rc_isX (exc_i T hi) (.ty _) (isV T hi))) ea_nil))) (by show 3 ≤ 100000; decide)) (by show 3 + 3 ≤ 100000; decide)
/-- asked so, it is refused as D -/
def Rs (sp : Sp) (vs : List V) (H : Hp) (D : Addr) : Prop := ∀ H1, Ex H H1 → ∀ (Q : VK) (E : XK), RetX D H1 E → sp vs H1 Q E
theorem Rs.mono {sp : Sp} {vs : List V} {H H' : Hp} {D : Addr} (h : Rs sp vs H D) (e : Ex H H') : Rs sp vs H' D := fun H1 e1 => h H1 (e.trans e1)
section
variable {K : PySem.W.Frag} {C : Cs} {σ : L2.St} {H H' : Hp} {D : Ends} {ta tb te : TE} {t : TT}
/-- never answers -/
def EvX (te : TE) (σ : L2.St) (H : Hp) : Prop := ∀ H1, Ex H H1 → ∀ Q : VK, te σ H1 Q
theorem ex_call {tl : TA} {vs : List V} {sp : Sp} {E : XK} (h : EvA tl σ H vs) (hs : ∀ H1, Ex H H1 → ∀ Q : VK, sp (vs ++ []) H1 Q E) : EvX (tCall sp [] E tl) σ H := fun H1 e Q => h H1 e _ fun H2 e2 => hs H2 (e.trans e2) Q
theorem ex_if {b : Bool} (h : EvT t σ H b) (h1 : b = true → EvX ta σ H) (h2 : b = false → EvX tb σ H) : EvX (tIf t ta tb) σ H := fun H1 e Q => h H1 e _ fun H2 e2 => by
  cases b with
  | true =>
    show ta σ H2 Q
    exact h1 rfl H2 (e.trans e2) Q
  | false =>
    show tb σ H2 Q
    exact h2 rfl H2 (e.trans e2) Q
theorem ex_callVVL {tc : TE} {sp : Sp} {E : XK} {x y : V} {zs : List V} (ha : Ev ta σ H x) (hb : Ev tb σ H y) (hc : EvL tc σ H zs) (hs : ∀ q H1, H1 q = some (.lst zs) → Ex H H1 → ∀ Q : VK, sp [x, y, .ref q] H1 Q E) : EvX (tCall sp [] E (tCons ta (tCons tb (tCons tc tNil)))) σ H := fun H1 e Q =>
  ha H1 e _ fun H2 e2 => hb H2 (e.trans e2) _ fun H3 e3 => hc H3 ((e.trans e2).trans e3) _ fun q H4 hq e4 h4 => hs q H4 h4 (((e.trans e2).trans e3).trans e4) Q
theorem ex_callVLV {tc : TE} {sp : Sp} {E : XK} {x y : V} {zs : List V} (ha : Ev ta σ H x) (hb : EvL tb σ H zs) (hc : Ev tc σ H y) (hs : ∀ q H1, H1 q = some (.lst zs) → Ex H H1 → ∀ Q : VK, sp [x, .ref q, y] H1 Q E) : EvX (tCall sp [] E (tCons ta (tCons tb (tCons tc tNil)))) σ H := fun H1 e Q =>
  ha H1 e _ fun H2 e2 => hb H2 (e.trans e2) _ fun q H3 hq e3 h3 => hc H3 ((e.trans e2).trans e3) _ fun H4 e4 => hs q H4 (e4 _ _ h3) (((e.trans e2).trans e3).trans e4) Q
theorem s_retX (h : EvX te σ H) : tRet te D σ H := h H (Ex.refl H) _
theorem EvX.mono (h : EvX te σ H) (e : Ex H H') : EvX te σ H' := fun H1 e1 => h H1 (e.trans e1)
/-- what is no wheels -/
def BadW (K : PySem.W.Frag) (H : Hp) (v : V) : Prop := (∃ kd, Thg K H v kd ∧ kd.isList = false) ∨ ∃ (a : Addr) (xs : List V) (ks : List Kd), v = .ref a ∧ SqL K H a xs ∧ Thgs K H xs ks ∧ xs.length ≤ 40000 ∧ ks.all okSize = false
theorem BadW.mono {v : V} (h : BadW K H v) (e : Ex H H') : BadW K H' v := by
  rcases h with ⟨kd, h1, h2⟩ | ⟨a, xs, ks, rfl, h1, h2, h3, h4⟩
  · exact .inl ⟨kd, h1.mono e, h2⟩
  · exact .inr ⟨a, xs, ks, rfl, ex_l e h1, h2.mono e, h3, h4⟩
theorem BadW.door {v : V} {E : XK} {good : Addr → List Int → Prop} (h : BadW K H v) (r : RetX C.BadWheels H E) : Door K C H v E good := by
  rcases h with ⟨kd, h1, h2⟩ | ⟨a, xs, ks, rfl, h1, h2, h3, h4⟩
  · exact .inl ⟨kd, h1, h2, r⟩
  · exact .inr (.inl ⟨a, xs, ks, rfl, h1, h2, h3, h4, r⟩)
end
def sp_law_with_wheels (K : PySem.W.Frag) (C : Cs) : Sp := fun vs H _ E => ∃ (n : Int) (v : V), vs = [.int n, v] ∧ RetX C.BadWheels H E ∧
  (BadW K H v ∨ n = 8 ∧ ∃ a ws, v = .ref a ∧ SqL K H a (ws.map V.int) ∧ Pos ws ∧ ws.length ≤ 1000 ∧ fits ws = false)
theorem ok_law_with_wheels {P : Program} {w : World} {K : PySem.W.Frag} {mg : Str → Option Value} {base : Heap} {C : Cs} (T : Txt K mg C) : Cl P w K mg base (L2N.CX P w) 5 "_law_with_wheels" ["_law_door", "_law_wheels_here"] (sp_law_with_wheels K C) := by
  have c_settings := ok_settings (P := P) (w := w) (base := base) T
  have c_near := ok_near (P := P) (w := w) (base := base) T
  have c_apart := ok_apart (P := P) (w := w) (base := base) T
  have c_setting_of := ok_setting_of (P := P) (w := w) (base := base) T
  have c_number_of := ok_number_of (P := P) (w := w) (base := base) T
  have c_around := ok_around (P := P) (w := w) (base := base) T
  have c_ring_setting := ok_ring_setting (P := P) (w := w) (base := base) T
  have c_ring_number := ok_ring_number (P := P) (w := w) (base := base) T
  have c_written := ok_written (P := P) (w := w) (base := base) T
  refine clX T.d_law_with_wheels sc_law_with_wheels (fun vs H Q E h => ?_) (fun f cdv A outer s H vs Q E hr h => ?_)
  · obtain ⟨n, v, rfl, kx, hv⟩ := h
    rfl
  · obtain ⟨n, v, rfl, kx, hv⟩ := h
    refine ⟨_, (pss_cons (ps_if (pt_cmpR op_lt (pv 0) pe_int (nomark _)) (pss_one (ps_ret (pe_ifExp (pt_cmpR op_eq (pv 0) pe_int (nomark _)) (pe_cl c_settings (hr.mono (by decide)) (by rfl) (pass1 (L2N.takes_of rfl rfl rfl rfl)) (pa_cons (pv 1) pa_nil)) (pe_ifExp (pt_cmpR op_eq (pv 0) pe_int (nomark _)) (pe_cl c_near (hr.mono (by decide)) (by rfl) (pass1 (L2N.takes_of rfl rfl rfl rfl)) (pa_cons (pv 1) (pa_cons pe_non pa_nil))) (pe_cl c_apart (hr.mono (by decide)) (by rfl) (pass1 (L2N.takes_of rfl rfl rfl rfl)) (pa_cons (pv 1) (pa_cons pe_int (pa_cons pe_int pa_nil)))))))) pss_nil)
    (pss_cons (ps_if (pt_cmpR op_lt (pv 0) pe_int (nomark _)) (pss_one (ps_ret (pe_ifExp (pt_cmpR op_eq (pv 0) pe_int (nomark _)) (pe_cl c_setting_of (hr.mono (by decide)) (by rfl) (pass1 (L2N.takes_of rfl rfl rfl rfl)) (pa_cons (pv 1) (pa_cons (pe_un un_neg pe_int) pa_nil))) (pe_ifExp (pt_cmpR op_eq (pv 0) pe_int (nomark _)) (pe_cl c_number_of (hr.mono (by decide)) (by rfl) (pass1 (L2N.takes_of rfl rfl rfl rfl)) (pa_cons (pv 1) (pa_cons pe_int pa_nil))) (pe_cl c_around (hr.mono (by decide)) (by rfl) (pass1 (L2N.takes_of rfl rfl rfl rfl)) (pa_cons (pv 1) pa_nil)))))) pss_nil)
    (pss_one (ps_ret (pe_ifExp (pt_cmpR op_eq (pv 0) pe_int (nomark _)) (pe_cl c_ring_setting (hr.mono (by decide)) (by rfl) (pass1 (L2N.takes_of rfl rfl rfl rfl)) (pa_cons (pv 1) (pa_cons (pe_un un_neg pe_int) pa_nil))) (pe_ifExp (pt_cmpR op_eq (pv 0) pe_int (nomark _)) (pe_cl c_ring_number (hr.mono (by decide)) (by rfl) (pass1 (L2N.takes_of rfl rfl rfl rfl)) (pa_cons (pv 1) (pa_cons pe_int pa_nil))) (pe_cl c_written (hr.mono (by decide)) (by rfl) (pass1 (L2N.takes_of rfl rfl rfl rfl)) (pa_cons (pv 1) (pa_cons pe_int pa_nil))))))))), ?_⟩
    dsimp only [cxOf, L2H.cxH, Cx.nox, Cx.wish, L2.start, List.map_cons, List.map_nil, List.length_cons, List.length_nil, List.cons_append, List.nil_append]
    have e0 := Ex.refl H
    rcases hv with hv | ⟨rfl, a, ws, rfl, hW, hp, hl, hf⟩
    · have av : ∀ {H1 : Hp}, EvA (tCons (tVar 1) tNil) (List.map some [V.int n, v] ++ List.replicate 0 none) H1 [v] := ea_cons (ev_var rfl) ea_nil
      refine q_when (b := decide (n < 3)) (by walk_at "et") (fun _ H1 e1 => s_retX ?_) fun _ H1 e1 => ?_
      · refine ex_if (b := decide (n = 0)) (by walk_at "et") (fun _ => ?_) (fun _ => ex_if (b := decide (n = 1)) (by walk_at "et") (fun _ => ?_) (fun _ => ?_))
        · exact ex_call (vs := [v]) (ea_cons (ev_var rfl) ea_nil) fun H2 e2 Q => ⟨v, rfl, (hv.mono (e1.trans e2)).door (kx.go (e1.trans e2))⟩
        · exact ex_call (vs := [v, .non]) (ea_cons (ev_var rfl) (ea_cons ev_c ea_nil)) fun H2 e2 Q => ⟨v, _, rfl, (hv.mono (e1.trans e2)).door (kx.go (e1.trans e2))⟩
        · exact ex_call (vs := [v, .int 0, .int 0]) (ea_cons (ev_var rfl) (ea_cons ev_c (ea_cons ev_c ea_nil))) fun H2 e2 Q => ⟨v, _, _, rfl, (hv.mono (e1.trans e2)).door (kx.go (e1.trans e2))⟩
      refine q_when (b := decide (n < 6)) (by walk_at "et") (fun _ H2 e2 => s_retX ?_) fun _ H2 e2 => s_retX ?_
      · have e12 := e1.trans e2
        refine ex_if (b := decide (n = 3)) (by walk_at "et") (fun _ => ?_) (fun _ => ex_if (b := decide (n = 4)) (by walk_at "et") (fun _ => ?_) (fun _ => ?_))
        · exact ex_call (vs := [v, .int (-1)]) (ea_cons (ev_var rfl) (ea_cons (ev_un ev_c ru_neg) ea_nil)) fun H3 e3 Q => ⟨v, _, rfl, (hv.mono (e12.trans e3)).door (kx.go (e12.trans e3))⟩
        · exact ex_call (vs := [v, .int 0]) (ea_cons (ev_var rfl) (ea_cons ev_c ea_nil)) fun H3 e3 Q => ⟨v, _, rfl, (hv.mono (e12.trans e3)).door (kx.go (e12.trans e3))⟩
        · exact ex_call (vs := [v]) (ea_cons (ev_var rfl) ea_nil) fun H3 e3 Q => ⟨v, rfl, (hv.mono (e12.trans e3)).door (kx.go (e12.trans e3))⟩
      · have e12 := e1.trans e2
        refine ex_if (b := decide (n = 6)) (by walk_at "et") (fun _ => ?_) (fun _ => ex_if (b := decide (n = 7)) (by walk_at "et") (fun _ => ?_) (fun _ => ?_))
        · exact ex_call (vs := [v, .int (-1)]) (ea_cons (ev_var rfl) (ea_cons (ev_un ev_c ru_neg) ea_nil)) fun H3 e3 Q => ⟨v, _, rfl, (hv.mono (e12.trans e3)).door (kx.go (e12.trans e3))⟩
        · exact ex_call (vs := [v, .int 0]) (ea_cons (ev_var rfl) (ea_cons ev_c ea_nil)) fun H3 e3 Q => ⟨v, _, rfl, (hv.mono (e12.trans e3)).door (kx.go (e12.trans e3))⟩
        · exact ex_call (vs := [v, .int 0]) (ea_cons (ev_var rfl) (ea_cons ev_c ea_nil)) fun H3 e3 Q => ⟨v, _, rfl, (hv.mono (e12.trans e3)).door (kx.go (e12.trans e3))⟩
    · refine q_when (b := decide ((8 : Int) < 3)) (by walk_at "et") (fun z => by simp at z) fun _ H1 e1 => ?_
      refine q_when (b := decide ((8 : Int) < 6)) (by walk_at "et") (fun z => by simp at z) fun _ H2 e2 => s_retX ?_
      have e12 := e1.trans e2
      refine ex_if (b := decide ((8 : Int) = 6)) (by walk_at "et") (fun z => by simp at z) (fun _ => ex_if (b := decide ((8 : Int) = 7)) (by walk_at "et") (fun z => by simp at z) (fun _ => ?_))
      exact ex_call (vs := [.ref a, .int 0]) (ea_cons (ev_var rfl) (ea_cons ev_c ea_nil)) fun H3 e3 Q => ⟨_, _, rfl, Door.good (ex_l (e12.trans e3) hW) hp (by omega) ⟨hl, fun _ => kx.go (e12.trans e3), fun z => by rw [hf] at z; cases z⟩⟩
def sp_law_with_setting (K : PySem.W.Frag) (C : Cs) : Sp := fun vs H _ E => ∃ (n : Int) (a : Addr) (ws : List Int) (s : V), vs = [.int n, .ref a, s] ∧ RetX C.BadSetting H E ∧ SqL K H a (ws.map V.int) ∧ Pos ws ∧ Sm ws ∧ fits ws = true ∧ SetV K H ws s false
theorem ok_law_with_setting {P : Program} {w : World} {K : PySem.W.Frag} {mg : Str → Option Value} {base : Heap} {C : Cs} (T : Txt K mg C) : Cl P w K mg base (L2N.CX P w) 5 "_law_with_setting" ["_law_ask", "_law_wheels_here", "_law_setting_here"] (sp_law_with_setting K C) := by
  have c_near := ok_near (P := P) (w := w) (base := base) T
  have c_number_of := ok_number_of (P := P) (w := w) (base := base) T
  have c_apart := ok_apart (P := P) (w := w) (base := base) T
  have c_written := ok_written (P := P) (w := w) (base := base) T
  refine clX T.d_law_with_setting sc_law_with_setting (fun vs H Q E h => ?_) (fun f cdv A outer s H vs Q E hr h => ?_)
  · obtain ⟨n, a, ws, s', rfl, kx, hW, hp, hm, hf, hs⟩ := h
    rfl
  · obtain ⟨n, a, ws, s', rfl, kx, hW, hp, hm, hf, hs⟩ := h
    refine ⟨_, (pss_cons (ps_if (pt_cmpR op_lt (pv 0) pe_int (nomark _)) (pss_one (ps_ret (pe_ifExp (pt_cmpR op_eq (pv 0) pe_int (nomark _)) (pe_cl c_near (hr.mono (by decide)) (by rfl) (pass1 (L2N.takes_of rfl rfl rfl rfl)) (pa_cons (pv 1) (pa_cons (pv 2) pa_nil))) (pe_cl c_number_of (hr.mono (by decide)) (by rfl) (pass1 (L2N.takes_of rfl rfl rfl rfl)) (pa_cons (pv 1) (pa_cons (pv 2) pa_nil)))))) pss_nil)
    (pss_cons (ps_if (pt_cmpR op_eq (pv 0) pe_int (nomark _)) (pss_one (ps_ret (pe_cl c_apart (hr.mono (by decide)) (by rfl) (pass1 (L2N.takes_of rfl rfl rfl rfl)) (pa_cons (pv 1) (pa_cons (pv 2) (pa_cons (pe_op op_rep (pe_lst (pa_cons pe_int pa_nil)) (pe_callB (call_lenK (K := K) rfl) (by rfl) T.b_len PySem.boot_len (pa_cons (pv 1) pa_nil))) pa_nil)))))) pss_nil)
    (pss_one (ps_ret (pe_ifExp (pt_cmpR op_eq (pv 0) pe_int (nomark _)) (pe_cl c_apart (hr.mono (by decide)) (by rfl) (pass1 (L2N.takes_of rfl rfl rfl rfl)) (pa_cons (pv 1) (pa_cons (pe_op op_rep (pe_lst (pa_cons pe_int pa_nil)) (pe_callB (call_lenK (K := K) rfl) (by rfl) T.b_len PySem.boot_len (pa_cons (pv 1) pa_nil))) (pa_cons (pv 2) pa_nil)))) (pe_cl c_written (hr.mono (by decide)) (by rfl) (pass1 (L2N.takes_of rfl rfl rfl rfl)) (pa_cons (pv 1) (pa_cons (pv 2) pa_nil)))))))), ?_⟩
    dsimp only [cxOf, L2H.cxH, Cx.nox, Cx.wish, L2.start, List.map_cons, List.map_nil, List.length_cons, List.length_nil, List.cons_append, List.nil_append]
    have hl := hm.len
    have bad : ∀ {H1 : Hp} {good : Addr → List Int → Prop}, Ex H H1 → DoorS K C H1 ws s' E good := fun e => .inl ⟨hs.mono e, kx.go e⟩
    have zs : ∀ {H1 : Hp} {σ : L2.St}, Ex H H1 → σ[1]? = some (some (.ref a)) → EvL (tOp rRep (tLst (tCons (tC (.int 0)) tNil)) (tCB (fun xs H Q => ∃ p ys, xs = [V.ref p] ∧ (SqL K H p ys ∨ SqT K H p ys) ∧ Q (V.int ys.length) H) (tCons (tVar 1) tNil))) σ H1 ((List.replicate ws.length 0).map V.int) := fun {H1 σ} e hσ => by
      rw [← map_rep]
      exact el_rep (x := .int 0) (n := ws.length) (el_lst (ea_cons ev_c ea_nil) (by show 1 ≤ 100000; decide)) (ev_lenI (ev_var hσ) (ex_l e hW)) (by omega)
    have zin : InS ws (List.replicate ws.length 0) := by
      rw [← set_zero hp]
      exact setAt_in 0 hp
    refine q_when (b := decide (n < 2)) (by walk_at "et") (fun _ H1 e1 => s_retX ?_) fun _ H1 e1 => ?_
    · refine ex_if (b := decide (n = 0)) (by walk_at "et") (fun _ => ?_) (fun _ => ?_)
      · exact ex_call (vs := [.ref a, s']) (ea_cons (ev_var rfl) (ea_cons (ev_var rfl) ea_nil)) fun H2 e2 Q => ⟨_, _, rfl, Door.good (ex_l (e1.trans e2) hW) hp (by omega) ⟨by omega, bad (e1.trans e2)⟩⟩
      · exact ex_call (vs := [.ref a, s']) (ea_cons (ev_var rfl) (ea_cons (ev_var rfl) ea_nil)) fun H2 e2 Q => ⟨_, _, rfl, Door.good (ex_l (e1.trans e2) hW) hp (by omega) ⟨hm, bad (e1.trans e2)⟩⟩
    refine q_when (b := decide (n = 2)) (by walk_at "et") (fun _ H2 e2 => s_retX ?_) fun _ H2 e2 => s_retX ?_
    · have e12 := e1.trans e2
      exact ex_callVVL (ev_var rfl) (ev_var rfl) (zs e12 rfl) fun q H3 h3 e3 Q => ⟨_, _, _, rfl, Door.good (ex_l (e12.trans e3) hW) hp (by omega) (bad (e12.trans e3))⟩
    · have e12 := e1.trans e2
      refine ex_if (b := decide (n = 3)) (by walk_at "et") (fun _ => ?_) (fun _ => ?_)
      · exact ex_callVLV (ev_var rfl) (zs e12 rfl) (ev_var rfl) fun q H3 h3 e3 Q => ⟨_, _, _, rfl, Door.good (ex_l (e12.trans e3) hW) hp (by omega) (.inr ⟨q, _, rfl, sq_of h3, zin, bad (e12.trans e3)⟩)⟩
      · exact ex_call (vs := [.ref a, s']) (ea_cons (ev_var rfl) (ea_cons (ev_var rfl) ea_nil)) fun H3 e3 Q => ⟨_, _, rfl, Door.good (ex_l (e12.trans e3) hW) hp (by omega) ⟨by omega, fun z => (by rw [hf] at z; cases z), fun _ => bad (e12.trans e3)⟩⟩
def sp_law_with_number (K : PySem.W.Frag) (C : Cs) : Sp := fun vs H _ E => ∃ (a : Addr) (ws : List Int) (v : V) (kd : Kd), vs = [.ref a, v] ∧ RetX C.BadNumber H E ∧ SqL K H a (ws.map V.int) ∧ Pos ws ∧ Sm ws ∧ Thg K H v kd ∧ numOk (cnt ws) kd = false
theorem ok_law_with_number {P : Program} {w : World} {K : PySem.W.Frag} {mg : Str → Option Value} {base : Heap} {C : Cs} (T : Txt K mg C) : Cl P w K mg base (L2N.CX P w) 4 "_law_with_number" ["_law_wheels_here", "_law_number"] (sp_law_with_number K C) := by
  have c_setting_of := ok_setting_of (P := P) (w := w) (base := base) T
  refine clX T.d_law_with_number sc_law_with_number (fun vs H Q E h => ?_) (fun f cdv A outer s H vs Q E hr h => ?_)
  · obtain ⟨a, ws, v, kd, rfl, kx, hW, hp, hm, hv, hn⟩ := h
    rfl
  · obtain ⟨a, ws, v, kd, rfl, kx, hW, hp, hm, hv, hn⟩ := h
    refine ⟨_, (pss_one (ps_ret (pe_cl c_setting_of (hr.mono (by decide)) (by rfl) (pass1 (L2N.takes_of rfl rfl rfl rfl)) (pa_cons (pv 0) (pa_cons (pv 1) pa_nil))))), ?_⟩
    dsimp only [cxOf, L2H.cxH, Cx.nox, Cx.wish, L2.start, List.map_cons, List.map_nil, List.length_cons, List.length_nil, List.cons_append, List.nil_append]
    have hl := hm.len
    exact s_retX (ex_call (vs := [.ref a, v]) (ea_cons (ev_var rfl) (ea_cons (ev_var rfl) ea_nil)) fun H2 e2 Q => ⟨_, _, rfl, Door.good (ex_l e2 hW) hp (by omega) ⟨hm, kd, hv.mono e2, fun _ => kx.go e2, fun i ei i0 i1 => by rw [numOk_iff.mpr ⟨i, ei, i0, i1⟩] at hn; cases hn⟩⟩)
abbrev dB (ns : List Bool) : PyData := .list (ns.map PyData.bool)
theorem eqv_bool (i j : Bool) : PyData.eqv (.bool i) (.bool j) = (i == j) := by cases i <;> cases j <;> simp [PyData.eqv]
theorem eqvAll_bools : ∀ ns ms : List Bool, PyData.eqvAll (ns.map PyData.bool) (ms.map PyData.bool) = decide (ns = ms)
  | [], [] => by simp [PyData.eqvAll]
  | [], _ :: _ => by simp [PyData.eqvAll]
  | _ :: _, [] => by simp [PyData.eqvAll]
  | n :: ns, m :: ms => by
    rw [List.map_cons, List.map_cons, PyData.eqvAll, eqv_bool, eqvAll_bools ns ms]
    by_cases h : n = m
    · subst h
      simp
    · simp [h]
theorem eqv_dB (ns ms : List Bool) : PyData.eqv (dB ns) (dB ms) = decide (ns = ms) := by
  show PyData.eqv (.list _) (.list _) = _
  rw [PyData.eqv, eqvAll_bools]
theorem can_bools : ∀ ns : List Bool, PyData.canLayAll0 (ns.map PyData.bool) = true
  | [] => by simp [PyData.canLayAll0]
  | n :: ns => by
    rw [List.map_cons, PyData.canLayAll0, can_bools ns]
    simp [PyData.canLay0]
theorem depth_bools : ∀ ns : List Bool, PyData.depthAll (ns.map PyData.bool) = 0
  | [] => by simp [PyData.depthAll]
  | n :: ns => by
    rw [List.map_cons, PyData.depthAll, depth_bools ns]
    simp [PyData.depth]
theorem shaped_dB (ns : List Bool) : SeqAt.shaped (dB ns) = true := by
  unfold SeqAt.shaped
  have h1 : PyData.canLay0 (dB ns) = true := by
    show PyData.canLay0 (.list _) = true
    rw [PyData.canLay0]
    exact can_bools ns
  have h2 : PyData.depth (dB ns) = 1 := by
    show PyData.depth (.list _) = 1
    rw [PyData.depth, depth_bools]
  rw [h1, h2]
  rfl
section
variable {K : PySem.W.Frag} {H : Hp} {p q : Addr} {ns ms : List Bool}
theorem dpAll_bools : ∀ ns : List Bool, DpAll K H (ns.map V.bl) (ns.map PyData.bool)
  | [] => .nil
  | n :: ns => .cons (.bl n) (dpAll_bools ns)
theorem dp_bools (h : SqL K H p (ns.map V.bl)) : Dp K H (.ref p) (dB ns) := .lst h (dpAll_bools ns)
theorem rv_neDB (h1 : SqL K H p (ns.map V.bl)) (h2 : SqL K H q (ms.map V.bl)) : RV (rNeD K) (.ref p) (.ref q) H (.bl (!decide (ns = ms))) := fun H1 e _ k =>
  ⟨dB ns, dB ms, dp_bools (ex_l e h1), dp_bools (ex_l e h2), shaped_dB ns, shaped_dB ms, by rw [eqv_dB]; exact k H1 (Ex.refl H1)⟩
theorem rv_eqDB (h1 : SqL K H p (ns.map V.bl)) (h2 : SqL K H q (ms.map V.bl)) : RV (rEqD K) (.ref p) (.ref q) H (.bl (decide (ns = ms))) := fun H1 e _ k =>
  ⟨dB ns, dB ms, dp_bools (ex_l e h1), dp_bools (ex_l e h2), shaped_dB ns, shaped_dB ms, by rw [eqv_dB]; exact k H1 (Ex.refl H1)⟩
end
/-! ### told -/
theorem spl_kinds {K : PySem.W.Frag} {C : Cs} {a : Addr} {i : Nat} {H : Hp} (hi : i < 4) : SpL (sp_law_kinds K C a (.ref (clsOf C i)) none) [.ref a] H ((dueB i).map V.bl) :=
  fun H1 e Q q E => ⟨rfl, i, hi, rfl, rfl, fun p H2 hp e2 h2 => q p H2 hp e2 h2⟩
def Asked (K : PySem.W.Frag) (C : Cs) (H : Hp) (f : Addr) (x y : V) (i : Nat) : Prop :=
  (f = C.a__law_with_wheels ∧ Rs (sp_law_with_wheels K C) [x, y] H (clsOf C i)) ∨ (f = C.a__law_with_number ∧ Rs (sp_law_with_number K C) [x, y] H (clsOf C i)) ∨
  (f = C.a_ring_setting ∧ Rs (sp_ring_setting K C) [x, y] H (clsOf C i)) ∨ f = C.a_ring_number ∧ Rs (sp_ring_number K C) [x, y] H (clsOf C i)
theorem Asked.mono {K : PySem.W.Frag} {C : Cs} {H H' : Hp} {f : Addr} {x y : V} {i : Nat} (h : Asked K C H f x y i) (e : Ex H H') : Asked K C H' f x y i := by
  rcases h with ⟨a, b⟩ | ⟨a, b⟩ | ⟨a, b⟩ | ⟨a, b⟩
  · exact .inl ⟨a, b.mono e⟩
  · exact .inr (.inl ⟨a, b.mono e⟩)
  · exact .inr (.inr (.inl ⟨a, b.mono e⟩))
  · exact .inr (.inr (.inr ⟨a, b.mono e⟩))
def sp_law_told (K : PySem.W.Frag) (C : Cs) : Sp := fun vs H Q _ => ∃ (f : Addr) (x y : V) (i : Nat), vs = [.ref f, x, y] ∧ i < 4 ∧ Asked K C H f x y i ∧ RetL ((dueB i).map V.bl) H Q
theorem spl_told {K : PySem.W.Frag} {C : Cs} {H : Hp} {f : Addr} {x y : V} {i : Nat} (hi : i < 4) (h : Asked K C H f x y i) : SpL (sp_law_told K C) [.ref f, x, y] H ((dueB i).map V.bl) :=
  fun H1 e Q q E => ⟨f, x, y, i, rfl, hi, h.mono e, fun p H2 hp e2 h2 => q p H2 hp e2 h2⟩
theorem ok_law_told {P : Program} {w : World} {K : PySem.W.Frag} {mg : Str → Option Value} {base : Heap} {C : Cs} (T : Txt K mg C) : Cl P w K mg base CX0 6 "_law_told" ["_law_ask", "_law_one", "_law_other"] (sp_law_told K C) := by
  have c_ring_number := ok_ring_number (P := P) (w := w) (base := base) T
  have c_ring_setting := ok_ring_setting (P := P) (w := w) (base := base) T
  have c_law_with_number := ok_law_with_number (P := P) (w := w) (base := base) T
  have c_law_with_wheels := ok_law_with_wheels (P := P) (w := w) (base := base) T
  have c_law_kinds := ok_law_kinds (P := P) (w := w) (base := base) T
  refine cl0 T.d_law_told sc_law_told (fun vs H Q E h => ?_) (fun f cdv A outer s H vs Q E hr h => ?_)
  · obtain ⟨f', x, y, i, rfl, hi, hA, k⟩ := h
    rfl
  · obtain ⟨f', x, y, i, rfl, hi, hA, k⟩ := h
    refine ⟨_, (pss_cons (L2N.ps_try_as (Wout := fun _ _ _ _ => False) rfl rfl sc_law_told.nd (i := 3) rfl rfl ⟨by rfl, by decide, .inl T.g_WheelError⟩ takes_no (fun W pn xe tk po => (pss_one (ps_expr (PE.or (pe_callLS (i := 0) (E := WE W) c_law_with_wheels T.a__law_with_wheels (hr.mono (by decide)) rfl (.inl rfl) (fun σ => L2N.passAt tk σ) (pa_cons (pv 1) (pa_cons (pv 2) pa_nil))) (PE.or (pe_callLS (i := 0) (E := WE W) c_law_with_number T.a__law_with_number (hr.mono (by decide)) rfl (.inl rfl) (fun σ => L2N.passAt tk σ) (pa_cons (pv 1) (pa_cons (pv 2) pa_nil))) (PE.or (pe_callLS (i := 0) (E := WE W) c_ring_setting T.a_ring_setting (hr.mono (by decide)) rfl (.inl rfl) (fun σ => L2N.passAt tk σ) (pa_cons (pv 1) (pa_cons (pv 2) pa_nil))) (pe_callLS (i := 0) (E := WE W) c_ring_number T.a_ring_number (hr.mono (by decide)) rfl (.inl rfl) (fun σ => L2N.passAt tk σ) (pa_cons (pv 1) (pa_cons (pv 2) pa_nil))))))))) (fun a oe cls d pn hz hf => (pss_one (ps_ret (pe_clP (a := a) (oe := oe) (cls := cls) (d := d) c_law_kinds (roomP (hr.mono (by decide))) List.mem_cons_self (hot1_suite hz hf) hz.zc hf (by rfl) (pa_cons (pv 3) pa_nil))))))
    (pss_one (ps_ret (pe_lst pa_nil)))), ?_⟩
    dsimp only [cxOf, L2H.cxH, Cx.nox, Cx.wish, L2.start, List.map_cons, List.map_nil, List.length_cons, List.length_nil, List.cons_append, List.nil_append]
    have ea : EvA (tCons (tVar 1) (tCons (tVar 2) tNil)) (List.map some [V.ref f', x, y] ++ List.replicate 1 none) H [x, y] := ea_cons (ev_var rfl) (ea_cons (ev_var rfl) ea_nil)
    rcases hA with ⟨rfl, hR⟩ | ⟨rfl, hR⟩ | ⟨rfl, hR⟩ | ⟨rfl, hR⟩
    · refine .inl ⟨rfl, ?_⟩
      refine ea H (Ex.refl H) _ fun H1 e1 => hR H1 e1 _ _ fun H2 e2 => ⟨true, exm_i T hi, fun _ xa hxa => ?_, fun z => nomatch z⟩
      exact s_retL (el_call (ea_cons (ev_var rfl) ea_nil) (spl_kinds hi)) (RetL.mono k (e1.trans e2))
    · refine .inr (.inl ⟨rfl, ?_⟩)
      refine ea H (Ex.refl H) _ fun H1 e1 => hR H1 e1 _ _ fun H2 e2 => ⟨true, exm_i T hi, fun _ xa hxa => ?_, fun z => nomatch z⟩
      exact s_retL (el_call (ea_cons (ev_var rfl) ea_nil) (spl_kinds hi)) (RetL.mono k (e1.trans e2))
    · refine .inr (.inr (.inl ⟨rfl, ?_⟩))
      refine ea H (Ex.refl H) _ fun H1 e1 => hR H1 e1 _ _ fun H2 e2 => ⟨true, exm_i T hi, fun _ xa hxa => ?_, fun z => nomatch z⟩
      exact s_retL (el_call (ea_cons (ev_var rfl) ea_nil) (spl_kinds hi)) (RetL.mono k (e1.trans e2))
    · refine .inr (.inr (.inr ⟨rfl, ?_⟩))
      refine ea H (Ex.refl H) _ fun H1 e1 => hR H1 e1 _ _ fun H2 e2 => ⟨true, exm_i T hi, fun _ xa hxa => ?_, fun z => nomatch z⟩
      exact s_retL (el_call (ea_cons (ev_var rfl) ea_nil) (spl_kinds hi)) (RetL.mono k (e1.trans e2))
theorem q_callS {σ : L2.St} {H : Hp} {D : Ends} {tz : TS} {ta : TA} {vs : List V} {sp : Sp} {E : L2.St → XK} (h : EvA ta σ H vs) (k : ∀ H1, Ex H H1 → ∀ Q : VK, sp vs H1 Q (E σ)) : tSeq (tDrop (tCallS sp E ta)) tz D σ H := h H (Ex.refl H) _ fun H1 e1 => k H1 e1 _
def sp_law_settings_refused (K : PySem.W.Frag) (C : Cs) : Sp := fun vs H Q _ => ∃ (a l d : Addr) (s : V) (ws : List Int) (xs : List V), vs = [.ref a, s, .ref l, .ref d] ∧ SqL K H a (ws.map V.int) ∧ Pos ws ∧ Sm ws ∧ fits ws = true ∧ SqL K H l xs ∧ (∀ x ∈ xs, SetV K H ws x false) ∧ SqL K H d ((dueB 1).map V.bl) ∧ RetV (.bl true) H Q
theorem ok_law_settings_refused {P : Program} {w : World} {K : PySem.W.Frag} {mg : Str → Option Value} {base : Heap} {C : Cs} (T : Txt K mg C) : Cl P w K mg base CX0 6 "_law_settings_refused" ["_law_wheels_here", "_law_setting_here", "_law_bad", "_law_due"] (sp_law_settings_refused K C) := by
  have c_law_with_setting := ok_law_with_setting (P := P) (w := w) (base := base) T
  have c_law_kinds := ok_law_kinds (P := P) (w := w) (base := base) T
  refine cl0 T.d_law_settings_refused sc_law_settings_refused (fun vs H Q E h => ?_) (fun f cdv A outer s H vs Q E hr h => ?_)
  · obtain ⟨a', l, dd, s', ws, xs, rfl, hW, hp, hm, hf, hL, hX, hD, k⟩ := h
    rfl
  · obtain ⟨a', l, dd, s', ws, xs, rfl, hW, hp, hm, hf, hL, hX, hD, k⟩ := h
    refine ⟨_, (pss_cons (ps_for PassesOwn.never rfl (pi_range1 (by rfl) T.b_range (pa_cons pe_int pa_nil)) (pg_name (i := 4) sc_law_settings_refused.nd rfl (.inl rfl))
    (pss_one (ps_for PassesOwn.never rfl (pi_listK (K := K) rfl (pv 2)) (pg_name (i := 5) sc_law_settings_refused.nd rfl (.inl rfl))
    (pss_one (L2N.ps_try_as (Wout := fun _ _ _ _ => False) rfl rfl sc_law_settings_refused.nd (i := 6) rfl rfl ⟨by rfl, by decide, .inl T.g_WheelError⟩ takes_no (fun W pn xe tk po => (pss_cons (ps_expr (pe_clS (E := WE W) c_law_with_setting (hr.mono (by decide)) (by rfl) (fun σ => L2N.passAt tk σ) (pa_cons (pv 4) (pa_cons (pv 0) (pa_cons (pv 5) pa_nil)))))
    (pss_one (ps_ret pe_bl)))) (fun a oe cls d pn hz hf => (pss_one (ps_if (pt_cmpR (op_neDK (K := K) rfl hr.units) (pe_clP (a := a) (oe := oe) (cls := cls) (d := d) c_law_kinds (roomP (hr.mono (by decide))) List.mem_cons_self (hot1_suite hz hf) hz.zc hf (by rfl) (pa_cons (pv 6) pa_nil)) (pv 3) (nomark _)) (pss_one (ps_ret pe_bl)) pss_nil))))))))
    (pss_one (ps_ret pe_bl))), ?_⟩
    dsimp only [cxOf, L2H.cxH, Cx.nox, Cx.wish, L2.start, List.map_cons, List.map_nil, List.length_cons, List.length_nil, List.cons_append, List.nil_append]
    refine q_forR1 (n := 5) (ea_cons ev_c ea_nil) (by decide) (fun i σ' H' => ∃ v4 v5, σ' = [some (.ref a'), some s', some (.ref l), some (.ref dd), v4, v5, none] ∧ Ex H H') (fun H1 e1 => ⟨none, none, rfl, e1⟩) ?_ ?_
    · rintro i σ' H1 hi ⟨v4, v5, rfl, e1⟩
      refine s_forLn (K := K) (a := l) (xs := xs) (ev_var rfl) (ex_l e1 hL) (fun j σ' H' => ∃ v5, σ' = [some (.ref a'), some s', some (.ref l), some (.ref dd), some (.int (i : Int)), v5, none] ∧ Ex H H') (fun H2 e2 => ⟨v5, rfl, e1.trans e2⟩) (fun j σ' H' _ ⟨_, _, e⟩ => ex_l e hL) ?_ ?_
      · rintro j x σ' H2 hx ⟨v5, rfl, e2⟩
        have hxv := hX x (List.mem_of_getElem? hx)
        refine q_callS (vs := [.int (i : Int), .ref a', x]) (ea_cons (ev_var rfl) (ea_cons (ev_var rfl) (ea_cons (ev_var rfl) ea_nil))) fun H3 e3 Q => ?_
        have e03 := e2.trans e3
        refine ⟨_, a', ws, x, rfl, fun H4 e4 => ⟨true, exm_i (i := 1) T (by decide), fun _ xa hxa => ?_, fun z => nomatch z⟩, ex_l e03 hW, hp, hm, hf, hxv.mono e03⟩
        have e04 := e03.trans e4
        exact s_when (b := !decide (dueB 1 = dueB 1)) (et_test (ev_opLS (el_call (ea_cons (ev_var rfl) ea_nil) (spl_kinds (by decide))) (ev_var rfl) fun q H5 hq5 e5 => rv_neDB (sq_of hq5) (ex_l (e04.trans e5) hD))) (fun z => by simp at z) fun _ H5 e5 => ⟨_, rfl, e04.trans e5⟩
      · rintro σ' H2 ⟨v5, rfl, e2⟩
        exact ⟨_, _, rfl, e2⟩
    · rintro σ' H1 ⟨v4, v5, rfl, e1⟩
      exact s_ret ev_c fun H2 e2 => k H2 (e1.trans e2)
/-! ### mixed values: each has a property that stays as the heap grows -/
section
variable {K : PySem.W.Frag} {P P' : Hp → V → Prop} {σ : L2.St} {H H' : Hp} {te : TE} {ta tr : TA} {v : V} {xs : List V} {n : Nat} {D : Ends} {tu tz : TS}
def EvP (P : Hp → V → Prop) (te : TE) (σ : L2.St) (H : Hp) : Prop := ∀ H1, Ex H H1 → ∀ Q : VK, (∀ v H2, Ex H1 H2 → P H2 v → Q v H2) → te σ H1 Q
def EvAP (P : Hp → V → Prop) (ta : TA) (σ : L2.St) (H : Hp) (n : Nat) : Prop := ∀ H1, Ex H H1 → ∀ Q : List V → Hp → Prop, (∀ vs H2, Ex H1 H2 → vs.length = n → (∀ v ∈ vs, P H2 v) → Q vs H2) → ta σ H1 Q
def Grows (P : Hp → V → Prop) : Prop := ∀ H H' v, Ex H H' → P H v → P H' v
theorem ep_val (h : Ev te σ H v) (hv : ∀ H1, Ex H H1 → P H1 v) : EvP P te σ H := fun H1 e Q q => h H1 e _ fun H2 e2 => q v H2 e2 (hv H2 (e.trans e2))
theorem ep_lst (h : EvL te σ H xs) (hv : ∀ p H1, Ex H H1 → H1 p = some (.lst xs) → P H1 (.ref p)) : EvP P te σ H := fun H1 e Q q => h H1 e _ fun p H2 _ e2 h2 => q _ H2 e2 (hv p H2 (e.trans e2) h2)
theorem ep_tup (h : EvU te σ H xs) (hv : ∀ p H1, Ex H H1 → H1 p = some (.tup xs) → P H1 (.ref p)) : EvP P te σ H := fun H1 e Q q => h H1 e _ fun p H2 _ e2 h2 => q _ H2 e2 (hv p H2 (e.trans e2) h2)
theorem eap_nil : EvAP P tNil σ H 0 := fun H1 _ _ q => q [] H1 (Ex.refl H1) rfl (fun _ hv => by cases hv)
theorem eap_cons (hm : Grows P) (h : EvP P te σ H) (hr : EvAP P tr σ H n) : EvAP P (tCons te tr) σ H (n + 1) := fun H1 e Q q =>
  h H1 e _ fun v H2 e2 hv => hr H2 (e.trans e2) _ fun vs H3 e3 hn hvs => q _ H3 (e2.trans e3) (by rw [List.length_cons, hn]) fun w hw => by
    rcases List.mem_cons.mp hw with rfl | hw
    · exact hm _ _ _ e3 hv
    · exact hvs w hw
theorem ep_nest (h : EvAP P' ta σ H n) (hg : Grows P') (hz : n ≤ 1000) (hv : ∀ p ys H1, Ex H H1 → H1 p = some (.lst ys) → ys.length = n → (∀ v ∈ ys, P' H1 v) → P H1 (.ref p)) : EvP P (tLst ta) σ H := fun H1 e Q q =>
  h H1 e _ fun vs H2 e2 hn hvs => ⟨by rw [hn]; exact Nat.le_trans hz (by decide), fun p hp => q _ _ (e2.trans (Ex.new hp)) (hv p vs _ ((e.trans e2).trans (Ex.new hp)) upd_same hn fun w hw => hg _ _ _ (Ex.new hp) (hvs w hw))⟩
theorem q_asgAP {i : Nat} (h : EvAP P ta σ H n) (hg : Grows P) (hz : n ≤ 1000) (k : ∀ p vs H1, H p = none → Ex H H1 → H1 p = some (.lst vs) → vs.length = n → (∀ v ∈ vs, P H1 v) → tz D (σ.set i (some (.ref p))) H1) : tSeq (tAsg (tLst ta) (gName i)) tz D σ H :=
  h H (Ex.refl H) _ fun vs H1 e hn hv => ⟨by rw [hn]; exact Nat.le_trans hz (by decide), fun p hp => k p vs _ (fresh_back e hp) (e.trans (Ex.new hp)) upd_same hn fun w hw => hg _ _ _ (Ex.new hp) (hv w hw)⟩
/-- .. the items' properties hold of the heap without the list itself, which may grow -/
theorem q_asgAPd {i : Nat} (h : EvAP P ta σ H n) (hz : n ≤ 1000) (k : ∀ p vs H1, H p = none → Ex H H1 → H1 p = some (.lst vs) → vs.length = n → (∀ v ∈ vs, P (delH H1 p) v) → tz D (σ.set i (some (.ref p))) H1) : tSeq (tAsg (tLst ta) (gName i)) tz D σ H :=
  h H (Ex.refl H) _ fun vs H1 e hn hv => ⟨by rw [hn]; exact Nat.le_trans hz (by decide), fun p hp => k p vs _ (fresh_back e hp) (e.trans (Ex.new hp)) upd_same hn (by rw [delH_new hp]; exact hv)⟩
theorem ex_del {p : Addr} (e : Ex H H') : Ex (delH H p) (delH H' p) := fun b o hb => by
  by_cases c : b = p
  · rw [c, delH_same] at hb
    cases hb
  · rw [delH_ne c] at hb ⊢
    exact e b o hb
theorem del_ex {p : Addr} : Ex (delH H p) H := fun b o hb => by
  by_cases c : b = p
  · rw [c, delH_same] at hb
    cases hb
  · rw [delH_ne c] at hb
    exact hb
theorem del_upd {p : Addr} {o : HO} : delH (upd H p o) p = delH H p := by
  funext b
  by_cases c : b = p
  · rw [c, delH_same, delH_same]
  · rw [delH_ne c, delH_ne c, upd_ne c]
theorem q_parL {i j : Nat} {tb : TE} {w : V} (ha : EvL te σ H xs) (hb : Ev tb σ H w) (k : ∀ p H1, H p = none → Ex H H1 → H1 p = some (.lst xs) → tz D ((σ.set i (some (.ref p))).set j (some w)) H1) : tSeq (tPar i j (tCons te (tCons tb tNil))) tz D σ H :=
  ha H (Ex.refl H) _ fun p H1 hp e1 h1 => hb H1 e1 _ fun H2 e2 => ⟨_, _, rfl, k p H2 hp (e1.trans e2) (e2 _ _ h1)⟩
theorem q_forTP {j : Nat} (h : EvAP P ta σ H n) (hg : Grows P) (hz : n ≤ 1000) (k : ∀ p H1, H p = none → Ex H H1 → ∃ Pv : Nat → L2.St → Hp → Prop, Pv 0 σ H1 ∧ (∀ i σ' H', Pv i σ' H' → Ex H1 H') ∧
    (∀ i x σ' H', P H' x → Pv i σ' H' → tu { D with nx := Pv (i + 1), ct := Pv (i + 1), bk := tz D } (σ'.set j (some x)) H') ∧ ∀ σ' H', Pv n σ' H' → tz D σ' H') : tSeq (tFor (iTup K (tTup ta)) (gName j) tu) tz D σ H :=
  h H (Ex.refl H) _ fun vs H1 e hn hv => ⟨by rw [hn]; exact Nat.le_trans hz (by decide), fun p hp => by
    obtain ⟨Pv, h0, hl, hs, hd⟩ := k p _ (fresh_back e hp) (e.trans (Ex.new hp))
    exact ⟨p, rfl, ⟨vs, st_of upd_same⟩, for_tup (D := { D with nx := tz D }) Pv h0 (fun i σ' H' _ q => st_of (hl i σ' H' q p _ upd_same)) (fun i x σ' H' hx q => hs i x σ' H' (hg _ _ _ ((Ex.new hp).trans (hl i σ' H' q)) (hv x (List.mem_of_getElem? hx))) q) (fun σ' H' q => hd σ' H' (by rw [← hn]; exact q))⟩⟩
end
/-- the four rows of what is due -/
def DueAt (K : PySem.W.Frag) (H : Hp) (d : Addr) : Prop := ∃ r0 r1 r2 r3 : Addr, SqL K H d [.ref r0, .ref r1, .ref r2, .ref r3] ∧ SqL K H r0 ((dueB 0).map V.bl) ∧ SqL K H r1 ((dueB 1).map V.bl) ∧ SqL K H r2 ((dueB 2).map V.bl) ∧ SqL K H r3 ((dueB 3).map V.bl)
theorem DueAt.mono {K : PySem.W.Frag} {H H' : Hp} {d : Addr} (h : DueAt K H d) (e : Ex H H') : DueAt K H' d := by
  obtain ⟨r0, r1, r2, r3, h, a, b, c, f⟩ := h
  exact ⟨r0, r1, r2, r3, ex_l e h, ex_l e a, ex_l e b, ex_l e c, ex_l e f⟩
theorem DueAt.row {K : PySem.W.Frag} {H : Hp} {d : Addr} (h : DueAt K H d) {i : Nat} (hi : i < 4) : ∃ r : Addr, SqL K H r ((dueB i).map V.bl) ∧ RV (rIxL K) (.ref d) (.int (i : Int)) H (.ref r) := by
  obtain ⟨r0, r1, r2, r3, h, a, b, c, f⟩ := h
  match i, hi with
  | 0, _ => exact ⟨r0, a, rv_ixL h (atI_nat rfl)⟩
  | 1, _ => exact ⟨r1, b, rv_ixL h (atI_nat rfl)⟩
  | 2, _ => exact ⟨r2, c, rv_ixL h (atI_nat rfl)⟩
  | 3, _ => exact ⟨r3, f, rv_ixL h (atI_nat rfl)⟩
/-- told(f, x, y) != due[i]: never -/
theorem et_told {K : PySem.W.Frag} {C : Cs} {H : Hp} {σ : L2.St} {E : XK} {ta : TA} {td : TE} {f d : Addr} {x y : V} {i : Nat} (hi : i < 4) (ha : EvA ta σ H [.ref f, x, y]) (hA : Asked K C H f x y i) (hd : Ev td σ H (.ref d)) (hD : DueAt K H d) :
    EvT (tTest (tOp (rNeD K) (tCall (sp_law_told K C) [] E ta) (tOp (rIxL K) td (tC (.int (i : Int)))))) σ H false := by
  obtain ⟨r, hr, hx⟩ := hD.row hi
  refine et_test (ev_to (ev_opLS (el_call ha (spl_told hi hA)) (ev_op hd ev_c hx) fun q H1 hq e => rv_neDB (sq_of hq) (ex_l e hr)) ?_)
  rw [decide_eq_true rfl]
  rfl
/-- the same, x a new list -/
theorem et_toldL {K : PySem.W.Frag} {C : Cs} {H : Hp} {σ : L2.St} {E : XK} {ta tb tc td : TE} {f d : Addr} {xs : List V} {y : V} {i : Nat} (hi : i < 4) (ha : Ev ta σ H (.ref f)) (hb : EvL tb σ H xs) (hc : Ev tc σ H y) (hA : ∀ p H1, H1 p = some (.lst xs) → Ex H H1 → Asked K C H1 f (.ref p) y i) (hd : Ev td σ H (.ref d)) (hD : DueAt K H d) :
    EvT (tTest (tOp (rNeD K) (tCall (sp_law_told K C) [] E (tCons ta (tCons tb (tCons tc tNil)))) (tOp (rIxL K) td (tC (.int (i : Int)))))) σ H false := by
  obtain ⟨r, hr, hx⟩ := hD.row hi
  have el : EvL (tCall (sp_law_told K C) [] E (tCons ta (tCons tb (tCons tc tNil)))) σ H ((dueB i).map V.bl) := fun H1 e Q k =>
    ha H1 e _ fun H2 e2 => hb H2 (e.trans e2) _ fun p H3 hp e3 h3 => hc H3 ((e.trans e2).trans e3) _ fun H4 e4 =>
      spl_told hi (hA p H4 (e4 _ _ h3) (((e.trans e2).trans e3).trans e4)) H4 (Ex.refl H4) Q (fun l H5 hl e5 h5 => k l H5 (fresh_back ((e2.trans e3).trans e4) hl) (((e2.trans e3).trans e4).trans e5) h5) E
  refine et_test (ev_to (ev_opLS el (ev_op hd ev_c hx) fun q H1 hq e => rv_neDB (sq_of hq) (ex_l e hr)) ?_)
  rw [decide_eq_true rfl]
  rfl
def BadN (K : PySem.W.Frag) (m : Int) (H : Hp) (v : V) : Prop := ∃ kd, Thg K H v kd ∧ numOk m kd = false
theorem badN_grows {K : PySem.W.Frag} {m : Int} : Grows (BadN K m) := fun _ _ _ e ⟨kd, h, n⟩ => ⟨kd, h.mono e, n⟩
theorem badS_grows {K : PySem.W.Frag} {ws : List Int} : Grows (fun H v => SetV K H ws v false) := fun _ _ _ e h => h.mono e
theorem badW_grows {K : PySem.W.Frag} : Grows (BadW K) := fun _ _ _ e h => h.mono e
/-- wheels without a ring -/
def NoR (K : PySem.W.Frag) (H : Hp) (v : V) : Prop := ∃ (a : Addr) (ws : List Int), v = .ref a ∧ SqL K H a (ws.map V.int) ∧ Pos ws ∧ Sm ws ∧ aroundB ws = false
theorem noR_grows {K : PySem.W.Frag} : Grows (NoR K) := fun _ _ _ e ⟨a, ws, h1, h2, h3⟩ => ⟨a, ws, h1, ex_l e h2, h3⟩
theorem NoR.set {K : PySem.W.Frag} {C : Cs} {H : Hp} {v y : V} (h : NoR K H v) : Asked K C H C.a_ring_setting v y 3 := by
  obtain ⟨a, ws, rfl, hW, hp, hm, hn⟩ := h
  have hl := hm.len
  exact .inr (.inr (.inl ⟨rfl, fun H1 e Q E r => ⟨_, _, rfl, Door.good (ex_l e hW) hp (by omega) ⟨hm, fun _ => r, fun z => by rw [hn] at z; cases z⟩⟩⟩))
theorem NoR.num {K : PySem.W.Frag} {C : Cs} {H : Hp} {v y : V} (h : NoR K H v) : Asked K C H C.a_ring_number v y 3 := by
  obtain ⟨a, ws, rfl, hW, hp, hm, hn⟩ := h
  have hl := hm.len
  exact .inr (.inr (.inr ⟨rfl, fun H1 e Q E r => ⟨_, _, rfl, Door.good (ex_l e hW) hp (by omega) ⟨hm, fun _ => r, fun z => by rw [hn] at z; cases z⟩⟩⟩))
theorem ring32 : aroundB [3, 2] = true := by decide +kernel
theorem pos32 : Pos [3, 2] := by
  show ∀ w ∈ ([3, 2] : List Int), (1 : Int) ≤ w
  decide
theorem sm32 : Sm [3, 2] := ⟨by decide, by decide, by decide⟩
theorem ep_noR {K : PySem.W.Frag} {σ : L2.St} {H : Hp} {te : TE} {ws : List Int} (h : EvL te σ H (ws.map V.int)) (hp : Pos ws) (hm : Sm ws) (hn : aroundB ws = false) : EvP (NoR K) te σ H := ep_lst h fun p H1 _ hp1 => ⟨p, ws, rfl, sq_of hp1, hp, hm, hn⟩
theorem posL {ws : List Int} (h : ∀ w ∈ ws, (1 : Int) ≤ w) : Pos ws := h
theorem smL {ws : List Int} (h : ws.length ≤ 200) (h1 : ∀ w ∈ ws, (1 : Int) ≤ w) (h2 : ∀ w ∈ ws, w < 2 ^ 250) : Sm ws := ⟨h, fun w hw => by have := h1 w hw; omega, h2⟩
theorem odd_ring {f : Int} (h0 : 0 ≤ f) : aroundB [3, 1, 5 + f * 2] = false := by
  have e : cnt [3, 1, 5 + f * 2] = 3 * (1 * ((5 + f * 2) * 1)) := rfl
  unfold aroundB
  rw [e, decide_eq_false (show ¬ 3 * (1 * ((5 + f * 2) * 1)) % 2 = 0 by omega), Bool.and_false]
def sp_law_rings_right (K : PySem.W.Frag) (_ : Cs) : Sp := fun vs H Q _ => ∃ (d : Addr) (f : Int), vs = [.ref d, .int f] ∧ DueAt K H d ∧ 0 ≤ f ∧ f < 1000000 ∧ RetV (.bl true) H Q
theorem spv_rings {K : PySem.W.Frag} {C : Cs} {H : Hp} {d : Addr} {f : Int} (h : DueAt K H d) (h0 : 0 ≤ f) (h1 : f < 1000000) : SpV (sp_law_rings_right K C) [.ref d, .int f] H (.bl true) := fun H1 e Q q E => ⟨d, f, rfl, h.mono e, h0, h1, q⟩
theorem bn_of {K : PySem.W.Frag} {m : Int} {H : Hp} {v : V} {kd : Kd} (h : Thg K H v kd) (n : numOk m kd = false) : BadN K m H v := ⟨kd, h, n⟩
theorem bn_int {K : PySem.W.Frag} {m i : Int} {H : Hp} (h : i < 0 ∨ m ≤ i) : BadN K m H (.int i) := ⟨_, .int i, by
  show (decide (0 ≤ i) && decide (i < m)) = false
  rcases h with h | h
  · rw [decide_eq_false (by omega)]; rfl
  · rw [decide_eq_false (show ¬ i < m by omega), Bool.and_false]⟩
theorem bs_kd {K : PySem.W.Frag} {ws : List Int} {H : Hp} {v : V} {kd : Kd} (h : Thg K H v kd) (n : kd.isList = false) : SetV K H ws v false := .inl ⟨kd, h, n, rfl⟩
theorem bs_lst {K : PySem.W.Frag} {ws : List Int} {H : Hp} {p : Addr} {xs : List V} {ks : List Kd} (h : H p = some (.lst xs)) (ht : Thgs K H xs ks) (hl : xs.length ≤ 40000) (hn : setOk ws ks = false) : SetV K H ws (.ref p) false := .inr ⟨p, xs, ks, rfl, sq_of h, ht, hl, hn.symm⟩
theorem ok_law_rings_right {P : Program} {w : World} {K : PySem.W.Frag} {mg : Str → Option Value} {base : Heap} {C : Cs} (T : Txt K mg C) : Cl P w K mg base CX0 7 "_law_rings_right" ["_law_due", "_law_far_here"] (sp_law_rings_right K C) := by
  have c_law_told := ok_law_told (P := P) (w := w) (base := base) T
  refine cl0 T.d_law_rings_right sc_law_rings_right (fun vs H Q E h => ?_) (fun f cdv A outer s H vs Q E hr h => ?_)
  · obtain ⟨d, f, rfl, hD, h0, h1, k⟩ := h
    rfl
  · obtain ⟨d, f, rfl, hD, h0, h1, k⟩ := h
    refine ⟨_, (pss_cons (ps_for PassesOwn.never rfl (pi_tupK (K := K) rfl (pe_tup (pa_cons (pe_lst pa_nil) (pa_cons (pe_lst (pa_cons pe_int pa_nil)) (pa_cons (pe_lst (pa_cons pe_int pa_nil)) (pa_cons (pe_lst (pa_cons pe_int (pa_cons pe_int pa_nil))) (pa_cons (pe_lst (pa_cons pe_int (pa_cons pe_int pa_nil))) (pa_cons (pe_lst (pa_cons pe_int (pa_cons pe_int (pa_cons pe_int pa_nil)))) (pa_cons (pe_lst (pa_cons pe_int (pa_cons pe_int (pa_cons (pe_op op_add pe_int (pe_op op_mulA (pv 1) pe_int)) pa_nil)))) pa_nil))))))))) (pg_name (i := 2) sc_law_rings_right.nd rfl (.inl rfl))
    (pss_one (ps_if (PW.pt (pw_or (pt_cmpR (op_neDK (K := K) rfl hr.units) (pe_cl c_law_told (hr.mono (by decide)) (by rfl) pass0 (pa_cons (pe_gv T.a_ring_setting (by rfl)) (pa_cons (pv 2) (pa_cons pe_non pa_nil)))) (pe_ix (ix_listK (K := K) rfl) (pv 0) pe_int (fun _ _ => rfl)) (nomark _)) (pw_or1 (pt_cmpR (op_neDK (K := K) rfl hr.units) (pe_cl c_law_told (hr.mono (by decide)) (by rfl) pass0 (pa_cons (pe_gv T.a_ring_number (by rfl)) (pa_cons (pv 2) (pa_cons pe_non pa_nil)))) (pe_ix (ix_listK (K := K) rfl) (pv 0) pe_int (fun _ _ => rfl)) (nomark _))))) (pss_one (ps_ret pe_bl)) pss_nil)))
    (pss_cons (ps_for PassesOwn.never rfl (pi_tupK (K := K) rfl (pe_tup (pa_cons pe_non (pa_cons pe_str (pa_cons pe_bl (pa_cons (pe_lst (pa_cons pe_int pa_nil)) (pa_cons (pe_un un_neg pe_int) (pa_cons (pe_op op_sub (pe_un un_neg pe_int) (pv 1)) (pa_cons pe_int (pa_cons (pe_op op_add pe_int (pv 1)) pa_nil)))))))))) (pg_name (i := 3) sc_law_rings_right.nd rfl (.inl rfl))
    (pss_one (ps_if (pt_cmpR (op_neDK (K := K) rfl hr.units) (pe_cl c_law_told (hr.mono (by decide)) (by rfl) pass0 (pa_cons (pe_gv T.a_ring_setting (by rfl)) (pa_cons (pe_lst (pa_cons pe_int (pa_cons pe_int pa_nil))) (pa_cons (pv 3) pa_nil)))) (pe_ix (ix_listK (K := K) rfl) (pv 0) pe_int (fun _ _ => rfl)) (nomark _)) (pss_one (ps_ret pe_bl)) pss_nil)))
    (pss_cons (ps_for PassesOwn.never rfl (pi_tupK (K := K) rfl (pe_tup (pa_cons pe_non (pa_cons (pe_tup (pa_cons pe_int (pa_cons pe_int pa_nil))) (pa_cons (pe_lst (pa_cons pe_int pa_nil)) (pa_cons (pe_lst (pa_cons pe_int (pa_cons pe_int (pa_cons pe_int pa_nil)))) (pa_cons (pe_lst (pa_cons pe_int (pa_cons pe_int pa_nil))) (pa_cons (pe_lst (pa_cons pe_int (pa_cons pe_int pa_nil))) (pa_cons (pe_lst (pa_cons (pe_un un_neg pe_int) (pa_cons pe_int pa_nil))) (pa_cons (pe_lst (pa_cons pe_int (pa_cons pe_bl pa_nil))) (pa_cons (pe_lst (pa_cons pe_int (pa_cons pe_non pa_nil))) (pa_cons pe_str (pa_cons (pe_lst (pa_cons (pe_op op_add pe_int (pv 1)) (pa_cons pe_int pa_nil))) pa_nil))))))))))))) (pg_name (i := 4) sc_law_rings_right.nd rfl (.inl rfl))
    (pss_one (ps_if (pt_cmpR (op_neDK (K := K) rfl hr.units) (pe_cl c_law_told (hr.mono (by decide)) (by rfl) pass0 (pa_cons (pe_gv T.a_ring_number (by rfl)) (pa_cons (pe_lst (pa_cons pe_int (pa_cons pe_int pa_nil))) (pa_cons (pv 4) pa_nil)))) (pe_ix (ix_listK (K := K) rfl) (pv 0) pe_int (fun _ _ => rfl)) (nomark _)) (pss_one (ps_ret pe_bl)) pss_nil)))
    (pss_one (ps_ret pe_bl))))), ?_⟩
    dsimp only [cxOf, L2H.cxH, Cx.nox, Cx.wish, L2.start, List.map_cons, List.map_nil, List.length_cons, List.length_nil, List.cons_append, List.nil_append]
    refine q_forTP (P := NoR K) (n := 7) (eap_cons noR_grows (ep_noR (ws := []) (el_lst ea_nil (Nat.zero_le _)) (posL (by decide)) (smL (by decide) (by decide) (by decide)) (by decide +kernel))
      (eap_cons noR_grows (ep_noR (ws := [1]) (el_lst (ea_cons ev_c ea_nil) (by show 1 ≤ 100000; decide)) (posL (by decide)) (smL (by decide) (by decide) (by decide)) (by decide +kernel))
      (eap_cons noR_grows (ep_noR (ws := [2]) (el_lst (ea_cons ev_c ea_nil) (by show 1 ≤ 100000; decide)) (posL (by decide)) (smL (by decide) (by decide) (by decide)) (by decide +kernel))
      (eap_cons noR_grows (ep_noR (ws := [7, 1]) (el_lst (ea_cons ev_c (ea_cons ev_c ea_nil)) (by show 2 ≤ 100000; decide)) (posL (by decide)) (smL (by decide) (by decide) (by decide)) (by decide +kernel))
      (eap_cons noR_grows (ep_noR (ws := [3, 3]) (el_lst (ea_cons ev_c (ea_cons ev_c ea_nil)) (by show 2 ≤ 100000; decide)) (posL (by decide)) (smL (by decide) (by decide) (by decide)) (by decide +kernel))
      (eap_cons noR_grows (ep_noR (ws := [1, 5, 1]) (el_lst (ea_cons ev_c (ea_cons ev_c (ea_cons ev_c ea_nil))) (by show 3 ≤ 100000; decide)) (posL (by decide)) (smL (by decide) (by decide) (by decide)) (by decide +kernel))
      (eap_cons noR_grows (ep_noR (ws := [3, 1, 5 + f * 2]) (el_lst (ea_cons ev_c (ea_cons ev_c (ea_cons (ev_op ev_c (ev_op (ev_var rfl) ev_c (rv_I (mulC (by decide) (by decide)))) rv_I0) ea_nil))) (by show 3 ≤ 100000; decide)) (posL (fun w hw => by
        simp only [List.mem_cons, List.not_mem_nil, or_false] at hw
        omega)) (smL (by show 3 ≤ 200; decide) (fun w hw => by
        simp only [List.mem_cons, List.not_mem_nil, or_false] at hw
        omega) (fun w hw => by
        simp only [List.mem_cons, List.not_mem_nil, or_false] at hw
        have : (2 : Int) ^ 250 > 3000000 := by decide
        omega)) (odd_ring h0)) eap_nil))))))) noR_grows (by decide) fun p H1 hp e1 => ?_
    refine ⟨fun i σ' H' => ∃ v2, σ' = [some (.ref d), some (.int f), v2, none, none] ∧ Ex H1 H', ⟨_, rfl, Ex.refl _⟩, fun i σ' H' ⟨_, _, e⟩ => e, ?_, ?_⟩
    · rintro i x σ' H2 hx ⟨v2, rfl, e2⟩
      have hD2 := hD.mono (e1.trans e2)
      exact s_when (b := false || false) (et_or (et_told (i := 3) (by decide) (ea_cons ev_c (ea_cons (ev_var rfl) (ea_cons ev_c ea_nil))) hx.set (ev_var rfl) hD2) fun _ => et_told (i := 3) (by decide) (ea_cons ev_c (ea_cons (ev_var rfl) (ea_cons ev_c ea_nil))) hx.num (ev_var rfl) hD2) (fun z => nomatch z) fun _ H3 e3 => ⟨_, rfl, e2.trans e3⟩
    rintro σ' H2 ⟨v2, rfl, e2⟩
    have e02 := e1.trans e2
    have hD2 := hD.mono e02
    refine q_forTP (P := BadN K 6) (n := 8) (eap_cons badN_grows (ep_val ev_c fun _ _ => bn_of .non rfl) (eap_cons badN_grows (ep_val ev_c fun _ _ => bn_of (.str _) rfl) (eap_cons badN_grows (ep_val ev_c fun _ _ => bn_of (.bl _) rfl)
      (eap_cons badN_grows (ep_lst (xs := [.int 0]) (el_lst (ea_cons ev_c ea_nil) (by show 1 ≤ 100000; decide)) fun p H1 _ hp => bn_of (.lst (sq_of hp)) rfl) (eap_cons badN_grows (ep_val (ev_un ev_c ru_neg) fun _ _ => bn_int (.inl (by decide)))
      (eap_cons badN_grows (ep_val (ev_op (ev_un ev_c ru_neg) (ev_var rfl) rv_I0) fun _ _ => bn_int (.inl (by omega))) (eap_cons badN_grows (ep_val ev_c fun _ _ => bn_int (.inr (by decide))) (eap_cons badN_grows (ep_val (ev_op ev_c (ev_var rfl) rv_I0) fun _ _ => bn_int (.inr (by omega))) eap_nil)))))))) badN_grows (by decide) fun p H3 hp e3 => ?_
    refine ⟨fun i σ' H' => ∃ v3, σ' = [some (.ref d), some (.int f), v2, v3, none] ∧ Ex H3 H', ⟨_, rfl, Ex.refl _⟩, fun i σ' H' ⟨_, _, e⟩ => e, ?_, ?_⟩
    · rintro i x σ' H4 hx ⟨v3, rfl, e4⟩
      have hD4 := hD2.mono (e3.trans e4)
      exact s_when (b := false) (et_toldL (i := 2) (xs := ([3, 2] : List Int).map V.int) (by decide) ev_c (el_lst (ea_cons ev_c (ea_cons ev_c ea_nil)) (by show 2 ≤ 100000; decide)) (ev_var rfl) (fun q H5 hq e5 => .inr (.inr (.inl ⟨rfl, fun H6 e6 Q E r => ⟨_, _, rfl, Door.good (sq_of (e6 _ _ hq)) pos32 (by decide) ⟨sm32, fun z => (by rw [ring32] at z; cases z), fun _ => by
        obtain ⟨kd, hk, hn⟩ := badN_grows _ _ _ (e5.trans e6) hx
        exact ⟨kd, hk, fun _ => r, fun i ei i0 i1 => by rw [show (6 : Int) = cnt [3, 2] by decide +kernel, numOk_iff.mpr ⟨i, ei, i0, i1⟩] at hn; cases hn⟩⟩⟩⟩))) (ev_var rfl) hD4) (fun z => nomatch z) fun _ H5 e5 => ⟨_, rfl, e4.trans e5⟩
    rintro σ' H4 ⟨v3, rfl, e4⟩
    have e04 := e02.trans (e3.trans e4)
    have hD4 := hD.mono e04
    refine q_forTP (P := fun H v => SetV K H [3, 2] v false) (n := 11) (eap_cons badS_grows (ep_val ev_c fun _ _ => bs_kd .non rfl) (eap_cons badS_grows (ep_tup (eu_tup (ea_cons ev_c (ea_cons ev_c ea_nil)) (by show 2 ≤ 100000; decide)) fun p H1 _ hp => bs_kd (.tup hp) rfl)
      (eap_cons badS_grows (ep_lst (el_lst (ea_cons ev_c ea_nil) (by show 1 ≤ 100000; decide)) fun p H1 _ hp => bs_lst (ks := [.int 0]) hp (.cons (.int _) .nil) (by show 1 ≤ 40000; decide) rfl)
      (eap_cons badS_grows (ep_lst (el_lst (ea_cons ev_c (ea_cons ev_c (ea_cons ev_c ea_nil))) (by show 3 ≤ 100000; decide)) fun p H1 _ hp => bs_lst (ks := [.int 0, .int 0, .int 0]) hp (.cons (.int _) (.cons (.int _) (.cons (.int _) .nil))) (by show 3 ≤ 40000; decide) (by decide +kernel))
      (eap_cons badS_grows (ep_lst (el_lst (ea_cons ev_c (ea_cons ev_c ea_nil)) (by show 2 ≤ 100000; decide)) fun p H1 _ hp => bs_lst (ks := [.int 3, .int 0]) hp (.cons (.int _) (.cons (.int _) .nil)) (by show 2 ≤ 40000; decide) (by decide +kernel))
      (eap_cons badS_grows (ep_lst (el_lst (ea_cons ev_c (ea_cons ev_c ea_nil)) (by show 2 ≤ 100000; decide)) fun p H1 _ hp => bs_lst (ks := [.int 0, .int 2]) hp (.cons (.int _) (.cons (.int _) .nil)) (by show 2 ≤ 40000; decide) (by decide +kernel))
      (eap_cons badS_grows (ep_lst (el_lst (ea_cons (ev_un ev_c ru_neg) (ea_cons ev_c ea_nil)) (by show 2 ≤ 100000; decide)) fun p H1 _ hp => bs_lst (ks := [.int (-1), .int 0]) hp (.cons (.int _) (.cons (.int _) .nil)) (by show 2 ≤ 40000; decide) (by decide +kernel))
      (eap_cons badS_grows (ep_lst (el_lst (ea_cons ev_c (ea_cons ev_c ea_nil)) (by show 2 ≤ 100000; decide)) fun p H1 _ hp => bs_lst (ks := [.int 0, .bool]) hp (.cons (.int _) (.cons (.bl _) .nil)) (by show 2 ≤ 40000; decide) (by decide +kernel))
      (eap_cons badS_grows (ep_lst (el_lst (ea_cons ev_c (ea_cons ev_c ea_nil)) (by show 2 ≤ 100000; decide)) fun p H1 _ hp => bs_lst (ks := [.int 0, .rest]) hp (.cons (.int _) (.cons .non .nil)) (by show 2 ≤ 40000; decide) (by decide +kernel))
      (eap_cons badS_grows (ep_val ev_c fun _ _ => bs_kd (.str _) rfl)
      (eap_cons badS_grows (ep_lst (el_lst (ea_cons (ev_op ev_c (ev_var rfl) rv_I0) (ea_cons ev_c ea_nil)) (by show 2 ≤ 100000; decide)) fun p H1 _ hp => bs_lst (ks := [.int (3 + f), .int 1]) hp (.cons (.int _) (.cons (.int _) .nil)) (by show 2 ≤ 40000; decide) (by
        show ((decide (0 ≤ 3 + f) && decide (3 + f < 3)) && _) = false
        rw [decide_eq_false (show ¬ 3 + f < 3 by omega), Bool.and_false]
        rfl)) eap_nil))))))))))) badS_grows (by decide) fun p H5 hp e5 => ?_
    refine ⟨fun i σ' H' => ∃ v4, σ' = [some (.ref d), some (.int f), v2, v3, v4] ∧ Ex H5 H', ⟨_, rfl, Ex.refl _⟩, fun i σ' H' ⟨_, _, e⟩ => e, ?_, ?_⟩
    · rintro i x σ' H6 hx ⟨v4, rfl, e6⟩
      have hD6 := hD4.mono (e5.trans e6)
      exact s_when (b := false) (et_toldL (i := 1) (xs := ([3, 2] : List Int).map V.int) (by decide) ev_c (el_lst (ea_cons ev_c (ea_cons ev_c ea_nil)) (by show 2 ≤ 100000; decide)) (ev_var rfl) (fun q H7 hq e7 => .inr (.inr (.inr ⟨rfl, fun H8 e8 Q E r => ⟨_, _, rfl, Door.good (sq_of (e8 _ _ hq)) pos32 (by decide) ⟨sm32, fun z => (by rw [ring32] at z; cases z), fun _ => .inl ⟨badS_grows _ _ _ (e7.trans e8) hx, r⟩⟩⟩⟩))) (ev_var rfl) hD6) (fun z => nomatch z) fun _ H7 e7 => ⟨_, rfl, e6.trans e7⟩
    · rintro σ' H6 ⟨v4, rfl, e6⟩
      exact s_ret ev_c fun H7 e7 => k H7 ((e04.trans (e5.trans e6)).trans e7)
theorem cut_setG {xs : List V} {k : Nat} (v : V) (h : k < xs.length) : cutV xs none (some (k : Int)) ++ [v] ++ cutV xs (some ((k : Int) + 1)) none = xs.set k v := by
  rw [cut_to, show ((k : Int) + 1) = ((k + 1 : Nat) : Int) from rfl, cut_from, List.set_eq_take_append_cons_drop, if_pos h, List.append_assoc]
  rfl
/-- s[:k] + [v] + s[k + 1:], of any values -/
theorem el_putG {K : PySem.W.Frag} {H : Hp} {σ : L2.St} {t1 t2 t3 t4 te : TE} {p : Addr} {xs : List V} {k : Nat} {v : V} (hS : SqL K H p xs) (hk : k < xs.length) (hl : xs.length ≤ 40000) (h1 : Ev t1 σ H (.ref p)) (h2 : Ev t2 σ H (.int (k : Int))) (hx : Ev te σ H v) (h3 : Ev t3 σ H (.ref p)) (h4 : Ev t4 σ H (.int ((k : Int) + 1))) :
    EvL (tOp (rCatQ K) (tOp (rCatQ K) (tSl (rSlL K) t1 tNoPart (tPart t2)) (tLst (tCons te tNil))) (tSl (rSlL K) t3 (tPart t4) tNoPart)) σ H (xs.set k v) := by
  rw [← cut_setG v hk]
  have l1 := cutV_length xs none (some (k : Int))
  have l2 := cutV_length xs (some ((k : Int) + 1)) none
  exact el_catLL (el_catLL (el_sl h1 eo_none (eo_some h2) hS) (el_lst (ea_cons hx ea_nil) (by show 1 ≤ 100000; decide)) (by show _ + 1 ≤ 100000; omega)) (el_sl h3 (eo_some h4) eo_none hS) (by rw [List.length_append]; show _ + 1 + _ ≤ 100000; omega)
theorem Thgs.set {K : PySem.W.Frag} {H : Hp} {v : V} {kd : Kd} (hv : Thg K H v kd) : ∀ {xs : List V} {ks : List Kd} (k : Nat), Thgs K H xs ks → Thgs K H (xs.set k v) (ks.set k kd)
  | _, _, _, .nil => .nil
  | _, _, 0, .cons r t => .cons hv t
  | _, _, k + 1, .cons r t => .cons r (Thgs.set hv k t)
theorem all_set {ks : List Kd} {k : Nat} {kd : Kd} (h : k < ks.length) (hk : okSize kd = false) : (ks.set k kd).all okSize = false := by
  rw [List.all_eq_false]
  exact ⟨kd, List.mem_set h kd, by rw [hk]; decide⟩
theorem setOk_set {ws : List Int} {ks : List Kd} {k : Nat} {kd : Kd} (hl : ks.length = ws.length) (h : k < ws.length) (hk : inR (ws.getD k 0) kd = false) : setOk ws (ks.set k kd) = false := by
  rw [← setOk_range ws (ks.set k kd) (by rw [List.length_set, hl]), List.all_eq_false]
  refine ⟨false, List.mem_map.mpr ⟨k, List.mem_range.mpr h, ?_⟩, by decide⟩
  have e : (ks.set k kd).getD k .rest = kd := by
    rw [List.getD_eq_getElem?_getD, List.getElem?_set_self (by rw [hl]; exact h)]
    rfl
  rw [e]
  exact hk
theorem setOk_longer {ws : List Int} {ks : List Kd} (h : ks.length ≠ ws.length) : setOk ws ks = false := by
  cases e : setOk ws ks with
  | false => rfl
  | true => exact absurd (setOk_len e) h
def stp (m : Nat) : Int := 1 + (m : Int) / 6
def nst (m : Nat) : Nat := (Builtin.Range.rangeSize 0 m (stp m)).toNat
theorem stp_ok : ∀ m : Nat, m < 64 → (Builtin.Range.small 0 m (stp m) = true ∧ Builtin.Range.rangeSize 0 m (stp m) = nst m ∧ stp m ≠ 0 ∧ (stp m).natAbs < 1073741824 ∧ ∀ i : Nat, i < nst m → (i : Int) * stp m < m) := by decide +kernel
theorem stp_pos (m : Nat) : 0 ≤ stp m := by
  unfold stp
  omega
/-- for k in range(0, m, 1 + m // 6) -/
theorem q_forR3 {σ : L2.St} {H : Hp} {D : Ends} {tu tz : TS} {ta : TA} {m j : Nat} (h : EvA ta σ H [.int 0, .int (m : Int), .int (stp m)]) (hm : m < 64) (Pv : Nat → L2.St → Hp → Prop) (h0 : ∀ H1, Ex H H1 → Pv 0 σ H1)
    (hs : ∀ (i k : Nat) σ' H', i < nst m → k < m → Pv i σ' H' → tu { D with nx := Pv (i + 1), ct := Pv (i + 1), bk := tz D } (σ'.set j (some (.int (k : Int)))) H') (hd : ∀ σ' H', Pv (nst m) σ' H' → tz D σ' H') : tSeq (tFor (iRng3 ta) (gName j) tu) tz D σ H :=
  h H (Ex.refl H) _ fun H1 e => by
    obtain ⟨a, b, c, d, f⟩ := stp_ok m hm
    refine ⟨0, m, stp m, nst m, rfl, ⟨c, d, a, b⟩, for_rangeC (D := { D with nx := tz D }) Pv (h0 H1 e) (fun i σ' H' hi p => ?_) hd⟩
    have h1 := f i hi
    have h2 : 0 ≤ (i : Int) * stp m := Int.mul_nonneg (by omega) (stp_pos m)
    have hk : (0 : Int) + (i : Int) * stp m = ((((i : Int) * stp m).toNat : Nat) : Int) := by omega
    rw [hk]
    exact hs i _ σ' H' hi (by omega) p
theorem due_int {i : Nat} : (dueB i).map V.bl = [.bl (decide ((i : Int) = 0)), .bl (decide ((i : Int) = 1)), .bl (decide ((i : Int) = 2)), .bl (decide ((i : Int) = 3)), .bl false, .bl true] := by
  have h0 : decide (i = 0) = decide ((i : Int) = 0) := by by_cases c : i = 0 <;> simp [c]
  have h1 : decide (i = 1) = decide ((i : Int) = 1) := by by_cases c : i = 1 <;> simp [c] <;> omega
  have h2 : decide (i = 2) = decide ((i : Int) = 2) := by by_cases c : i = 2 <;> simp [c] <;> omega
  have h3 : decide (i = 3) = decide ((i : Int) = 3) := by by_cases c : i = 3 <;> simp [c] <;> omega
  unfold dueB
  rw [h0, h1, h2, h3]
  rfl
def RowsB (l : Addr) (H : Hp) (xs : List V) (js : List Nat) : Prop := Paired (fun v j => ∃ a, v = V.ref a ∧ a ≠ l ∧ H a = some (.lst ((dueB j).map V.bl))) xs js
theorem RowsB.mono {l : Addr} {H H' : Hp} {xs : List V} {js : List Nat} (e : Ex H H') (h : RowsB l H xs js) : RowsB l H' xs js := Paired.mapP h fun _ _ ⟨a, e1, n, h1⟩ => ⟨a, e1, n, e _ _ h1⟩
theorem RowsB.upd {l : Addr} {H : Hp} {xs : List V} {js : List Nat} {o : HO} (h : RowsB l H xs js) : RowsB l (upd H l o) xs js := Paired.mapP h fun _ _ ⟨a, e1, n, h1⟩ => ⟨a, e1, n, by rw [upd_ne n]; exact h1⟩
theorem RowsB.snoc {l p : Addr} {H : Hp} {xs : List V} {js : List Nat} {j : Nat} (h : RowsB l H xs js) (n : p ≠ l) (h1 : H p = some (.lst ((dueB j).map V.bl))) : RowsB l H (xs ++ [.ref p]) (js ++ [j]) := by
  induction h with
  | nil => exact .cons ⟨p, rfl, n, h1⟩ .nil
  | cons r _ ih => exact .cons r ih
theorem RowsB.due {K : PySem.W.Frag} {l : Addr} {H : Hp} {xs : List V} (hl : H l = some (.lst xs)) (h : RowsB l H xs [0, 1, 2, 3]) : DueAt K H l := by
  cases h with
  | cons r t =>
    cases t with
    | cons r1 t =>
      cases t with
      | cons r2 t =>
        cases t with
        | cons r3 t =>
          cases t
          obtain ⟨a, rfl, _, ha⟩ := r
          obtain ⟨b, rfl, _, hb⟩ := r1
          obtain ⟨c, rfl, _, hc⟩ := r2
          obtain ⟨d, rfl, _, hd⟩ := r3
          exact ⟨a, b, c, d, sq_of hl, sq_of ha, sq_of hb, sq_of hc, sq_of hd⟩
theorem bw_kd {K : PySem.W.Frag} {H : Hp} {v : V} {kd : Kd} (h : Thg K H v kd) (n : kd.isList = false) : BadW K H v := .inl ⟨kd, h, n⟩
theorem bw_lst {K : PySem.W.Frag} {H : Hp} {p : Addr} {xs : List V} {ks : List Kd} (h : H p = some (.lst xs)) (ht : Thgs K H xs ks) (hl : xs.length ≤ 40000) (hn : ks.all okSize = false) : BadW K H (.ref p) := .inr ⟨p, xs, ks, rfl, sq_of h, ht, hl, hn⟩
theorem ep_dct {P : Hp → V → Prop} {σ : L2.St} {H : Hp} (hv : ∀ p H1, Ex H H1 → H1 p = some (.dK []) → P H1 (.ref p)) : EvP P tDNewK σ H := fun H1 e Q q p hp => q _ _ (Ex.new hp) (hv p _ (e.trans (Ex.new hp)) upd_same)
def SmallBad (K : PySem.W.Frag) (H : Hp) (v : V) : Prop := ∃ kd, Thg K H v kd ∧ okSize kd = false
theorem smallBad_grows {K : PySem.W.Frag} : Grows (SmallBad K) := fun _ _ _ e ⟨kd, h, n⟩ => ⟨kd, h.mono e, n⟩
theorem bw_one {K : PySem.W.Frag} {H : Hp} {p : Addr} {xs : List V} (h : H p = some (.lst xs)) (hl : xs.length = 1) (hb : ∀ v ∈ xs, SmallBad K H v) : BadW K H (.ref p) := by
  match xs, hl with
  | [x], _ =>
    obtain ⟨kd, hk, hn⟩ := hb x List.mem_cons_self
    exact bw_lst (ks := [kd]) h (.cons hk .nil) (by show 1 ≤ 40000; decide) (by show (okSize kd && true) = false; rw [hn]; rfl)
section
variable {K : PySem.W.Frag} {C : Cs} {σ : L2.St} {H H' H1 : Hp} {D : Ends} {ta tb te td : TE} {tA : TA} {v x y : V} {ws : List Int} {b p d f : Addr} {E : XK}
/-- told(f, x, y) == due[i]: always -/
theorem ev_toldE {i : Nat} (hi : i < 4) (ha : EvA tA σ H [.ref f, x, y]) (hA : Asked K C H f x y i) (hd : Ev td σ H (.ref d)) (hD : DueAt K H d) :
    Ev (tOp (rEqD K) (tCall (sp_law_told K C) [] E tA) (tOp (rIxL K) td (tC (.int (i : Int))))) σ H (.bl true) := by
  obtain ⟨r, hr, hx⟩ := hD.row hi
  refine ev_to (ev_opLS (el_call ha (spl_told hi hA)) (ev_op hd ev_c hx) fun q H1 hq e => rv_eqDB (sq_of hq) (ex_l e hr)) ?_
  rw [decide_eq_true rfl]
def five (s : Str) (f : Int) : List V := [.non, .str s, .bl true, .int 0, .int (-1 - f)]
def fiveK (f : Int) : List Kd := [.rest, .str, .bool, .int 0, .int (-1 - f)]
theorem five_thg (s : Str) (f : Int) : Thgs K H (five s f) (fiveK f) := .cons .non (.cons (.str _) (.cons (.bl _) (.cons (.int _) (.cons (.int _) .nil))))
theorem five_bad {f : Int} (h0 : 0 ≤ f) : ∀ j : Nat, j < 5 → okSize ((fiveK f).getD j .rest) = false
  | 0, _ => rfl
  | 1, _ => rfl
  | 2, _ => rfl
  | 3, _ => rfl
  | 4, _ => decide_eq_false (by omega)
def seven (s : Str) (w f : Int) : List V := [.non, .str s, .bl true, .int (w + f), .int (-1 - f), .int w, .int (-1)]
def sevenK (w f : Int) : List Kd := [.rest, .str, .bool, .int (w + f), .int (-1 - f), .int w, .int (-1)]
theorem seven_thg (s : Str) (w f : Int) : Thgs K H (seven s w f) (sevenK w f) := .cons .non (.cons (.str _) (.cons (.bl _) (.cons (.int _) (.cons (.int _) (.cons (.int _) (.cons (.int _) .nil))))))
theorem inR_out {w i : Int} (h : i < 0 ∨ w ≤ i) : inR w (.int i) = false := by
  show (decide (0 ≤ i) && decide (i < w)) = false
  rcases h with h | h
  · rw [decide_eq_false (by omega)]; rfl
  · rw [decide_eq_false (show ¬ i < w by omega), Bool.and_false]
theorem seven_bad {w f : Int} (h0 : 0 ≤ f) : ∀ j : Nat, j < 7 → inR w ((sevenK w f).getD j .rest) = false
  | 0, _ => rfl
  | 1, _ => rfl
  | 2, _ => rfl
  | 3, _ => inR_out (.inr (by omega))
  | 4, _ => inR_out (.inl (by omega))
  | 5, _ => inR_out (.inr (by omega))
  | 6, _ => inR_out (.inl (by omega))
theorem tab_at {xs : List V} {n : Nat} (hl : xs.length = n) (h0 : 0 < n) (k : Nat) : atI xs ((k : Int) % (n : Int)) = some (xs.getD (k % n) .non) := by
  rw [← Int.natCast_emod]
  refine atI_nat ?_
  have : k % n < xs.length := by rw [hl]; exact Nat.mod_lt _ h0
  rw [List.getD_eq_getElem?_getD, List.getElem?_eq_getElem this]
  rfl
theorem Thgs.getD {xs : List V} {ks : List Kd} (h : Thgs K H xs ks) : ∀ j : Nat, Thg K H (xs.getD j .non) (ks.getD j .rest) := by
  induction h with
  | nil => intro j; exact .non
  | cons r _ ih =>
    intro j
    cases j with
    | zero => exact r
    | succ j => exact ih j
theorem bw_set {k : Nat} {kd : Kd} (h : H p = some (.lst ((ws.map V.int).set k v))) (hk : k < ws.length) (hl : ws.length ≤ 40000) (hv : Thg K H v kd) (hn : okSize kd = false) : BadW K H (.ref p) :=
  bw_lst h (Thgs.set hv k (Thgs.ints ws)) (by rw [List.length_set, List.length_map]; exact hl) (all_set (by rw [List.length_map]; exact hk) hn)
theorem bs_set {ss : List Int} {k : Nat} {kd : Kd} (h : H p = some (.lst ((ss.map V.int).set k v))) (hsl : ss.length = ws.length) (hk : k < ws.length) (hl : ws.length ≤ 40000) (hv : Thg K H v kd) (hn : inR (ws.getD k 0) kd = false) : SetV K H ws (.ref p) false :=
  bs_lst h (Thgs.set hv k (Thgs.ints ss)) (by rw [List.length_set, List.length_map, hsl]; exact hl) (setOk_set (by rw [List.length_map, hsl]) hk hn)
theorem thgs_rep : ∀ n : Nat, Thgs K H (List.replicate n .non) (List.replicate n .rest)
  | 0 => .nil
  | n + 1 => .cons .non (thgs_rep n)
theorem bs_rep {n : Nat} (h : H p = some (.lst (List.replicate n .non))) (hn : n ≠ ws.length) (hl : n ≤ 40000) : SetV K H ws (.ref p) false :=
  bs_lst h (thgs_rep n) (by rw [List.length_replicate]; exact hl) (setOk_longer (by rw [List.length_replicate]; exact hn))
/-- a list of things that each have P grows by one -/
theorem grown {P : Hp → V → Prop} {xs : List V} {o o' : HO} (g : Grows P) (e : Ex H H1) (hb : H b = some o) (hp : H p = none) (ha : ∀ w ∈ xs, P (delH H b) w) (hn : P (delH H1 b) (.ref p)) : ∀ w ∈ xs ++ [.ref p], P (delH (upd H1 b o') b) w := by
  rw [del_upd]
  intro w hw
  rcases List.mem_append.mp hw with hw | hw
  · exact g _ _ _ (ex_del e) (ha w hw)
  · rcases List.mem_cons.mp hw with rfl | hw
    · exact hn
    · cases hw
theorem del_at {o o' : HO} (hb : H b = some o) (hp : H p = none) (h : H1 p = some o') : delH H1 b p = some o' := by
  rw [delH_ne (fun z => by rw [z, hb] at hp; cases hp)]
  exact h
theorem nst_le : ∀ m : Nat, m < 64 → nst m ≤ 64 := by decide +kernel
theorem q_asgAR6 {nss : List (List Int)} {tz : TS} {i : Nat} (h : EvAR K tA σ H nss) (hz : nss.length ≤ 1000) (k : ∀ p xs H1, H p = none → Ex H H1 → H1 p = some (.lst xs) → Rows K H1 xs nss → tz D (σ.set i (some (.ref p))) H1) :
    tSeq (tAsg (tLst tA) (gName i)) tz D σ H := h H (Ex.refl H) _ fun vs H1 e r => ⟨by rw [r.len]; exact Nat.le_trans hz (by decide), fun p hp => k p vs _ (fresh_back e hp) (e.trans (Ex.new hp)) upd_same (r.mono (Ex.new hp))⟩
theorem eu_tuple {xs : List V} (ha : Ev ta σ H (.ref p)) (h1 : SqL K H p xs) : EvU (tCB (fun xs H Q => ∃ p ys, xs = [.ref p] ∧ ((SqL K H p ys ∧ ∀ l, H l = none → Q (.ref l) (upd H l (.tup ys))) ∨ (SqT K H p ys ∧ Q (.ref p) H))) (tCons ta tNil)) σ H xs := fun H1 e Q k =>
  ha H1 e _ fun H2 e2 => ⟨p, xs, rfl, .inl ⟨ex_l (e.trans e2) h1, fun l hl => k l _ (fresh_back e2 hl) (e2.trans (Ex.new hl)) upd_same⟩⟩
/-- wheels with a size too great to be written -/
def Great (K : PySem.W.Frag) (H : Hp) (v : V) : Prop := ∃ (a : Addr) (ws : List Int), v = .ref a ∧ SqL K H a (ws.map V.int) ∧ Pos ws ∧ ws.length ≤ 1000 ∧ fits ws = false
theorem great_grows : Grows (Great K) := fun _ _ _ e ⟨a, ws, h1, h2, h3⟩ => ⟨a, ws, h1, ex_l e h2, h3⟩
theorem Great.asked (h : Great K H v) : Asked K C H C.a__law_with_wheels (.int 8) v 0 := .inl ⟨rfl, fun H1 e Q E r => ⟨8, v, rfl, r, .inr ⟨rfl, great_grows _ _ _ e h⟩⟩⟩
theorem BadW.asked {n : Int} (h : BadW K H v) : Asked K C H C.a__law_with_wheels (.int n) v 0 := .inl ⟨rfl, fun H1 e Q E r => ⟨n, v, rfl, r, .inl (h.mono e)⟩⟩
theorem BadN.asked (hW : SqL K H b (ws.map V.int)) (hp : Pos ws) (hm : Sm ws) (h : BadN K (cnt ws) H v) : Asked K C H C.a__law_with_number (.ref b) v 2 := .inr (.inl ⟨rfl, fun H1 e Q E r => by
  obtain ⟨kd, hk, hn⟩ := badN_grows _ _ _ e h
  exact ⟨b, ws, v, kd, rfl, r, ex_l e hW, hp, hm, hk, hn⟩⟩)
theorem spv_srefused {a l dr : Addr} {s : V} {xs : List V} (hW : SqL K H a (ws.map V.int)) (hp : Pos ws) (hm : Sm ws) (hf : fits ws = true) (hL : SqL K H l xs) (hX : ∀ x ∈ xs, SetV K H ws x false) (hD : SqL K H dr ((dueB 1).map V.bl)) : SpV (sp_law_settings_refused K C) [.ref a, s, .ref l, .ref dr] H (.bl true) :=
  fun H1 e Q q E => ⟨a, l, dr, s, ws, xs, rfl, ex_l e hW, hp, hm, hf, ex_l e hL, fun x hx => (hX x hx).mono e, ex_l e hD, q⟩
theorem nine_ok : wrT [10 ^ 60 - 1] [0] = Txt.mul (Str.ofString "9") 60 ++ Str.ofString ": 0" := by decide +kernel
end
theorem rv_mulS {H : Hp} {a : Str} {n : Int} (h : MulOk a n) : RV (fun x y H Q => ∃ (a : Str) (n : Int), x = .str a ∧ y = .int n ∧ MulOk a n ∧ Q (.str (Txt.mul a n)) H) (.str a) (.int n) H (.str (Txt.mul a n)) :=
  fun H1 _ _ q => ⟨a, n, rfl, rfl, h, q H1 (Ex.refl H1)⟩
theorem nine_mul : MulOk (Str.ofString "9") 60 := by
  unfold MulOk
  exact ⟨by decide, fun _ _ => by decide +kernel, fun _ _ => by decide +kernel⟩
def sp_law (K : PySem.W.Frag) (_ : Cs) : Sp := fun vs H Q _ => ∃ (a : Addr) (ns : List Int), vs = [.ref a] ∧ SqL K H a (ns.map V.int) ∧ ns.length ≤ 63 ∧ ∀ H', Q (.bl true) H'
theorem ok_law {P : Program} {w : World} {K : PySem.W.Frag} {mg : Str → Option Value} {base : Heap} {C : Cs} {fa : Addr} {fd : FuncData} (F : Fun K "law" "law" S_law fa fd) (T : Txt K mg C) : FnOk P w K mg base CX0 8 fa fd ["_law_script"] (sp_law K C) := by
  have c_law_cell_at := ok_law_cell_at (P := P) (w := w) (base := base) T
  have c_law_wheels := ok_law_wheels (P := P) (w := w) (base := base) T
  have c_law_setting := ok_law_setting (P := P) (w := w) (base := base) T
  have c_law_told := ok_law_told (P := P) (w := w) (base := base) T
  have c_law_settings_refused := ok_law_settings_refused (P := P) (w := w) (base := base) T
  have c_law_count := ok_law_count (P := P) (w := w) (base := base) T
  have c_written := ok_written (P := P) (w := w) (base := base) T
  have c_law_rings_right := ok_law_rings_right (P := P) (w := w) (base := base) T
  refine F.ok sc_law (fun vs H Q E h => ?_) (fun cdv A outer s H vs Q E hr h => ?_)
  · obtain ⟨a, ns, rfl, hS, hl, k⟩ := h
    rfl
  · obtain ⟨a, ns, rfl, hS, hl, k⟩ := h
    refine ⟨_, (pss_cons (ps_set (i := 1) sc_law.nd rfl (.inl rfl) (pe_op op_mod (pe_cl c_law_cell_at (hr.mono (by decide)) (by rfl) pass0 (pa_cons (pv 0) (pa_cons pe_int pa_nil))) (pe_op op_pow pe_int pe_int)))
    (pss_cons (ps_set (i := 2) sc_law.nd rfl (.inr rfl) (pe_lst pa_nil))
    (pss_cons (ps_for PassesOwn.never rfl (pi_range1 (by rfl) T.b_range (pa_cons pe_int pa_nil)) (pg_name (i := 3) sc_law.nd rfl (.inl rfl))
    (pss_one (ps_expr (pe_bm PySem.F.plainAttrs_list PySem.F.slot_list_append PySem.F.type_list_append mt_append (pv 2) (pa_cons (pe_lst (pa_cons (pe_cmpR op_eq (pv 3) pe_int (nomark _)) (pa_cons (pe_cmpR op_eq (pv 3) pe_int (nomark _)) (pa_cons (pe_cmpR op_eq (pv 3) pe_int (nomark _)) (pa_cons (pe_cmpR op_eq (pv 3) pe_int (nomark _)) (pa_cons pe_bl (pa_cons pe_bl pa_nil))))))) pa_nil)))))
    (pss_cons (ps_set (i := 4) sc_law.nd rfl (.inl rfl) (pe_cl c_law_wheels (hr.mono (by decide)) (by rfl) pass0 (pa_cons (pv 0) pa_nil)))
    (pss_cons (ps_par rfl sc_law.nd (i := 5) (j := 6) rfl rfl (by decide) rfl rfl (pa_cons (pe_cl c_law_setting (hr.mono (by decide)) (by rfl) pass0 (pa_cons (pv 0) (pa_cons (pv 4) (pa_cons pe_int pa_nil)))) (pa_cons (pe_callB (call_lenK (K := K) rfl) (by rfl) T.b_len PySem.boot_len (pa_cons (pv 4) pa_nil)) pa_nil)) (by rfl))
    (pss_cons (ps_set (i := 7) sc_law.nd rfl (.inl rfl) (pe_lst (pa_cons (pe_callTy (call_listK (K := K) rfl) (by rfl) T.b_list (by decide +kernel) (pa_cons (pv 4) pa_nil)) (pa_cons (pe_callTy (call_listK (K := K) rfl) (by rfl) T.b_list (by decide +kernel) (pa_cons (pv 5) pa_nil)) pa_nil))))
    (pss_cons (ps_set (i := 8) sc_law.nd rfl (.inl rfl) (pe_lst (pa_cons pe_non (pa_cons (pe_tup pa_nil) (pa_cons (pe_tup (pa_cons pe_int pa_nil)) (pa_cons pe_str (pa_cons pe_dnewK (pa_cons pe_int (pa_cons (pe_lst (pa_cons pe_int pa_nil)) (pa_cons (pe_lst (pa_cons (pe_un un_neg pe_int) pa_nil)) (pa_cons (pe_lst (pa_cons (pe_op op_sub (pe_un un_neg pe_int) (pv 1)) pa_nil)) (pa_cons (pe_lst (pa_cons pe_bl pa_nil)) (pa_cons (pe_lst (pa_cons pe_str pa_nil)) (pa_cons (pe_lst (pa_cons pe_non pa_nil)) (pa_cons (pe_lst (pa_cons (pe_lst (pa_cons pe_int pa_nil)) pa_nil)) (pa_cons (pe_lst (pa_cons pe_int (pa_cons pe_int pa_nil))) (pa_cons (pe_lst (pa_cons pe_int (pa_cons pe_int (pa_cons pe_non pa_nil)))) pa_nil)))))))))))))))))
    (pss_cons (ps_for PassesOwn.never rfl (pi_range3 (by rfl) T.b_range (pa_cons pe_int (pa_cons (pv 6) (pa_cons (pe_op op_add pe_int (pe_op op_fdiv (pv 6) pe_int)) pa_nil)))) (pg_name (i := 9) sc_law.nd rfl (.inl rfl))
    (pss_one (ps_expr (pe_bm PySem.F.plainAttrs_list PySem.F.slot_list_append PySem.F.type_list_append mt_append (pv 8) (pa_cons (pe_op (op_catK (K := K) rfl) (pe_op (op_catK (K := K) rfl) (pe_slice (sl_listK (K := K) rfl) (pv 4) po_none (po_some (pv 9))) (pe_lst (pa_cons (pe_ix (ix_tupK (K := K) rfl) (pe_tup (pa_cons pe_non (pa_cons pe_str (pa_cons pe_bl (pa_cons pe_int (pa_cons (pe_op op_sub (pe_un un_neg pe_int) (pv 1)) pa_nil)))))) (pe_op op_mod (pv 9) pe_int) (fun _ _ => rfl)) pa_nil))) (pe_slice (sl_listK (K := K) rfl) (pv 4) (po_some (pe_op op_add (pv 9) pe_int)) po_none)) pa_nil)))))
    (pss_cons (ps_for PassesOwn.never rfl (pi_range1 (by rfl) T.b_range (pa_cons pe_int pa_nil)) (pg_name (i := 10) sc_law.nd rfl (.inr rfl))
    (pss_one (ps_if (pt_not (pt_val (pe_callB (cr_allK (K := K) rfl rfl) (by rfl) T.b_all (by decide +kernel) (pa_cons (pe_lc (own := [("_law_thing", 16)]) (g := gName 16) (tt := tYes) rfl sc_law.nd (pi_listK (K := K) rfl (pv 8)) (blkOk_by (N := ["_law_script", "_law_far_here", "_law_due", "_law_k", "_law_wheels_here", "_law_setting_here", "_law_size", "_law_kept", "_law_bad", "_law_at", "_law_door", "_law_some", "_law_strange", "_law_whole_here", "_law_number", "_law_great", "_law_thing"]) (sc := defScope S_law) (own := [("_law_thing", 16)]) (by decide +kernel)) (fun _ _ _ _ _ => (pg_name (i := 16) sc_law.nd rfl (.inl rfl))) (fun _ _ _ _ _ => pts_nil) (fun _ _ _ _ _ => (pe_cmpR (op_eqDK (K := K) rfl hr.units) (pe_cl c_law_told (hr.mono (by decide)) (by rfl) pass0 (pa_cons (pe_gv T.a__law_with_wheels (by rfl)) (pa_cons (pv 10) (pa_cons (pv 16) pa_nil)))) (pe_ix (ix_listK (K := K) rfl) (pv 2) pe_int (fun _ _ => rfl)) (nomark _)))) pa_nil)) (by intro _; rfl))) (pss_one (ps_ret pe_bl)) pss_nil)))
    (pss_cons (ps_set (i := 11) sc_law.nd rfl (.inl rfl) (pe_lst (pa_cons pe_non (pa_cons (pe_callTy (call_tupleK (K := K) rfl) (by rfl) T.b_tuple (by decide +kernel) (pa_cons (pv 5) pa_nil)) (pa_cons pe_str (pa_cons pe_dnewK (pa_cons pe_int (pa_cons (pe_op (op_catK (K := K) rfl) (pv 5) (pe_lst (pa_cons pe_int pa_nil))) (pa_cons (pe_op op_rep (pe_lst (pa_cons pe_non pa_nil)) (pe_op op_add (pv 6) pe_int)) pa_nil)))))))))
    (pss_cons (ps_for PassesOwn.never rfl (pi_range3 (by rfl) T.b_range (pa_cons pe_int (pa_cons (pv 6) (pa_cons (pe_op op_add pe_int (pe_op op_fdiv (pv 6) pe_int)) pa_nil)))) (pg_name (i := 9) sc_law.nd rfl (.inl rfl))
    (pss_cons (ps_set (i := 12) sc_law.nd rfl (.inl rfl) (pe_ix (ix_tupK (K := K) rfl) (pe_tup (pa_cons pe_non (pa_cons pe_str (pa_cons pe_bl (pa_cons (pe_op op_add (pe_ix (ix_listK (K := K) rfl) (pv 4) (pv 9) (fun _ _ => rfl)) (pv 1)) (pa_cons (pe_op op_sub (pe_un un_neg pe_int) (pv 1)) (pa_cons (pe_ix (ix_listK (K := K) rfl) (pv 4) (pv 9) (fun _ _ => rfl)) (pa_cons (pe_un un_neg pe_int) pa_nil)))))))) (pe_op op_mod (pv 9) pe_int) (fun _ _ => rfl)))
    (pss_one (ps_expr (pe_bm PySem.F.plainAttrs_list PySem.F.slot_list_append PySem.F.type_list_append mt_append (pv 11) (pa_cons (pe_op (op_catK (K := K) rfl) (pe_op (op_catK (K := K) rfl) (pe_slice (sl_listK (K := K) rfl) (pv 5) po_none (po_some (pv 9))) (pe_lst (pa_cons (pv 12) pa_nil))) (pe_slice (sl_listK (K := K) rfl) (pv 5) (po_some (pe_op op_add (pv 9) pe_int)) po_none)) pa_nil))))))
    (pss_cons (ps_if (pt_not (pt_val (pe_cl c_law_settings_refused (hr.mono (by decide)) (by rfl) pass0 (pa_cons (pv 4) (pa_cons (pv 5) (pa_cons (pv 11) (pa_cons (pe_ix (ix_listK (K := K) rfl) (pv 2) pe_int (fun _ _ => rfl)) pa_nil))))) (by intro _; rfl))) (pss_one (ps_ret pe_bl)) pss_nil)
    (pss_cons (ps_set (i := 13) sc_law.nd rfl (.inl rfl) (pe_cl c_law_count (hr.mono (by decide)) (by rfl) pass0 (pa_cons (pv 4) pa_nil)))
    (pss_cons (ps_for PassesOwn.never rfl (pi_tupK (K := K) rfl (pe_tup (pa_cons pe_non (pa_cons pe_str (pa_cons pe_bl (pa_cons (pe_lst (pa_cons pe_int pa_nil)) (pa_cons (pe_un un_neg pe_int) (pa_cons (pe_op op_sub (pe_un un_neg pe_int) (pv 1)) (pa_cons (pv 13) (pa_cons (pe_op op_add (pv 13) (pv 1)) pa_nil)))))))))) (pg_name (i := 14) sc_law.nd rfl (.inl rfl))
    (pss_one (ps_if (pt_cmpR (op_neDK (K := K) rfl hr.units) (pe_cl c_law_told (hr.mono (by decide)) (by rfl) pass0 (pa_cons (pe_gv T.a__law_with_number (by rfl)) (pa_cons (pv 4) (pa_cons (pv 14) pa_nil)))) (pe_ix (ix_listK (K := K) rfl) (pv 2) pe_int (fun _ _ => rfl)) (nomark _)) (pss_one (ps_ret pe_bl)) pss_nil)))
    (pss_cons (ps_for PassesOwn.never rfl (pi_tupK (K := K) rfl (pe_tup (pa_cons (pe_lst (pa_cons (pe_op op_pow pe_int pe_int) pa_nil)) (pa_cons (pe_lst (pa_cons pe_int (pa_cons (pe_op op_add (pe_op op_pow pe_int pe_int) (pv 1)) pa_nil))) pa_nil)))) (pg_name (i := 15) sc_law.nd rfl (.inl rfl))
    (pss_one (ps_if (pt_cmpR (op_neDK (K := K) rfl hr.units) (pe_cl c_law_told (hr.mono (by decide)) (by rfl) pass0 (pa_cons (pe_gv T.a__law_with_wheels (by rfl)) (pa_cons pe_int (pa_cons (pv 15) pa_nil)))) (pe_ix (ix_listK (K := K) rfl) (pv 2) pe_int (fun _ _ => rfl)) (nomark _)) (pss_one (ps_ret pe_bl)) pss_nil)))
    (pss_one (ps_ret (pe_and (pe_cmpR (op_eqDK (K := K) rfl hr.units) (pe_lst (pa_cons (pv 4) (pa_cons (pv 5) pa_nil))) (pv 7) (nomark _)) (pe_and (pe_cl c_law_rings_right (hr.mono (by decide)) (by rfl) pass0 (pa_cons (pv 2) (pa_cons (pv 1) pa_nil))) (pe_one (pe_cmpR op_eq (pe_cl c_written (hr.mono (by decide)) (by rfl) passLN (pa_cons (pe_lst (pa_cons (pe_op op_sub (pe_op op_pow pe_int pe_int) pe_int) pa_nil)) (pa_cons (pe_lst (pa_cons pe_int pa_nil)) pa_nil))) (pe_op op_add_str (pe_op op_repS pe_str pe_int) pe_str) (nomark _)))))))))))))))))))))), ?_⟩
    dsimp only [cxOf, L2H.cxH, Cx.nox, Cx.wish, L2.start, List.map_cons, List.map_nil, List.length_cons, List.length_nil, List.cons_append, List.nil_append]
    have hp := wheels_pos ns
    have hm := wheels_sm ns
    have hwl : (wheelsI ns).length ≤ ns.length := by rw [wheels_len]; omega
    refine q_asg (v := .int (ns.getD 0 0 % 1000000)) (ev_op (ev_call (ea_cons (ev_var rfl) (ea_cons ev_c ea_nil)) (spv_cell hS (by decide))) (ev_op ev_c ev_c (rv_I ⟨by decide, by decide, by decide⟩)) (rv_I (by decide))) fun H1 e1 => ?_
    have f0 : 0 ≤ ns.getD 0 0 % 1000000 := Int.emod_nonneg _ (by decide)
    have f1 : ns.getD 0 0 % 1000000 < 1000000 := Int.emod_lt_of_pos _ (by decide)
    generalize ns.getD 0 0 % 1000000 = f at f0 f1
    refine q_asgL (el_lst ea_nil (Nat.zero_le _)) fun d H2 hd e2 h2 => ?_
    refine q_forR1 (n := 4) (ea_cons ev_c ea_nil) (by decide) (fun i σ' H' => ∃ v3 xs, σ' = [some (.ref a), some (.int f), some (.ref d), v3, none, none, none, none, none, none, none, none, none, none, none, none, none] ∧ Ex H1 H' ∧ H' d = some (.lst xs) ∧ RowsB d H' xs (List.range i)) (fun H3 e3 => ⟨none, [], rfl, e2.trans e3, e3 _ _ h2, .nil⟩) ?_ ?_
    · rintro i σ' H3 hi ⟨v3, xs, rfl, e3, h3, hr⟩
      have hxl : xs.length = i := by rw [Paired.length hr, List.length_range]
      refine s_appL (l := d) (ys := (dueB i).map V.bl) h3 (ev_var rfl) (by rw [due_int]; exact el_lst (by walk_at "ea") (by show 6 ≤ 100000; decide)) (by omega) fun p H4 hp4 e4 h4 => ?_
      have np : p ≠ d := fun z => by
        rw [z, h3] at hp4
        cases hp4
      refine ⟨_, _, rfl, Ex.mut (e3.trans e4) hd, upd_same, ?_⟩
      rw [List.range_succ]
      exact (hr.mono e4).upd.snoc np (by rw [upd_ne np]; exact h4)
    rintro σ' H3 ⟨v3, xs, rfl, e3, h3, hr⟩
    have hD : DueAt K H3 d := RowsB.due h3 hr
    have hS3 := ex_l (e1.trans e3) hS
    have hW := spl_wheels (C := C) hS3
    have hfit : fits (wheelsI ns) = true := fits_iff.mpr fun w hw => Int.lt_of_le_of_lt (wheels_bd hw).2 (by decide)
    generalize wheelsI ns = ws at hp hm hwl hW hfit
    have hlw := hm.len
    refine q_asgL (xs := ws.map V.int) (el_call (ea_cons (ev_var rfl) ea_nil) hW) fun b H4 hb e4 h4 => ?_
    have hS4 := ex_l e4 hS3
    have hi := setting_in (ns := ns) (b := 4) hp
    have hsl := setting_len ns ws 4
    have hSt := spl_setting (C := C) (b := 4) hS4 (sq_of h4) hwl (by omega) hp
    generalize settingI ns ws 4 = ss at hi hsl hSt
    refine q_parL (xs := ss.map V.int) (el_call (ea_cons (ev_var rfl) (ea_cons (ev_var rfl) (ea_cons ev_c ea_nil))) hSt) (ev_lenI (ev_var rfl) (sq_of h4)) fun c H5 hc e5 h5 => ?_
    have w5 := e5 _ _ h4
    refine q_asgAR6 (K := K) (nss := [ws, ss]) (ear_consL (el_copy (ev_var rfl) (sq_of w5)) (ear_consL (el_copy (ev_var rfl) (sq_of h5)) ear_nil)) (by show 2 ≤ 1000; decide) fun kp kxs H6 hkp e6 h6 hr6 => ?_
    have w6 := e6 _ _ w5
    have s6 := e6 _ _ h5
    have hD6 := hD.mono ((e4.trans e5).trans e6)
    -- what are no wheels
    refine q_asgAPd (P := BadW K) (n := 15)
      (eap_cons badW_grows (ep_val ev_c fun _ _ => bw_kd .non rfl)
      (eap_cons badW_grows (ep_tup (eu_tup ea_nil (Nat.zero_le _)) fun p H1 _ hp => bw_kd (.tup hp) rfl)
      (eap_cons badW_grows (ep_tup (eu_tup (ea_cons ev_c ea_nil) (by show 1 ≤ 100000; decide)) fun p H1 _ hp => bw_kd (.tup hp) rfl)
      (eap_cons badW_grows (ep_val ev_c fun _ _ => bw_kd (.str _) rfl)
      (eap_cons badW_grows (ep_dct fun p H1 _ hp => bw_kd (.dct hp) rfl)
      (eap_cons badW_grows (ep_val ev_c fun _ _ => bw_kd (.int _) rfl)
      (eap_cons badW_grows (ep_lst (el_lst (ea_cons ev_c ea_nil) (by show 1 ≤ 100000; decide)) fun p H1 _ hp => bw_lst (ks := [.int 0]) hp (.cons (.int _) .nil) (by show 1 ≤ 40000; decide) rfl)
      (eap_cons badW_grows (ep_lst (el_lst (ea_cons (ev_un ev_c ru_neg) ea_nil) (by show 1 ≤ 100000; decide)) fun p H1 _ hp => bw_lst (ks := [.int (-1)]) hp (.cons (.int _) .nil) (by show 1 ≤ 40000; decide) rfl)
      (eap_cons badW_grows (ep_lst (el_lst (ea_cons (ev_op (ev_un ev_c ru_neg) (ev_var rfl) rv_I0) ea_nil) (by show 1 ≤ 100000; decide)) fun p H1 _ hp => bw_lst (ks := [.int (-1 - f)]) hp (.cons (.int _) .nil) (by show 1 ≤ 40000; decide) (by
        show (decide (1 ≤ -1 - f) && true) = false
        rw [decide_eq_false (by omega)]
        rfl))
      (eap_cons badW_grows (ep_lst (el_lst (ea_cons ev_c ea_nil) (by show 1 ≤ 100000; decide)) fun p H1 _ hp => bw_lst (ks := [.bool]) hp (.cons (.bl _) .nil) (by show 1 ≤ 40000; decide) rfl)
      (eap_cons badW_grows (ep_lst (el_lst (ea_cons ev_c ea_nil) (by show 1 ≤ 100000; decide)) fun p H1 _ hp => bw_lst (ks := [.str]) hp (.cons (.str _) .nil) (by show 1 ≤ 40000; decide) rfl)
      (eap_cons badW_grows (ep_lst (el_lst (ea_cons ev_c ea_nil) (by show 1 ≤ 100000; decide)) fun p H1 _ hp => bw_lst (ks := [.rest]) hp (.cons .non .nil) (by show 1 ≤ 40000; decide) rfl)
      (eap_cons badW_grows (ep_nest (P' := SmallBad K) (n := 1) (eap_cons smallBad_grows (ep_lst (el_lst (ea_cons ev_c ea_nil) (by show 1 ≤ 100000; decide)) fun p H1 _ hp => ⟨.list, .lst (sq_of hp), rfl⟩) eap_nil) smallBad_grows (by decide) fun p ys H1 _ hp hl hb => bw_one hp hl hb)
      (eap_cons badW_grows (ep_lst (el_lst (ea_cons ev_c (ea_cons ev_c ea_nil)) (by show 2 ≤ 100000; decide)) fun p H1 _ hp => bw_lst (ks := [.int 2, .int 0]) hp (.cons (.int _) (.cons (.int _) .nil)) (by show 2 ≤ 40000; decide) rfl)
      (eap_cons badW_grows (ep_lst (el_lst (ea_cons ev_c (ea_cons ev_c (ea_cons ev_c ea_nil))) (by show 3 ≤ 100000; decide)) fun p H1 _ hp => bw_lst (ks := [.int 2, .int 3, .rest]) hp (.cons (.int _) (.cons (.int _) (.cons .non .nil))) (by show 3 ≤ 40000; decide) rfl) eap_nil)))))))))))))))
      (by decide) fun bd xs7 H7 hbd e7 h7 hn7 ha7 => ?_
    have hnl := nst_le ws.length (by omega)
    refine q_forR3 (m := ws.length) (j := 9) (ea_cons ev_c (ea_cons (ev_var rfl) (ea_cons (ev_op ev_c (ev_op (ev_var rfl) ev_c (rv_I ⟨by decide, by decide⟩)) rv_I0) ea_nil))) (by omega)
      (fun i σ' H' => ∃ v9 xs, σ' = [some (.ref a), some (.int f), some (.ref d), v3, some (.ref b), some (.ref c), some (.int (ws.length : Int)), some (.ref kp), some (.ref bd), v9, none, none, none, none, none, none, none] ∧ Ex H6 H' ∧ H' bd = some (.lst xs) ∧ xs.length = 15 + i ∧ ∀ w ∈ xs, BadW K (delH H' bd) w)
      (fun H8 e8 => ⟨none, xs7, rfl, e7.trans e8, e8 _ _ h7, hn7, fun w hw => (ha7 w hw).mono (ex_del e8)⟩) ?_ ?_
    · rintro i k σ' H8 hi8 hk8 ⟨v9, xs, rfl, e8, h8, hl8, ha8⟩
      have w8 := e8 _ _ w6
      refine s_appL (l := bd) (ys := (ws.map V.int).set k ((five _ f).getD (k % 5) .non)) h8 (ev_var rfl) (el_putG (sq_of w8) (by rw [List.length_map]; exact hk8) (by rw [List.length_map]; omega) (ev_var rfl) (ev_var rfl)
        (ev_ixU (i := (k : Int) % 5) (eu_tup (vs := five _ f) (ea_cons ev_c (ea_cons ev_c (ea_cons ev_c (ea_cons ev_c (ea_cons (ev_op (ev_un ev_c ru_neg) (ev_var rfl) rv_I0) ea_nil))))) (by show 5 ≤ 100000; decide)) (fun H9 _ => ev_op (ev_var rfl) ev_c (rv_I (by decide))) (tab_at (n := 5) rfl (by decide) k))
        (ev_var rfl) (ev_op (ev_var rfl) ev_c rv_I0)) (by omega) fun p H9 hp9 e9 h9 => ?_
      exact ⟨_, _, rfl, Ex.mut (e8.trans e9) hbd, upd_same, by rw [List.length_append]; show _ + 1 = _; omega, grown badW_grows e9 h8 hp9 ha8 (bw_set (del_at h8 hp9 h9) hk8 (by omega) ((five_thg _ f).getD _) (five_bad f0 _ (Nat.mod_lt _ (by decide))))⟩
    rintro σ' H8 ⟨v9, xs, rfl, e8, h8, hl8, ha8⟩
    have w8 := e8 _ _ w6
    have s8 := e8 _ _ s6
    have k8 := e8 _ _ h6
    have hr8 := hr6.mono e8
    have hD8 := hD6.mono e8
    have hB : ∀ w ∈ xs, BadW K H8 w := fun w hw => (ha8 w hw).mono del_ex
    -- nine doors
    refine q_forR1 (n := 9) (ea_cons ev_c ea_nil) (by decide) (fun i σ' H' => ∃ v10, σ' = [some (.ref a), some (.int f), some (.ref d), v3, some (.ref b), some (.ref c), some (.int (ws.length : Int)), some (.ref kp), some (.ref bd), v9, v10, none, none, none, none, none, none] ∧ Ex H8 H') (fun H9 e9 => ⟨none, rfl, e9⟩) ?_ ?_
    · rintro i σ' H9 hi9 ⟨v10, rfl, e9⟩
      refine s_when (b := !true) (et_not (et_B (ev_to (ev_allN (bs := List.replicate xs.length true) (el_list (by rw [List.length_map, List.length_replicate]) (ev_var rfl) (sq_of (e9 _ _ h8)) (by omega) (fun _ => rfl) fun j x y H10 e10 hx hy => ?_)) ?_))) (fun z => nomatch z) fun _ H10 e10 => ⟨_, rfl, e9.trans e10⟩
      · have e810 := e9.trans e10
        rw [List.getElem?_map] at hy
        have hj := (List.getElem?_eq_some_iff.mp hx).1
        rw [List.getElem?_replicate, if_pos hj] at hy
        cases hy
        exact ev_toldE (i := 0) (by decide) (ea_cons ev_c (ea_cons (ev_var rfl) (ea_cons (ev_var rfl) ea_nil))) ((hB x (List.mem_of_getElem? hx)).mono e810).asked (ev_var rfl) (hD8.mono e810)
      · rw [List.all_replicate]
        cases xs.length <;> rfl
    rintro σ' H9 ⟨v10, rfl, e9⟩
    have w9 := e9 _ _ w8
    have s9 := e9 _ _ s8
    have k9 := e9 _ _ k8
    have hr9 := hr8.mono e9
    have hD9 := hD8.mono e9
    -- what is no setting
    refine q_asgAPd (P := fun H v => SetV K H ws v false) (n := 7)
      (eap_cons badS_grows (ep_val ev_c fun _ _ => bs_kd .non rfl)
      (eap_cons badS_grows (ep_tup (eu_tuple (ev_var rfl) (sq_of s9)) fun p H1 _ hp => bs_kd (.tup hp) rfl)
      (eap_cons badS_grows (ep_val ev_c fun _ _ => bs_kd (.str _) rfl)
      (eap_cons badS_grows (ep_dct fun p H1 _ hp => bs_kd (.dct hp) rfl)
      (eap_cons badS_grows (ep_val ev_c fun _ _ => bs_kd (.int _) rfl)
      (eap_cons badS_grows (ep_lst (xs := (ss ++ [0]).map V.int) (by
        rw [List.map_append]
        exact el_catSL (ev_var rfl) (sq_of s9) (el_lst (ea_cons ev_c ea_nil) (by show 1 ≤ 100000; decide)) (by rw [List.length_map]; show _ + 1 ≤ 100000; omega)) fun p H1 _ hp => bs_lst hp (Thgs.ints (ss ++ [0])) (by rw [List.length_map, List.length_append]; show _ + 1 ≤ 40000; omega) (setOk_longer (by rw [List.length_map, List.length_append]; show _ + 1 ≠ _; omega)))
      (eap_cons badS_grows (ep_lst (el_rep (x := .non) (n := ws.length + 1) (el_lst (ea_cons ev_c ea_nil) (by show 1 ≤ 100000; decide)) (ev_op (ev_var rfl) ev_c rv_I0) (by omega)) fun p H1 _ hp => bs_rep hp (by omega) (by omega)) eap_nil)))))))
      (by decide) fun sm xs10 H10 hsm e10 h10 hn10 ha10 => ?_
    have e910 : Ex H9 H10 := e10
    refine q_forR3 (m := ws.length) (j := 9) (ea_cons ev_c (ea_cons (ev_var rfl) (ea_cons (ev_op ev_c (ev_op (ev_var rfl) ev_c (rv_I ⟨by decide, by decide⟩)) rv_I0) ea_nil))) (by omega)
      (fun i σ' H' => ∃ v9 v12 xs, σ' = [some (.ref a), some (.int f), some (.ref d), v3, some (.ref b), some (.ref c), some (.int (ws.length : Int)), some (.ref kp), some (.ref bd), v9, v10, some (.ref sm), v12, none, none, none, none] ∧ Ex H9 H' ∧ H' sm = some (.lst xs) ∧ xs.length = 7 + i ∧ ∀ w ∈ xs, SetV K (delH H' sm) ws w false)
      (fun H11 e11 => ⟨v9, none, xs10, rfl, e10.trans e11, e11 _ _ h10, hn10, fun w hw => (ha10 w hw).mono (ex_del e11)⟩) ?_ ?_
    · rintro i k σ' H11 hi11 hk11 ⟨v9, v12, xs, rfl, e11, h11, hl11, ha11⟩
      have w11 := e11 _ _ w9
      have s11 := e11 _ _ s9
      refine q_asg (v := (seven _ (ws.getD k 0) f).getD (k % 7) .non) (ev_ixU (i := (k : Int) % 7) (eu_tup (vs := seven _ (ws.getD k 0) f) (ea_cons ev_c (ea_cons ev_c (ea_cons ev_c (ea_cons (ev_op (ev_op (ev_var rfl) (ev_var rfl) (rv_ixI (sq_of w11) hk11)) (ev_var rfl) rv_I0) (ea_cons (ev_op (ev_un ev_c ru_neg) (ev_var rfl) rv_I0) (ea_cons (ev_op (ev_var rfl) (ev_var rfl) (rv_ixI (sq_of w11) hk11)) (ea_cons (ev_un ev_c ru_neg) ea_nil))))))) (by show 7 ≤ 100000; decide)) (fun H12 _ => ev_op (ev_var rfl) ev_c (rv_I (by decide))) (tab_at (n := 7) rfl (by decide) k)) fun H12 e12 => ?_
      have h12 := e12 _ _ h11
      have s12 := e12 _ _ s11
      refine s_appL (l := sm) (ys := (ss.map V.int).set k ((seven _ (ws.getD k 0) f).getD (k % 7) .non)) h12 (ev_var rfl) (el_putG (sq_of s12) (by rw [List.length_map]; omega) (by rw [List.length_map]; omega) (ev_var rfl) (ev_var rfl) (ev_var rfl) (ev_var rfl) (ev_op (ev_var rfl) ev_c rv_I0)) (by omega) fun p H13 hp13 e13 h13 => ?_
      exact ⟨_, _, _, rfl, Ex.mut ((e11.trans e12).trans e13) hsm, upd_same, by rw [List.length_append]; show _ + 1 = _; omega, grown badS_grows e13 h12 hp13 (fun w hw => (ha11 w hw).mono (ex_del e12)) (bs_set (del_at h12 hp13 h13) hsl hk11 (by omega) ((seven_thg _ _ f).getD _) (seven_bad f0 _ (Nat.mod_lt _ (by decide))))⟩
    rintro σ' H11 ⟨v9, v12, ys, rfl, e11, h11, hl11, ha11⟩
    have w11 := sq_of (K := K) (e11 _ _ w9)
    have hD11 := hD9.mono e11
    have hB11 : ∀ w ∈ ys, SetV K H11 ws w false := fun w hw => (ha11 w hw).mono del_ex
    obtain ⟨dr, hdr, hdx⟩ := hD11.row (i := 1) (by decide)
    refine q_when (b := !true) (et_not (et_B (ev_call (ea_cons (ev_var rfl) (ea_cons (ev_var rfl) (ea_cons (ev_var rfl) (ea_cons (ev_op (ev_var rfl) ev_c hdx) ea_nil)))) (spv_srefused w11 hp hm hfit (sq_of h11) hB11 hdr)))) (fun z => nomatch z) fun _ H12 e12 => ?_
    have w12 := ex_l e12 w11
    refine q_asg (v := .int (cnt ws)) (ev_call (ea_cons (ev_var rfl) ea_nil) (spv_law_count w12 hm)) fun H13 e13 => ?_
    have w13 := ex_l e13 w12
    have hD13 := hD11.mono (e12.trans e13)
    refine q_forTP (P := BadN K (cnt ws)) (n := 8) (eap_cons badN_grows (ep_val ev_c fun _ _ => bn_of .non rfl) (eap_cons badN_grows (ep_val ev_c fun _ _ => bn_of (.str _) rfl) (eap_cons badN_grows (ep_val ev_c fun _ _ => bn_of (.bl _) rfl)
      (eap_cons badN_grows (ep_lst (xs := [.int 0]) (el_lst (ea_cons ev_c ea_nil) (by show 1 ≤ 100000; decide)) fun p H1 _ hp => bn_of (.lst (sq_of hp)) rfl) (eap_cons badN_grows (ep_val (ev_un ev_c ru_neg) fun _ _ => bn_int (.inl (by decide)))
      (eap_cons badN_grows (ep_val (ev_op (ev_un ev_c ru_neg) (ev_var rfl) rv_I0) fun _ _ => bn_int (.inl (by omega))) (eap_cons badN_grows (ep_val (ev_var rfl) fun _ _ => bn_int (.inr (Int.le_refl _))) (eap_cons badN_grows (ep_val (ev_op (ev_var rfl) (ev_var rfl) rv_I0) fun _ _ => bn_int (.inr (by omega))) eap_nil)))))))) badN_grows (by decide) fun p H14 hp14 e14 => ?_
    refine ⟨fun i σ' H' => ∃ v14, σ' = [some (.ref a), some (.int f), some (.ref d), v3, some (.ref b), some (.ref c), some (.int (ws.length : Int)), some (.ref kp), some (.ref bd), v9, v10, some (.ref sm), v12, some (.int (cnt ws)), v14, none, none] ∧ Ex H14 H', ⟨_, rfl, Ex.refl _⟩, fun i σ' H' ⟨_, _, e⟩ => e, ?_, ?_⟩
    · rintro i x σ' H15 hx ⟨v14, rfl, e15⟩
      have e1315 := e14.trans e15
      exact s_when (b := false) (et_told (i := 2) (by decide) (ea_cons ev_c (ea_cons (ev_var rfl) (ea_cons (ev_var rfl) ea_nil))) (BadN.asked (ex_l e1315 w13) hp hm hx) (ev_var rfl) (hD13.mono e1315)) (fun z => nomatch z) fun _ H16 e16 => ⟨_, rfl, e15.trans e16⟩
    rintro σ' H15 ⟨v14, rfl, e15⟩
    have e1315 := e14.trans e15
    have hD15 := hD13.mono e1315
    refine q_forTP (P := Great K) (n := 2) (eap_cons great_grows (ep_lst (xs := ([10 ^ 60] : List Int).map V.int) (el_lst (ea_cons (ev_op ev_c ev_c (rv_I ⟨by decide, by decide, by decide⟩)) ea_nil) (by show 1 ≤ 100000; decide)) fun p H1 _ hp => ⟨p, _, rfl, sq_of hp, posL (by decide), by decide, by decide⟩)
      (eap_cons great_grows (ep_lst (xs := ([2, 10 ^ 60 + f] : List Int).map V.int) (el_lst (ea_cons ev_c (ea_cons (ev_op (ev_op ev_c ev_c (rv_I ⟨by decide, by decide, by decide⟩)) (ev_var rfl) rv_I0) ea_nil)) (by show 2 ≤ 100000; decide)) fun p H1 _ hp => ⟨p, _, rfl, sq_of hp, posL (fun w hw => by
        simp only [List.mem_cons, List.not_mem_nil, or_false] at hw
        have : (10 : Int) ^ 60 > 1 := by decide
        omega), by show 2 ≤ 1000; decide, by
        unfold fits
        rw [List.all_eq_false]
        exact ⟨10 ^ 60 + f, by simp, by simp; omega⟩⟩) eap_nil)) great_grows (by decide) fun p H16 hp16 e16 => ?_
    refine ⟨fun i σ' H' => ∃ v15, σ' = [some (.ref a), some (.int f), some (.ref d), v3, some (.ref b), some (.ref c), some (.int (ws.length : Int)), some (.ref kp), some (.ref bd), v9, v10, some (.ref sm), v12, some (.int (cnt ws)), v14, v15, none] ∧ Ex H16 H', ⟨_, rfl, Ex.refl _⟩, fun i σ' H' ⟨_, _, e⟩ => e, ?_, ?_⟩
    · rintro i x σ' H17 hx ⟨v15, rfl, e17⟩
      exact s_when (b := false) (et_told (i := 0) (by decide) (ea_cons ev_c (ea_cons ev_c (ea_cons (ev_var rfl) ea_nil))) hx.asked (ev_var rfl) (hD15.mono (e16.trans e17))) (fun z => nomatch z) fun _ H18 e18 => ⟨_, rfl, e17.trans e18⟩
    rintro σ' H17 ⟨v15, rfl, e17⟩
    have e1517 := e16.trans e17
    have hD17 := hD15.mono e1517
    have e1117 := (e12.trans e13).trans (e1315.trans e1517)
    have w17 := ex_l e1117 w11
    have e917 := e11.trans e1117
    have s17 := sq_of (K := K) (e917 _ _ s9)
    have k17 := sq_of (K := K) (e917 _ _ k9)
    have hr17 := hr9.mono e917
    refine s_ret (v := .bl (decide ([ws, ss] = [ws, ss]) && (true && decide (wrT [10 ^ 60 - 1] [0] = Txt.mul (Str.ofString "9") 60 ++ Str.ofString ": 0")))) (ev_andV (ev_opLS (el_lst (ea_cons (ev_var rfl) (ea_cons (ev_var rfl) ea_nil)) (by show 2 ≤ 100000; decide)) (ev_var rfl) fun q H18 hq e18 => rv_eqDL (sq_of hq) (.cons ⟨b, rfl, ex_l e18 w17⟩ (.cons ⟨c, rfl, ex_l e18 s17⟩ .nil)) (ex_l e18 k17) (hr17.mono e18)) fun _ =>
      ev_andV (ev_call (ea_cons (ev_var rfl) (ea_cons (ev_var rfl) ea_nil)) (spv_rings hD17 f0 f1)) fun _ => ev_op (ev_callLL (xs := ([10 ^ 60 - 1] : List Int).map V.int) (ys := ([0] : List Int).map V.int) (el_lst (ea_cons (ev_op (ev_op ev_c ev_c (rv_I ⟨by decide, by decide, by decide⟩)) ev_c rv_I0) ea_nil) (by show 1 ≤ 100000; decide)) (el_lst (ea_cons ev_c ea_nil) (by show 1 ≤ 100000; decide)) fun p q H18 h1 h2 e18 => spv_written (sq_of h1) (posL (by decide)) (by decide) (by decide) (sq_of h2) ⟨⟨by decide, by decide⟩, trivial⟩)
        (ev_op (ev_op (z := .str (Txt.mul (Str.ofString "9") 60)) ev_c ev_c (rv_mulS nine_mul)) ev_c (rv_cat (i := Txt.mul (Str.ofString "9") 60) (j := Str.ofString ": 0") (by decide +kernel))) rv_eqS) fun H18 e18 => ?_
    rw [nine_ok, decide_eq_true rfl, decide_eq_true rfl]
    exact k H18
section
/-! ### what the top has written; the law's own head -/
theorem all_mk {l : PySem.W.OpenLaw} {w : World} {K : PySem.W.Frag} {h : Heap} {mg : Str → Option Value} {fa : Addr} (X : K.In h) (G : h.Ns mainGlobals mg) (hfa : mg "law" = some (.ref fa))
    {f0 : Addr} {od0 an0 : Option Addr} {sl0 : Array (Option Value)} {oc0 kV0 dc0 pm0 cd0 ct0 : Value}
    {f1 : Addr} {od1 an1 : Option Addr} {sl1 : Array (Option Value)} {oc1 kV1 dc1 pm1 cd1 ct1 : Value}
    {f2 : Addr} {od2 an2 : Option Addr} {sl2 : Array (Option Value)} {oc2 kV2 dc2 pm2 cd2 ct2 : Value}
    {f3 : Addr} {od3 an3 : Option Addr} {sl3 : Array (Option Value)} {oc3 kV3 dc3 pm3 cd3 ct3 : Value}
    {f4 : Addr} {od4 an4 : Option Addr} {sl4 : Array (Option Value)} {oc4 kV4 dc4 pm4 cd4 ct4 : Value}
    {f5 : Addr} {od5 an5 : Option Addr} {sl5 : Array (Option Value)} {oc5 kV5 dc5 pm5 cd5 ct5 : Value}
    {f6 : Addr} {od6 an6 : Option Addr} {sl6 : Array (Option Value)} {oc6 kV6 dc6 pm6 cd6 ct6 : Value}
    {f7 : Addr} {od7 an7 : Option Addr} {sl7 : Array (Option Value)} {oc7 kV7 dc7 pm7 cd7 ct7 : Value}
    {f8 : Addr} {od8 an8 : Option Addr} {sl8 : Array (Option Value)} {oc8 kV8 dc8 pm8 cd8 ct8 : Value}
    {f9 : Addr} {od9 an9 : Option Addr} {sl9 : Array (Option Value)} {oc9 kV9 dc9 pm9 cd9 ct9 : Value}
    {f10 : Addr} {od10 an10 : Option Addr} {sl10 : Array (Option Value)} {oc10 kV10 dc10 pm10 cd10 ct10 : Value}
    {f11 : Addr} {od11 an11 : Option Addr} {sl11 : Array (Option Value)} {oc11 kV11 dc11 pm11 cd11 ct11 : Value}
    {f12 : Addr} {od12 an12 : Option Addr} {sl12 : Array (Option Value)} {oc12 kV12 dc12 pm12 cd12 ct12 : Value}
    {f13 : Addr} {od13 an13 : Option Addr} {sl13 : Array (Option Value)} {oc13 kV13 dc13 pm13 cd13 ct13 : Value}
    {f14 : Addr} {od14 an14 : Option Addr} {sl14 : Array (Option Value)} {oc14 kV14 dc14 pm14 cd14 ct14 : Value}
    {f15 : Addr} {od15 an15 : Option Addr} {sl15 : Array (Option Value)} {oc15 kV15 dc15 pm15 cd15 ct15 : Value}
    {f16 : Addr} {od16 an16 : Option Addr} {sl16 : Array (Option Value)} {oc16 kV16 dc16 pm16 cd16 ct16 : Value}
    {f17 : Addr} {od17 an17 : Option Addr} {sl17 : Array (Option Value)} {oc17 kV17 dc17 pm17 cd17 ct17 : Value}
    {f18 : Addr} {od18 an18 : Option Addr} {sl18 : Array (Option Value)} {oc18 kV18 dc18 pm18 cd18 ct18 : Value}
    {f19 : Addr} {od19 an19 : Option Addr} {sl19 : Array (Option Value)} {oc19 kV19 dc19 pm19 cd19 ct19 : Value}
    {f20 : Addr} {od20 an20 : Option Addr} {sl20 : Array (Option Value)} {oc20 kV20 dc20 pm20 cd20 ct20 : Value}
    {f21 : Addr} {od21 an21 : Option Addr} {sl21 : Array (Option Value)} {oc21 kV21 dc21 pm21 cd21 ct21 : Value}
    {f22 : Addr} {od22 an22 : Option Addr} {sl22 : Array (Option Value)} {oc22 kV22 dc22 pm22 cd22 ct22 : Value}
    {f23 : Addr} {od23 an23 : Option Addr} {sl23 : Array (Option Value)} {oc23 kV23 dc23 pm23 cd23 ct23 : Value}
    {f24 : Addr} {od24 an24 : Option Addr} {sl24 : Array (Option Value)} {oc24 kV24 dc24 pm24 cd24 ct24 : Value}
    {f25 : Addr} {od25 an25 : Option Addr} {sl25 : Array (Option Value)} {oc25 kV25 dc25 pm25 cd25 ct25 : Value}
    {f26 : Addr} {od26 an26 : Option Addr} {sl26 : Array (Option Value)} {oc26 kV26 dc26 pm26 cd26 ct26 : Value}
    {f27 : Addr} {od27 an27 : Option Addr} {sl27 : Array (Option Value)} {oc27 kV27 dc27 pm27 cd27 ct27 : Value}
    {f28 : Addr} {od28 an28 : Option Addr} {sl28 : Array (Option Value)} {oc28 kV28 dc28 pm28 cd28 ct28 : Value}
    {f29 : Addr} {od29 an29 : Option Addr} {sl29 : Array (Option Value)} {oc29 kV29 dc29 pm29 cd29 ct29 : Value}
    {f30 : Addr} {od30 an30 : Option Addr} {sl30 : Array (Option Value)} {oc30 kV30 dc30 pm30 cd30 ct30 : Value}
    {f31 : Addr} {od31 an31 : Option Addr} {sl31 : Array (Option Value)} {oc31 kV31 dc31 pm31 cd31 ct31 : Value}
    {f32 : Addr} {od32 an32 : Option Addr} {sl32 : Array (Option Value)} {oc32 kV32 dc32 pm32 cd32 ct32 : Value}
    {f33 : Addr} {od33 an33 : Option Addr} {sl33 : Array (Option Value)} {oc33 kV33 dc33 pm33 cd33 ct33 : Value}
    {f34 : Addr} {od34 an34 : Option Addr} {sl34 : Array (Option Value)} {oc34 kV34 dc34 pm34 cd34 ct34 : Value}
    {CBadNumber : Addr}
    {CBadSetting : Addr}
    {CBadWheels : Addr}
    {CNoRing : Addr}
    {CAround : Addr}
    {CDead : Addr}
    {COdd : Addr}
    {CBadText : Addr}
    {CWheelError : Addr}
    {f100 : Addr} {od100 an100 : Option Addr} {sl100 : Array (Option Value)} {oc100 kV100 dc100 pm100 cd100 ct100 : Value}
    {f101 : Addr} {od101 an101 : Option Addr} {sl101 : Array (Option Value)} {oc101 kV101 dc101 pm101 cd101 ct101 : Value}
    (a0 : PySem.W.nsIn K mainGlobals "is_whole" = some (some (.ref f0))) (l0 : K.lookup f0 = some ⟨oc0, od0, .func (PySem.W.fnOf "is_whole" "is_whole" (defArgs S_is_whole) (defBody S_is_whole) (defScope S_is_whole) .none kV0 dc0 pm0 an0 cd0 ct0), sl0⟩) (c0 : PySem.W.codeIn K cd0 "is_whole" = true) (k0 : PySem.W.keepIn K (.ref f0) = true)
    (a1 : PySem.W.nsIn K mainGlobals "check_wheels" = some (some (.ref f1))) (l1 : K.lookup f1 = some ⟨oc1, od1, .func (PySem.W.fnOf "check_wheels" "check_wheels" (defArgs S_check_wheels) (defBody S_check_wheels) (defScope S_check_wheels) .none kV1 dc1 pm1 an1 cd1 ct1), sl1⟩) (c1 : PySem.W.codeIn K cd1 "check_wheels" = true) (k1 : PySem.W.keepIn K (.ref f1) = true)
    (a2 : PySem.W.nsIn K mainGlobals "is_setting" = some (some (.ref f2))) (l2 : K.lookup f2 = some ⟨oc2, od2, .func (PySem.W.fnOf "is_setting" "is_setting" (defArgs S_is_setting) (defBody S_is_setting) (defScope S_is_setting) .none kV2 dc2 pm2 an2 cd2 ct2), sl2⟩) (c2 : PySem.W.codeIn K cd2 "is_setting" = true) (k2 : PySem.W.keepIn K (.ref f2) = true)
    (a3 : PySem.W.nsIn K mainGlobals "check_setting" = some (some (.ref f3))) (l3 : K.lookup f3 = some ⟨oc3, od3, .func (PySem.W.fnOf "check_setting" "check_setting" (defArgs S_check_setting) (defBody S_check_setting) (defScope S_check_setting) .none kV3 dc3 pm3 an3 cd3 ct3), sl3⟩) (c3 : PySem.W.codeIn K cd3 "check_setting" = true) (k3 : PySem.W.keepIn K (.ref f3) = true)
    (a4 : PySem.W.nsIn K mainGlobals "check_number" = some (some (.ref f4))) (l4 : K.lookup f4 = some ⟨oc4, od4, .func (PySem.W.fnOf "check_number" "check_number" (defArgs S_check_number) (defBody S_check_number) (defScope S_check_number) .none kV4 dc4 pm4 an4 cd4 ct4), sl4⟩) (c4 : PySem.W.codeIn K cd4 "check_number" = true) (k4 : PySem.W.keepIn K (.ref f4) = true)
    (a5 : PySem.W.nsIn K mainGlobals "count_of" = some (some (.ref f5))) (l5 : K.lookup f5 = some ⟨oc5, od5, .func (PySem.W.fnOf "count_of" "count_of" (defArgs S_count_of) (defBody S_count_of) (defScope S_count_of) .none kV5 dc5 pm5 an5 cd5 ct5), sl5⟩) (c5 : PySem.W.codeIn K cd5 "count_of" = true) (k5 : PySem.W.keepIn K (.ref f5) = true)
    (a6 : PySem.W.nsIn K mainGlobals "settings" = some (some (.ref f6))) (l6 : K.lookup f6 = some ⟨oc6, od6, .func (PySem.W.fnOf "settings" "settings" (defArgs S_settings) (defBody S_settings) (defScope S_settings) .none kV6 dc6 pm6 an6 cd6 ct6), sl6⟩) (c6 : PySem.W.codeIn K cd6 "settings" = true) (k6 : PySem.W.keepIn K (.ref f6) = true)
    (a7 : PySem.W.nsIn K mainGlobals "neighbours" = some (some (.ref f7))) (l7 : K.lookup f7 = some ⟨oc7, od7, .func (PySem.W.fnOf "neighbours" "neighbours" (defArgs S_neighbours) (defBody S_neighbours) (defScope S_neighbours) .none kV7 dc7 pm7 an7 cd7 ct7), sl7⟩) (c7 : PySem.W.codeIn K cd7 "neighbours" = true) (k7 : PySem.W.keepIn K (.ref f7) = true)
    (a8 : PySem.W.nsIn K mainGlobals "near" = some (some (.ref f8))) (l8 : K.lookup f8 = some ⟨oc8, od8, .func (PySem.W.fnOf "near" "near" (defArgs S_near) (defBody S_near) (defScope S_near) .none kV8 dc8 pm8 an8 cd8 ct8), sl8⟩) (c8 : PySem.W.codeIn K cd8 "near" = true) (k8 : PySem.W.keepIn K (.ref f8) = true)
    (a9 : PySem.W.nsIn K mainGlobals "apart" = some (some (.ref f9))) (l9 : K.lookup f9 = some ⟨oc9, od9, .func (PySem.W.fnOf "apart" "apart" (defArgs S_apart) (defBody S_apart) (defScope S_apart) .none kV9 dc9 pm9 an9 cd9 ct9), sl9⟩) (c9 : PySem.W.codeIn K cd9 "apart" = true) (k9 : PySem.W.keepIn K (.ref f9) = true)
    (a10 : PySem.W.nsIn K mainGlobals "turning" = some (some (.ref f10))) (l10 : K.lookup f10 = some ⟨oc10, od10, .func (PySem.W.fnOf "turning" "turning" (defArgs S_turning) (defBody S_turning) (defScope S_turning) .none kV10 dc10 pm10 an10 cd10 ct10), sl10⟩) (c10 : PySem.W.codeIn K cd10 "turning" = true) (k10 : PySem.W.keepIn K (.ref f10) = true)
    (a11 : PySem.W.nsIn K mainGlobals "setting_at" = some (some (.ref f11))) (l11 : K.lookup f11 = some ⟨oc11, od11, .func (PySem.W.fnOf "setting_at" "setting_at" (defArgs S_setting_at) (defBody S_setting_at) (defScope S_setting_at) .none kV11 dc11 pm11 an11 cd11 ct11), sl11⟩) (c11 : PySem.W.codeIn K cd11 "setting_at" = true) (k11 : PySem.W.keepIn K (.ref f11) = true)
    (a12 : PySem.W.nsIn K mainGlobals "number_at" = some (some (.ref f12))) (l12 : K.lookup f12 = some ⟨oc12, od12, .func (PySem.W.fnOf "number_at" "number_at" (defArgs S_number_at) (defBody S_number_at) (defScope S_number_at) .none kV12 dc12 pm12 an12 cd12 ct12), sl12⟩) (c12 : PySem.W.codeIn K cd12 "number_at" = true) (k12 : PySem.W.keepIn K (.ref f12) = true)
    (a13 : PySem.W.nsIn K mainGlobals "setting_of" = some (some (.ref f13))) (l13 : K.lookup f13 = some ⟨oc13, od13, .func (PySem.W.fnOf "setting_of" "setting_of" (defArgs S_setting_of) (defBody S_setting_of) (defScope S_setting_of) .none kV13 dc13 pm13 an13 cd13 ct13), sl13⟩) (c13 : PySem.W.codeIn K cd13 "setting_of" = true) (k13 : PySem.W.keepIn K (.ref f13) = true)
    (a14 : PySem.W.nsIn K mainGlobals "number_of" = some (some (.ref f14))) (l14 : K.lookup f14 = some ⟨oc14, od14, .func (PySem.W.fnOf "number_of" "number_of" (defArgs S_number_of) (defBody S_number_of) (defScope S_number_of) .none kV14 dc14 pm14 an14 cd14 ct14), sl14⟩) (c14 : PySem.W.codeIn K cd14 "number_of" = true) (k14 : PySem.W.keepIn K (.ref f14) = true)
    (a15 : PySem.W.nsIn K mainGlobals "around" = some (some (.ref f15))) (l15 : K.lookup f15 = some ⟨oc15, od15, .func (PySem.W.fnOf "around" "around" (defArgs S_around) (defBody S_around) (defScope S_around) .none kV15 dc15 pm15 an15 cd15 ct15), sl15⟩) (c15 : PySem.W.codeIn K cd15 "around" = true) (k15 : PySem.W.keepIn K (.ref f15) = true)
    (a16 : PySem.W.nsIn K mainGlobals "check_ring" = some (some (.ref f16))) (l16 : K.lookup f16 = some ⟨oc16, od16, .func (PySem.W.fnOf "check_ring" "check_ring" (defArgs S_check_ring) (defBody S_check_ring) (defScope S_check_ring) .none kV16 dc16 pm16 an16 cd16 ct16), sl16⟩) (c16 : PySem.W.codeIn K cd16 "check_ring" = true) (k16 : PySem.W.keepIn K (.ref f16) = true)
    (a17 : PySem.W.nsIn K mainGlobals "even_wheel" = some (some (.ref f17))) (l17 : K.lookup f17 = some ⟨oc17, od17, .func (PySem.W.fnOf "even_wheel" "even_wheel" (defArgs S_even_wheel) (defBody S_even_wheel) (defScope S_even_wheel) .none kV17 dc17 pm17 an17 cd17 ct17), sl17⟩) (c17 : PySem.W.codeIn K cd17 "even_wheel" = true) (k17 : PySem.W.keepIn K (.ref f17) = true)
    (a18 : PySem.W.nsIn K mainGlobals "without" = some (some (.ref f18))) (l18 : K.lookup f18 = some ⟨oc18, od18, .func (PySem.W.fnOf "without" "without" (defArgs S_without) (defBody S_without) (defScope S_without) .none kV18 dc18 pm18 an18 cd18 ct18), sl18⟩) (c18 : PySem.W.codeIn K cd18 "without" = true) (k18 : PySem.W.keepIn K (.ref f18) = true)
    (a19 : PySem.W.nsIn K mainGlobals "ring_setting" = some (some (.ref f19))) (l19 : K.lookup f19 = some ⟨oc19, od19, .func (PySem.W.fnOf "ring_setting" "ring_setting" (defArgs S_ring_setting) (defBody S_ring_setting) (defScope S_ring_setting) .none kV19 dc19 pm19 an19 cd19 ct19), sl19⟩) (c19 : PySem.W.codeIn K cd19 "ring_setting" = true) (k19 : PySem.W.keepIn K (.ref f19) = true)
    (a20 : PySem.W.nsIn K mainGlobals "ring_number" = some (some (.ref f20))) (l20 : K.lookup f20 = some ⟨oc20, od20, .func (PySem.W.fnOf "ring_number" "ring_number" (defArgs S_ring_number) (defBody S_ring_number) (defScope S_ring_number) .none kV20 dc20 pm20 an20 cd20 ct20), sl20⟩) (c20 : PySem.W.codeIn K cd20 "ring_number" = true) (k20 : PySem.W.keepIn K (.ref f20) = true)
    (a21 : PySem.W.nsIn K mainGlobals "written" = some (some (.ref f21))) (l21 : K.lookup f21 = some ⟨oc21, od21, .func (PySem.W.fnOf "written" "written" (defArgs S_written) (defBody S_written) (defScope S_written) .none kV21 dc21 pm21 an21 cd21 ct21), sl21⟩) (c21 : PySem.W.codeIn K cd21 "written" = true) (k21 : PySem.W.keepIn K (.ref f21) = true)
    (a22 : PySem.W.nsIn K mainGlobals "_law_cell_at" = some (some (.ref f22))) (l22 : K.lookup f22 = some ⟨oc22, od22, .func (PySem.W.fnOf "_law_cell_at" "_law_cell_at" (defArgs S_law_cell_at) (defBody S_law_cell_at) (defScope S_law_cell_at) .none kV22 dc22 pm22 an22 cd22 ct22), sl22⟩) (c22 : PySem.W.codeIn K cd22 "_law_cell_at" = true) (k22 : PySem.W.keepIn K (.ref f22) = true)
    (a23 : PySem.W.nsIn K mainGlobals "_law_draw" = some (some (.ref f23))) (l23 : K.lookup f23 = some ⟨oc23, od23, .func (PySem.W.fnOf "_law_draw" "_law_draw" (defArgs S_law_draw) (defBody S_law_draw) (defScope S_law_draw) .none kV23 dc23 pm23 an23 cd23 ct23), sl23⟩) (c23 : PySem.W.codeIn K cd23 "_law_draw" = true) (k23 : PySem.W.keepIn K (.ref f23) = true)
    (a24 : PySem.W.nsIn K mainGlobals "_law_wheels" = some (some (.ref f24))) (l24 : K.lookup f24 = some ⟨oc24, od24, .func (PySem.W.fnOf "_law_wheels" "_law_wheels" (defArgs S_law_wheels) (defBody S_law_wheels) (defScope S_law_wheels) .none kV24 dc24 pm24 an24 cd24 ct24), sl24⟩) (c24 : PySem.W.codeIn K cd24 "_law_wheels" = true) (k24 : PySem.W.keepIn K (.ref f24) = true)
    (a25 : PySem.W.nsIn K mainGlobals "_law_setting" = some (some (.ref f25))) (l25 : K.lookup f25 = some ⟨oc25, od25, .func (PySem.W.fnOf "_law_setting" "_law_setting" (defArgs S_law_setting) (defBody S_law_setting) (defScope S_law_setting) .none kV25 dc25 pm25 an25 cd25 ct25), sl25⟩) (c25 : PySem.W.codeIn K cd25 "_law_setting" = true) (k25 : PySem.W.keepIn K (.ref f25) = true)
    (a26 : PySem.W.nsIn K mainGlobals "_law_count" = some (some (.ref f26))) (l26 : K.lookup f26 = some ⟨oc26, od26, .func (PySem.W.fnOf "_law_count" "_law_count" (defArgs S_law_count) (defBody S_law_count) (defScope S_law_count) .none kV26 dc26 pm26 an26 cd26 ct26), sl26⟩) (c26 : PySem.W.codeIn K cd26 "_law_count" = true) (k26 : PySem.W.keepIn K (.ref f26) = true)
    (a27 : PySem.W.nsIn K mainGlobals "_law_kinds" = some (some (.ref f27))) (l27 : K.lookup f27 = some ⟨oc27, od27, .func (PySem.W.fnOf "_law_kinds" "_law_kinds" (defArgs S_law_kinds) (defBody S_law_kinds) (defScope S_law_kinds) .none kV27 dc27 pm27 an27 cd27 ct27), sl27⟩) (c27 : PySem.W.codeIn K cd27 "_law_kinds" = true) (k27 : PySem.W.keepIn K (.ref f27) = true)
    (a28 : PySem.W.nsIn K mainGlobals "_law_with_wheels" = some (some (.ref f28))) (l28 : K.lookup f28 = some ⟨oc28, od28, .func (PySem.W.fnOf "_law_with_wheels" "_law_with_wheels" (defArgs S_law_with_wheels) (defBody S_law_with_wheels) (defScope S_law_with_wheels) .none kV28 dc28 pm28 an28 cd28 ct28), sl28⟩) (c28 : PySem.W.codeIn K cd28 "_law_with_wheels" = true) (k28 : PySem.W.keepIn K (.ref f28) = true)
    (a29 : PySem.W.nsIn K mainGlobals "_law_with_setting" = some (some (.ref f29))) (l29 : K.lookup f29 = some ⟨oc29, od29, .func (PySem.W.fnOf "_law_with_setting" "_law_with_setting" (defArgs S_law_with_setting) (defBody S_law_with_setting) (defScope S_law_with_setting) .none kV29 dc29 pm29 an29 cd29 ct29), sl29⟩) (c29 : PySem.W.codeIn K cd29 "_law_with_setting" = true) (k29 : PySem.W.keepIn K (.ref f29) = true)
    (a30 : PySem.W.nsIn K mainGlobals "_law_with_number" = some (some (.ref f30))) (l30 : K.lookup f30 = some ⟨oc30, od30, .func (PySem.W.fnOf "_law_with_number" "_law_with_number" (defArgs S_law_with_number) (defBody S_law_with_number) (defScope S_law_with_number) .none kV30 dc30 pm30 an30 cd30 ct30), sl30⟩) (c30 : PySem.W.codeIn K cd30 "_law_with_number" = true) (k30 : PySem.W.keepIn K (.ref f30) = true)
    (a31 : PySem.W.nsIn K mainGlobals "_law_told" = some (some (.ref f31))) (l31 : K.lookup f31 = some ⟨oc31, od31, .func (PySem.W.fnOf "_law_told" "_law_told" (defArgs S_law_told) (defBody S_law_told) (defScope S_law_told) .none kV31 dc31 pm31 an31 cd31 ct31), sl31⟩) (c31 : PySem.W.codeIn K cd31 "_law_told" = true) (k31 : PySem.W.keepIn K (.ref f31) = true)
    (a32 : PySem.W.nsIn K mainGlobals "_law_settings_refused" = some (some (.ref f32))) (l32 : K.lookup f32 = some ⟨oc32, od32, .func (PySem.W.fnOf "_law_settings_refused" "_law_settings_refused" (defArgs S_law_settings_refused) (defBody S_law_settings_refused) (defScope S_law_settings_refused) .none kV32 dc32 pm32 an32 cd32 ct32), sl32⟩) (c32 : PySem.W.codeIn K cd32 "_law_settings_refused" = true) (k32 : PySem.W.keepIn K (.ref f32) = true)
    (a33 : PySem.W.nsIn K mainGlobals "_law_rings_right" = some (some (.ref f33))) (l33 : K.lookup f33 = some ⟨oc33, od33, .func (PySem.W.fnOf "_law_rings_right" "_law_rings_right" (defArgs S_law_rings_right) (defBody S_law_rings_right) (defScope S_law_rings_right) .none kV33 dc33 pm33 an33 cd33 ct33), sl33⟩) (c33 : PySem.W.codeIn K cd33 "_law_rings_right" = true) (k33 : PySem.W.keepIn K (.ref f33) = true)
    (a34 : PySem.W.nsIn K mainGlobals "law" = some (some (.ref f34))) (l34 : K.lookup f34 = some ⟨oc34, od34, .func (PySem.W.fnOf "law" "law" (defArgs S_law) (defBody S_law) (defScope S_law) .none kV34 dc34 pm34 an34 cd34 ct34), sl34⟩) (c34 : PySem.W.codeIn K cd34 "law" = true) (k34 : PySem.W.keepIn K (.ref f34) = true)
    (gBadNumber : PySem.W.nsIn K mainGlobals "BadNumber" = some (some (.ref CBadNumber))) (xBadNumber : PySem.W.excIn K CBadNumber [.type "ValueError", .type "Exception", .type "BaseException", .type "object"] "ValueError.__new__" = true) (kBadNumber : PySem.W.keepIn K (.ref CBadNumber) = true) (bBadNumber : PySem.W.subIn K (.ref CBadNumber) (.type "BaseException") = some true) (tBadNumber : PySem.W.typeIn K (.ref CBadNumber) = some (.type "type"))
    (gBadSetting : PySem.W.nsIn K mainGlobals "BadSetting" = some (some (.ref CBadSetting))) (xBadSetting : PySem.W.excIn K CBadSetting [.type "ValueError", .type "Exception", .type "BaseException", .type "object"] "ValueError.__new__" = true) (kBadSetting : PySem.W.keepIn K (.ref CBadSetting) = true) (bBadSetting : PySem.W.subIn K (.ref CBadSetting) (.type "BaseException") = some true) (tBadSetting : PySem.W.typeIn K (.ref CBadSetting) = some (.type "type"))
    (gBadWheels : PySem.W.nsIn K mainGlobals "BadWheels" = some (some (.ref CBadWheels))) (xBadWheels : PySem.W.excIn K CBadWheels [.type "ValueError", .type "Exception", .type "BaseException", .type "object"] "ValueError.__new__" = true) (kBadWheels : PySem.W.keepIn K (.ref CBadWheels) = true) (bBadWheels : PySem.W.subIn K (.ref CBadWheels) (.type "BaseException") = some true) (tBadWheels : PySem.W.typeIn K (.ref CBadWheels) = some (.type "type"))
    (gNoRing : PySem.W.nsIn K mainGlobals "NoRing" = some (some (.ref CNoRing))) (xNoRing : PySem.W.excIn K CNoRing [.type "ValueError", .type "Exception", .type "BaseException", .type "object"] "ValueError.__new__" = true) (kNoRing : PySem.W.keepIn K (.ref CNoRing) = true) (bNoRing : PySem.W.subIn K (.ref CNoRing) (.type "BaseException") = some true) (tNoRing : PySem.W.typeIn K (.ref CNoRing) = some (.type "type"))
    (gAround : PySem.W.nsIn K mainGlobals "Around" = some (some (.ref CAround))) (pgAround : PySem.W.plainGet K CAround Str.empty = true) (hdAround : PySem.W.hasDictIn K CAround = true) (poAround : PySem.W.plainOver K CAround = true) (saAround : PySem.W.findIn K (.ref CAround) "__setattr__" = some (some (.builtin "object.__setattr__"))) (mkAround : PySem.W.makesIn K CAround = true) (kcAround : PySem.W.keepIn K (.ref CAround) = true)
    (gDead : PySem.W.nsIn K mainGlobals "Dead" = some (some (.ref CDead))) (pgDead : PySem.W.plainGet K CDead Str.empty = true) (hdDead : PySem.W.hasDictIn K CDead = true) (poDead : PySem.W.plainOver K CDead = true) (saDead : PySem.W.findIn K (.ref CDead) "__setattr__" = some (some (.builtin "object.__setattr__"))) (mkDead : PySem.W.makesIn K CDead = true) (kcDead : PySem.W.keepIn K (.ref CDead) = true)
    (gOdd : PySem.W.nsIn K mainGlobals "Odd" = some (some (.ref COdd))) (pgOdd : PySem.W.plainGet K COdd Str.empty = true) (hdOdd : PySem.W.hasDictIn K COdd = true) (poOdd : PySem.W.plainOver K COdd = true) (saOdd : PySem.W.findIn K (.ref COdd) "__setattr__" = some (some (.builtin "object.__setattr__"))) (mkOdd : PySem.W.makesIn K COdd = true) (kcOdd : PySem.W.keepIn K (.ref COdd) = true)
    (glBadNumber : PySem.W.nsIn K mainGlobals "BadNumber" = some (some (.ref CBadNumber)))
    (glBadSetting : PySem.W.nsIn K mainGlobals "BadSetting" = some (some (.ref CBadSetting)))
    (glBadText : PySem.W.nsIn K mainGlobals "BadText" = some (some (.ref CBadText)))
    (glBadWheels : PySem.W.nsIn K mainGlobals "BadWheels" = some (some (.ref CBadWheels)))
    (glNoRing : PySem.W.nsIn K mainGlobals "NoRing" = some (some (.ref CNoRing)))
    (glWheelError : PySem.W.nsIn K mainGlobals "WheelError" = some (some (.ref CWheelError)))
    {tMOST : Nat} (coMOST : PySem.W.nsIn K mainGlobals "MOST" = some (some (.int (10 ^ 60) tMOST)))
    (r0_exc_BadWheels : PySem.W.findIn K (.ref CBadWheels) "__getattribute__" = some (some (.builtin "BaseException.__getattribute__")))
    (r1_exc_BadWheels : PySem.W.findIn K (.ref CBadWheels) "__getattr__" = some none)
    (r2_exc_BadWheels : PySem.W.subIn K (.ref CBadWheels) (.type "BaseException") = some true)
    (r3_exc_BadWheels : PySem.W.hasDictIn K CBadWheels = true)
    (r4_exc_BadWheels : PySem.W.findIn K (.ref CBadWheels) "__class__" = some (some (.builtin "object.__class__")))
    (r5_exc_BadWheels : PySem.W.specialIn K (.builtin "object.__class__") "__get__" = some (some (.builtin "getset_descriptor.__get__")))
    (r6_exc_BadWheels : PySem.W.takesIn K (.builtin "object.__class__") = some true)
    (r7_exc_BadWheels : PySem.W.mroIn K CBadWheels (.type "object") = some true)
    (r0_isx_BadWheels_BadNumber : PySem.W.isClsIn K CBadNumber = true)
    (r1_isx_BadWheels_BadNumber : PySem.W.typeIn K (.ref CBadNumber) = some (.type "type"))
    (r2_isx_BadWheels_BadNumber : PySem.W.subIn K (.ref CBadNumber) (.ref CBadNumber) = some true)
    (r3_isx_BadWheels_BadNumber : PySem.W.subIn K (.ref CBadWheels) (.ref CBadNumber) = some false)
    (r0_isx_BadWheels_BadSetting : PySem.W.isClsIn K CBadSetting = true)
    (r1_isx_BadWheels_BadSetting : PySem.W.typeIn K (.ref CBadSetting) = some (.type "type"))
    (r2_isx_BadWheels_BadSetting : PySem.W.subIn K (.ref CBadSetting) (.ref CBadSetting) = some true)
    (r3_isx_BadWheels_BadSetting : PySem.W.subIn K (.ref CBadWheels) (.ref CBadSetting) = some false)
    (r0_isx_BadWheels_BadText : PySem.W.isClsIn K CBadText = true)
    (r1_isx_BadWheels_BadText : PySem.W.typeIn K (.ref CBadText) = some (.type "type"))
    (r2_isx_BadWheels_BadText : PySem.W.subIn K (.ref CBadText) (.ref CBadText) = some true)
    (r3_isx_BadWheels_BadText : PySem.W.subIn K (.ref CBadWheels) (.ref CBadText) = some false)
    (r0_isx_BadWheels_BadWheels : PySem.W.isClsIn K CBadWheels = true)
    (r1_isx_BadWheels_BadWheels : PySem.W.typeIn K (.ref CBadWheels) = some (.type "type"))
    (r2_isx_BadWheels_BadWheels : PySem.W.subIn K (.ref CBadWheels) (.ref CBadWheels) = some true)
    (r3_isx_BadWheels_BadWheels : PySem.W.subIn K (.ref CBadWheels) (.ref CBadWheels) = some true)
    (r0_isx_BadWheels_NoRing : PySem.W.isClsIn K CNoRing = true)
    (r1_isx_BadWheels_NoRing : PySem.W.typeIn K (.ref CNoRing) = some (.type "type"))
    (r2_isx_BadWheels_NoRing : PySem.W.subIn K (.ref CNoRing) (.ref CNoRing) = some true)
    (r3_isx_BadWheels_NoRing : PySem.W.subIn K (.ref CBadWheels) (.ref CNoRing) = some false)
    (r0_isx_BadWheels_ValueError : PySem.W.subIn K (.ref CBadWheels) (.type "ValueError") = some true)
    (r0_exm_BadWheels_WheelError : PySem.W.subIn K (.ref CWheelError) (.type "BaseException") = some true)
    (r1_exm_BadWheels_WheelError : PySem.W.hasDictIn K CWheelError = true)
    (r2_exm_BadWheels_WheelError : PySem.W.typeIn K (.ref CWheelError) = some (.type "type"))
    (r3_exm_BadWheels_WheelError : PySem.W.subIn K (.ref CBadWheels) (.ref CWheelError) = some true)
    (r0_exc_BadSetting : PySem.W.findIn K (.ref CBadSetting) "__getattribute__" = some (some (.builtin "BaseException.__getattribute__")))
    (r1_exc_BadSetting : PySem.W.findIn K (.ref CBadSetting) "__getattr__" = some none)
    (r2_exc_BadSetting : PySem.W.subIn K (.ref CBadSetting) (.type "BaseException") = some true)
    (r3_exc_BadSetting : PySem.W.hasDictIn K CBadSetting = true)
    (r4_exc_BadSetting : PySem.W.findIn K (.ref CBadSetting) "__class__" = some (some (.builtin "object.__class__")))
    (r5_exc_BadSetting : PySem.W.specialIn K (.builtin "object.__class__") "__get__" = some (some (.builtin "getset_descriptor.__get__")))
    (r6_exc_BadSetting : PySem.W.takesIn K (.builtin "object.__class__") = some true)
    (r7_exc_BadSetting : PySem.W.mroIn K CBadSetting (.type "object") = some true)
    (r0_isx_BadSetting_BadNumber : PySem.W.isClsIn K CBadNumber = true)
    (r1_isx_BadSetting_BadNumber : PySem.W.typeIn K (.ref CBadNumber) = some (.type "type"))
    (r2_isx_BadSetting_BadNumber : PySem.W.subIn K (.ref CBadNumber) (.ref CBadNumber) = some true)
    (r3_isx_BadSetting_BadNumber : PySem.W.subIn K (.ref CBadSetting) (.ref CBadNumber) = some false)
    (r0_isx_BadSetting_BadSetting : PySem.W.isClsIn K CBadSetting = true)
    (r1_isx_BadSetting_BadSetting : PySem.W.typeIn K (.ref CBadSetting) = some (.type "type"))
    (r2_isx_BadSetting_BadSetting : PySem.W.subIn K (.ref CBadSetting) (.ref CBadSetting) = some true)
    (r3_isx_BadSetting_BadSetting : PySem.W.subIn K (.ref CBadSetting) (.ref CBadSetting) = some true)
    (r0_isx_BadSetting_BadText : PySem.W.isClsIn K CBadText = true)
    (r1_isx_BadSetting_BadText : PySem.W.typeIn K (.ref CBadText) = some (.type "type"))
    (r2_isx_BadSetting_BadText : PySem.W.subIn K (.ref CBadText) (.ref CBadText) = some true)
    (r3_isx_BadSetting_BadText : PySem.W.subIn K (.ref CBadSetting) (.ref CBadText) = some false)
    (r0_isx_BadSetting_BadWheels : PySem.W.isClsIn K CBadWheels = true)
    (r1_isx_BadSetting_BadWheels : PySem.W.typeIn K (.ref CBadWheels) = some (.type "type"))
    (r2_isx_BadSetting_BadWheels : PySem.W.subIn K (.ref CBadWheels) (.ref CBadWheels) = some true)
    (r3_isx_BadSetting_BadWheels : PySem.W.subIn K (.ref CBadSetting) (.ref CBadWheels) = some false)
    (r0_isx_BadSetting_NoRing : PySem.W.isClsIn K CNoRing = true)
    (r1_isx_BadSetting_NoRing : PySem.W.typeIn K (.ref CNoRing) = some (.type "type"))
    (r2_isx_BadSetting_NoRing : PySem.W.subIn K (.ref CNoRing) (.ref CNoRing) = some true)
    (r3_isx_BadSetting_NoRing : PySem.W.subIn K (.ref CBadSetting) (.ref CNoRing) = some false)
    (r0_isx_BadSetting_ValueError : PySem.W.subIn K (.ref CBadSetting) (.type "ValueError") = some true)
    (r0_exm_BadSetting_WheelError : PySem.W.subIn K (.ref CWheelError) (.type "BaseException") = some true)
    (r1_exm_BadSetting_WheelError : PySem.W.hasDictIn K CWheelError = true)
    (r2_exm_BadSetting_WheelError : PySem.W.typeIn K (.ref CWheelError) = some (.type "type"))
    (r3_exm_BadSetting_WheelError : PySem.W.subIn K (.ref CBadSetting) (.ref CWheelError) = some true)
    (r0_exc_BadNumber : PySem.W.findIn K (.ref CBadNumber) "__getattribute__" = some (some (.builtin "BaseException.__getattribute__")))
    (r1_exc_BadNumber : PySem.W.findIn K (.ref CBadNumber) "__getattr__" = some none)
    (r2_exc_BadNumber : PySem.W.subIn K (.ref CBadNumber) (.type "BaseException") = some true)
    (r3_exc_BadNumber : PySem.W.hasDictIn K CBadNumber = true)
    (r4_exc_BadNumber : PySem.W.findIn K (.ref CBadNumber) "__class__" = some (some (.builtin "object.__class__")))
    (r5_exc_BadNumber : PySem.W.specialIn K (.builtin "object.__class__") "__get__" = some (some (.builtin "getset_descriptor.__get__")))
    (r6_exc_BadNumber : PySem.W.takesIn K (.builtin "object.__class__") = some true)
    (r7_exc_BadNumber : PySem.W.mroIn K CBadNumber (.type "object") = some true)
    (r0_isx_BadNumber_BadNumber : PySem.W.isClsIn K CBadNumber = true)
    (r1_isx_BadNumber_BadNumber : PySem.W.typeIn K (.ref CBadNumber) = some (.type "type"))
    (r2_isx_BadNumber_BadNumber : PySem.W.subIn K (.ref CBadNumber) (.ref CBadNumber) = some true)
    (r3_isx_BadNumber_BadNumber : PySem.W.subIn K (.ref CBadNumber) (.ref CBadNumber) = some true)
    (r0_isx_BadNumber_BadSetting : PySem.W.isClsIn K CBadSetting = true)
    (r1_isx_BadNumber_BadSetting : PySem.W.typeIn K (.ref CBadSetting) = some (.type "type"))
    (r2_isx_BadNumber_BadSetting : PySem.W.subIn K (.ref CBadSetting) (.ref CBadSetting) = some true)
    (r3_isx_BadNumber_BadSetting : PySem.W.subIn K (.ref CBadNumber) (.ref CBadSetting) = some false)
    (r0_isx_BadNumber_BadText : PySem.W.isClsIn K CBadText = true)
    (r1_isx_BadNumber_BadText : PySem.W.typeIn K (.ref CBadText) = some (.type "type"))
    (r2_isx_BadNumber_BadText : PySem.W.subIn K (.ref CBadText) (.ref CBadText) = some true)
    (r3_isx_BadNumber_BadText : PySem.W.subIn K (.ref CBadNumber) (.ref CBadText) = some false)
    (r0_isx_BadNumber_BadWheels : PySem.W.isClsIn K CBadWheels = true)
    (r1_isx_BadNumber_BadWheels : PySem.W.typeIn K (.ref CBadWheels) = some (.type "type"))
    (r2_isx_BadNumber_BadWheels : PySem.W.subIn K (.ref CBadWheels) (.ref CBadWheels) = some true)
    (r3_isx_BadNumber_BadWheels : PySem.W.subIn K (.ref CBadNumber) (.ref CBadWheels) = some false)
    (r0_isx_BadNumber_NoRing : PySem.W.isClsIn K CNoRing = true)
    (r1_isx_BadNumber_NoRing : PySem.W.typeIn K (.ref CNoRing) = some (.type "type"))
    (r2_isx_BadNumber_NoRing : PySem.W.subIn K (.ref CNoRing) (.ref CNoRing) = some true)
    (r3_isx_BadNumber_NoRing : PySem.W.subIn K (.ref CBadNumber) (.ref CNoRing) = some false)
    (r0_isx_BadNumber_ValueError : PySem.W.subIn K (.ref CBadNumber) (.type "ValueError") = some true)
    (r0_exm_BadNumber_WheelError : PySem.W.subIn K (.ref CWheelError) (.type "BaseException") = some true)
    (r1_exm_BadNumber_WheelError : PySem.W.hasDictIn K CWheelError = true)
    (r2_exm_BadNumber_WheelError : PySem.W.typeIn K (.ref CWheelError) = some (.type "type"))
    (r3_exm_BadNumber_WheelError : PySem.W.subIn K (.ref CBadNumber) (.ref CWheelError) = some true)
    (r0_exc_NoRing : PySem.W.findIn K (.ref CNoRing) "__getattribute__" = some (some (.builtin "BaseException.__getattribute__")))
    (r1_exc_NoRing : PySem.W.findIn K (.ref CNoRing) "__getattr__" = some none)
    (r2_exc_NoRing : PySem.W.subIn K (.ref CNoRing) (.type "BaseException") = some true)
    (r3_exc_NoRing : PySem.W.hasDictIn K CNoRing = true)
    (r4_exc_NoRing : PySem.W.findIn K (.ref CNoRing) "__class__" = some (some (.builtin "object.__class__")))
    (r5_exc_NoRing : PySem.W.specialIn K (.builtin "object.__class__") "__get__" = some (some (.builtin "getset_descriptor.__get__")))
    (r6_exc_NoRing : PySem.W.takesIn K (.builtin "object.__class__") = some true)
    (r7_exc_NoRing : PySem.W.mroIn K CNoRing (.type "object") = some true)
    (r0_isx_NoRing_BadNumber : PySem.W.isClsIn K CBadNumber = true)
    (r1_isx_NoRing_BadNumber : PySem.W.typeIn K (.ref CBadNumber) = some (.type "type"))
    (r2_isx_NoRing_BadNumber : PySem.W.subIn K (.ref CBadNumber) (.ref CBadNumber) = some true)
    (r3_isx_NoRing_BadNumber : PySem.W.subIn K (.ref CNoRing) (.ref CBadNumber) = some false)
    (r0_isx_NoRing_BadSetting : PySem.W.isClsIn K CBadSetting = true)
    (r1_isx_NoRing_BadSetting : PySem.W.typeIn K (.ref CBadSetting) = some (.type "type"))
    (r2_isx_NoRing_BadSetting : PySem.W.subIn K (.ref CBadSetting) (.ref CBadSetting) = some true)
    (r3_isx_NoRing_BadSetting : PySem.W.subIn K (.ref CNoRing) (.ref CBadSetting) = some false)
    (r0_isx_NoRing_BadText : PySem.W.isClsIn K CBadText = true)
    (r1_isx_NoRing_BadText : PySem.W.typeIn K (.ref CBadText) = some (.type "type"))
    (r2_isx_NoRing_BadText : PySem.W.subIn K (.ref CBadText) (.ref CBadText) = some true)
    (r3_isx_NoRing_BadText : PySem.W.subIn K (.ref CNoRing) (.ref CBadText) = some false)
    (r0_isx_NoRing_BadWheels : PySem.W.isClsIn K CBadWheels = true)
    (r1_isx_NoRing_BadWheels : PySem.W.typeIn K (.ref CBadWheels) = some (.type "type"))
    (r2_isx_NoRing_BadWheels : PySem.W.subIn K (.ref CBadWheels) (.ref CBadWheels) = some true)
    (r3_isx_NoRing_BadWheels : PySem.W.subIn K (.ref CNoRing) (.ref CBadWheels) = some false)
    (r0_isx_NoRing_NoRing : PySem.W.isClsIn K CNoRing = true)
    (r1_isx_NoRing_NoRing : PySem.W.typeIn K (.ref CNoRing) = some (.type "type"))
    (r2_isx_NoRing_NoRing : PySem.W.subIn K (.ref CNoRing) (.ref CNoRing) = some true)
    (r3_isx_NoRing_NoRing : PySem.W.subIn K (.ref CNoRing) (.ref CNoRing) = some true)
    (r0_isx_NoRing_ValueError : PySem.W.subIn K (.ref CNoRing) (.type "ValueError") = some true)
    (r0_exm_NoRing_WheelError : PySem.W.subIn K (.ref CWheelError) (.type "BaseException") = some true)
    (r1_exm_NoRing_WheelError : PySem.W.hasDictIn K CWheelError = true)
    (r2_exm_NoRing_WheelError : PySem.W.typeIn K (.ref CWheelError) = some (.type "type"))
    (r3_exm_NoRing_WheelError : PySem.W.subIn K (.ref CNoRing) (.ref CWheelError) = some true)
    (inAround : PySem.W.findIn K (.ref CAround) "__init__" = some (some (.builtin "object.__init__")))
    (inOdd : PySem.W.findIn K (.ref COdd) "__init__" = some (some (.builtin "object.__init__")))
    (a100 : PySem.W.findIn K (.ref CAround) "shows" = some (some (.ref f100))) (i100 : PySem.W.isFn K (.ref f100) = true) (l100 : K.lookup f100 = some ⟨oc100, od100, .func (PySem.W.fnOf "shows" "Around.shows" (defArgs S_Around_shows) (defBody S_Around_shows) (defScope S_Around_shows) .none kV100 dc100 pm100 an100 cd100 ct100), sl100⟩) (c100 : PySem.W.codeIn K cd100 "Around.shows" = true) (k100 : PySem.W.keepIn K (.ref f100) = true)
    (a101 : PySem.W.findIn K (.ref CDead) "__init__" = some (some (.ref f101))) (i101 : PySem.W.isFn K (.ref f101) = true) (l101 : K.lookup f101 = some ⟨oc101, od101, .func (PySem.W.fnOf "__init__" "Dead.__init__" (defArgs S_Dead_init) (defBody S_Dead_init) (defScope S_Dead_init) .none kV101 dc101 pm101 an101 cd101 ct101), sl101⟩) (c101 : PySem.W.codeIn K cd101 "Dead.__init__" = true) (k101 : PySem.W.keepIn K (.ref f101) = true)
    (nasetting : PySem.W.findIn K (.ref CDead) "setting" = some none)
    (zValueError : PySem.W.nsIn K mainGlobals "ValueError" = some none)
    (zabs : PySem.W.nsIn K mainGlobals "abs" = some none)
    (zall : PySem.W.nsIn K mainGlobals "all" = some none)
    (zbool : PySem.W.nsIn K mainGlobals "bool" = some none)
    (zdivmod : PySem.W.nsIn K mainGlobals "divmod" = some none)
    (zenumerate : PySem.W.nsIn K mainGlobals "enumerate" = some none)
    (zint : PySem.W.nsIn K mainGlobals "int" = some none)
    (zisinstance : PySem.W.nsIn K mainGlobals "isinstance" = some none)
    (zlen : PySem.W.nsIn K mainGlobals "len" = some none)
    (zlist : PySem.W.nsIn K mainGlobals "list" = some none)
    (zrange : PySem.W.nsIn K mainGlobals "range" = some none)
    (zreversed : PySem.W.nsIn K mainGlobals "reversed" = some none)
    (zsorted : PySem.W.nsIn K mainGlobals "sorted" = some none)
    (zstr : PySem.W.nsIn K mainGlobals "str" = some none)
    (zsum : PySem.W.nsIn K mainGlobals "sum" = some none)
    (ztuple : PySem.W.nsIn K mainGlobals "tuple" = some none)
    : ∃ fd : FuncData, (∀ (s : Shared) (v : Value), BindsTo s fd ⟨[v], []⟩ [("_law_script", v)]) ∧ ∀ base : Heap, K.In base → base.Ns mainGlobals mg → FnOk l.prog w K mg base CX0 8 fa fd ["_law_script"] (sp_law K ⟨0, 0, 0, 0, 0, 0, 0, 0, 0, 0, 0, 0, 0, 0, 0⟩) := by
  have e := hfa.symm.trans (PySem.W.mg_of X G a34)
  cases e
  have T : Txt K mg ⟨CWheelError, CBadWheels, CBadSetting, CBadNumber, CNoRing, CBadText, 0, CAround, CDead, COdd, 0, f19, f20, f28, f30⟩ := {
    d_is_whole := ⟨_, _, fun_mk (st := S_is_whole) l0 c0 k0, PySem.W.mg_of X G a0, (fun_mk (st := S_is_whole) l0 c0 k0).binds (ps := ["thing"]) fun _ _ _ _ _ _ us hl => match us, hl with | [_], _ => rfl⟩
    d_check_wheels := ⟨_, _, fun_mk (st := S_check_wheels) l1 c1 k1, PySem.W.mg_of X G a1, (fun_mk (st := S_check_wheels) l1 c1 k1).binds (ps := ["wheels"]) fun _ _ _ _ _ _ us hl => match us, hl with | [_], _ => rfl⟩
    d_is_setting := ⟨_, _, fun_mk (st := S_is_setting) l2 c2 k2, PySem.W.mg_of X G a2, (fun_mk (st := S_is_setting) l2 c2 k2).binds (ps := ["wheels", "setting"]) fun _ _ _ _ _ _ us hl => match us, hl with | [_, _], _ => rfl⟩
    d_check_setting := ⟨_, _, fun_mk (st := S_check_setting) l3 c3 k3, PySem.W.mg_of X G a3, (fun_mk (st := S_check_setting) l3 c3 k3).binds (ps := ["wheels", "setting"]) fun _ _ _ _ _ _ us hl => match us, hl with | [_, _], _ => rfl⟩
    d_check_number := ⟨_, _, fun_mk (st := S_check_number) l4 c4 k4, PySem.W.mg_of X G a4, (fun_mk (st := S_check_number) l4 c4 k4).binds (ps := ["wheels", "number"]) fun _ _ _ _ _ _ us hl => match us, hl with | [_, _], _ => rfl⟩
    d_count_of := ⟨_, _, fun_mk (st := S_count_of) l5 c5 k5, PySem.W.mg_of X G a5, (fun_mk (st := S_count_of) l5 c5 k5).binds (ps := ["wheels"]) fun _ _ _ _ _ _ us hl => match us, hl with | [_], _ => rfl⟩
    d_settings := ⟨_, _, fun_mk (st := S_settings) l6 c6 k6, PySem.W.mg_of X G a6, (fun_mk (st := S_settings) l6 c6 k6).binds (ps := ["wheels"]) fun _ _ _ _ _ _ us hl => match us, hl with | [_], _ => rfl⟩
    d_neighbours := ⟨_, _, fun_mk (st := S_neighbours) l7 c7 k7, PySem.W.mg_of X G a7, (fun_mk (st := S_neighbours) l7 c7 k7).binds (ps := ["wheels", "setting"]) fun _ _ _ _ _ _ us hl => match us, hl with | [_, _], _ => rfl⟩
    d_near := ⟨_, _, fun_mk (st := S_near) l8 c8 k8, PySem.W.mg_of X G a8, (fun_mk (st := S_near) l8 c8 k8).binds (ps := ["wheels", "setting"]) fun _ _ _ _ _ _ us hl => match us, hl with | [_, _], _ => rfl⟩
    d_apart := ⟨_, _, fun_mk (st := S_apart) l9 c9 k9, PySem.W.mg_of X G a9, (fun_mk (st := S_apart) l9 c9 k9).binds (ps := ["wheels", "one", "other"]) fun _ _ _ _ _ _ us hl => match us, hl with | [_, _, _], _ => rfl⟩
    d_turning := ⟨_, _, fun_mk (st := S_turning) l10 c10 k10, PySem.W.mg_of X G a10, (fun_mk (st := S_turning) l10 c10 k10).binds (ps := ["wheels"]) fun _ _ _ _ _ _ us hl => match us, hl with | [_], _ => rfl⟩
    d_setting_at := ⟨_, _, fun_mk (st := S_setting_at) l11 c11 k11, PySem.W.mg_of X G a11, (fun_mk (st := S_setting_at) l11 c11 k11).binds (ps := ["wheels", "number"]) fun _ _ _ _ _ _ us hl => match us, hl with | [_, _], _ => rfl⟩
    d_number_at := ⟨_, _, fun_mk (st := S_number_at) l12 c12 k12, PySem.W.mg_of X G a12, (fun_mk (st := S_number_at) l12 c12 k12).binds (ps := ["wheels", "setting"]) fun _ _ _ _ _ _ us hl => match us, hl with | [_, _], _ => rfl⟩
    d_setting_of := ⟨_, _, fun_mk (st := S_setting_of) l13 c13 k13, PySem.W.mg_of X G a13, (fun_mk (st := S_setting_of) l13 c13 k13).binds (ps := ["wheels", "number"]) fun _ _ _ _ _ _ us hl => match us, hl with | [_, _], _ => rfl⟩
    d_number_of := ⟨_, _, fun_mk (st := S_number_of) l14 c14 k14, PySem.W.mg_of X G a14, (fun_mk (st := S_number_of) l14 c14 k14).binds (ps := ["wheels", "setting"]) fun _ _ _ _ _ _ us hl => match us, hl with | [_, _], _ => rfl⟩
    d_around := ⟨_, _, fun_mk (st := S_around) l15 c15 k15, PySem.W.mg_of X G a15, (fun_mk (st := S_around) l15 c15 k15).binds (ps := ["wheels"]) fun _ _ _ _ _ _ us hl => match us, hl with | [_], _ => rfl⟩
    d_check_ring := ⟨_, _, fun_mk (st := S_check_ring) l16 c16 k16, PySem.W.mg_of X G a16, (fun_mk (st := S_check_ring) l16 c16 k16).binds (ps := ["wheels"]) fun _ _ _ _ _ _ us hl => match us, hl with | [_], _ => rfl⟩
    d_even_wheel := ⟨_, _, fun_mk (st := S_even_wheel) l17 c17 k17, PySem.W.mg_of X G a17, (fun_mk (st := S_even_wheel) l17 c17 k17).binds (ps := ["wheels"]) fun _ _ _ _ _ _ us hl => match us, hl with | [_], _ => rfl⟩
    d_without := ⟨_, _, fun_mk (st := S_without) l18 c18 k18, PySem.W.mg_of X G a18, (fun_mk (st := S_without) l18 c18 k18).binds (ps := ["things", "place"]) fun _ _ _ _ _ _ us hl => match us, hl with | [_, _], _ => rfl⟩
    d_ring_setting := ⟨_, _, fun_mk (st := S_ring_setting) l19 c19 k19, PySem.W.mg_of X G a19, (fun_mk (st := S_ring_setting) l19 c19 k19).binds (ps := ["wheels", "number"]) fun _ _ _ _ _ _ us hl => match us, hl with | [_, _], _ => rfl⟩
    d_ring_number := ⟨_, _, fun_mk (st := S_ring_number) l20 c20 k20, PySem.W.mg_of X G a20, (fun_mk (st := S_ring_number) l20 c20 k20).binds (ps := ["wheels", "setting"]) fun _ _ _ _ _ _ us hl => match us, hl with | [_, _], _ => rfl⟩
    d_written := ⟨_, _, fun_mk (st := S_written) l21 c21 k21, PySem.W.mg_of X G a21, (fun_mk (st := S_written) l21 c21 k21).binds (ps := ["wheels", "setting"]) fun _ _ _ _ _ _ us hl => match us, hl with | [_, _], _ => rfl⟩
    d_law_cell_at := ⟨_, _, fun_mk (st := S_law_cell_at) l22 c22 k22, PySem.W.mg_of X G a22, (fun_mk (st := S_law_cell_at) l22 c22 k22).binds (ps := ["_law_script", "_law_k"]) fun _ _ _ _ _ _ us hl => match us, hl with | [_, _], _ => rfl⟩
    d_law_draw := ⟨_, _, fun_mk (st := S_law_draw) l23 c23 k23, PySem.W.mg_of X G a23, (fun_mk (st := S_law_draw) l23 c23 k23).binds (ps := ["_law_cell", "_law_k", "_law_many"]) fun _ _ _ _ _ _ us hl => match us, hl with | [_, _, _], _ => rfl⟩
    d_law_wheels := ⟨_, _, fun_mk (st := S_law_wheels) l24 c24 k24, PySem.W.mg_of X G a24, (fun_mk (st := S_law_wheels) l24 c24 k24).binds (ps := ["_law_script"]) fun _ _ _ _ _ _ us hl => match us, hl with | [_], _ => rfl⟩
    d_law_setting := ⟨_, _, fun_mk (st := S_law_setting) l25 c25 k25, PySem.W.mg_of X G a25, (fun_mk (st := S_law_setting) l25 c25 k25).binds (ps := ["_law_script", "_law_wheels_here", "_law_by"]) fun _ _ _ _ _ _ us hl => match us, hl with | [_, _, _], _ => rfl⟩
    d_law_count := ⟨_, _, fun_mk (st := S_law_count) l26 c26 k26, PySem.W.mg_of X G a26, (fun_mk (st := S_law_count) l26 c26 k26).binds (ps := ["_law_wheels_here"]) fun _ _ _ _ _ _ us hl => match us, hl with | [_], _ => rfl⟩
    d_law_kinds := ⟨_, _, fun_mk (st := S_law_kinds) l27 c27 k27, PySem.W.mg_of X G a27, (fun_mk (st := S_law_kinds) l27 c27 k27).binds (ps := ["_law_error"]) fun _ _ _ _ _ _ us hl => match us, hl with | [_], _ => rfl⟩
    d_law_with_wheels := ⟨_, _, fun_mk (st := S_law_with_wheels) l28 c28 k28, PySem.W.mg_of X G a28, (fun_mk (st := S_law_with_wheels) l28 c28 k28).binds (ps := ["_law_door", "_law_wheels_here"]) fun _ _ _ _ _ _ us hl => match us, hl with | [_, _], _ => rfl⟩
    d_law_with_setting := ⟨_, _, fun_mk (st := S_law_with_setting) l29 c29 k29, PySem.W.mg_of X G a29, (fun_mk (st := S_law_with_setting) l29 c29 k29).binds (ps := ["_law_ask", "_law_wheels_here", "_law_setting_here"]) fun _ _ _ _ _ _ us hl => match us, hl with | [_, _, _], _ => rfl⟩
    d_law_with_number := ⟨_, _, fun_mk (st := S_law_with_number) l30 c30 k30, PySem.W.mg_of X G a30, (fun_mk (st := S_law_with_number) l30 c30 k30).binds (ps := ["_law_wheels_here", "_law_number"]) fun _ _ _ _ _ _ us hl => match us, hl with | [_, _], _ => rfl⟩
    d_law_told := ⟨_, _, fun_mk (st := S_law_told) l31 c31 k31, PySem.W.mg_of X G a31, (fun_mk (st := S_law_told) l31 c31 k31).binds (ps := ["_law_ask", "_law_one", "_law_other"]) fun _ _ _ _ _ _ us hl => match us, hl with | [_, _, _], _ => rfl⟩
    d_law_settings_refused := ⟨_, _, fun_mk (st := S_law_settings_refused) l32 c32 k32, PySem.W.mg_of X G a32, (fun_mk (st := S_law_settings_refused) l32 c32 k32).binds (ps := ["_law_wheels_here", "_law_setting_here", "_law_bad", "_law_due"]) fun _ _ _ _ _ _ us hl => match us, hl with | [_, _, _, _], _ => rfl⟩
    d_law_rings_right := ⟨_, _, fun_mk (st := S_law_rings_right) l33 c33 k33, PySem.W.mg_of X G a33, (fun_mk (st := S_law_rings_right) l33 c33 k33).binds (ps := ["_law_due", "_law_far_here"]) fun _ _ _ _ _ _ us hl => match us, hl with | [_, _], _ => rfl⟩
    d_law := ⟨_, _, fun_mk (st := S_law) l34 c34 k34, PySem.W.mg_of X G a34, (fun_mk (st := S_law) l34 c34 k34).binds (ps := ["_law_script"]) fun _ _ _ _ _ _ us hl => match us, hl with | [_], _ => rfl⟩
    b_ValueError := PySem.W.mg_none_of X G zValueError
    b_abs := PySem.W.mg_none_of X G zabs
    b_all := PySem.W.mg_none_of X G zall
    b_bool := PySem.W.mg_none_of X G zbool
    b_divmod := PySem.W.mg_none_of X G zdivmod
    b_enumerate := PySem.W.mg_none_of X G zenumerate
    b_int := PySem.W.mg_none_of X G zint
    b_isinstance := PySem.W.mg_none_of X G zisinstance
    b_len := PySem.W.mg_none_of X G zlen
    b_list := PySem.W.mg_none_of X G zlist
    b_range := PySem.W.mg_none_of X G zrange
    b_reversed := PySem.W.mg_none_of X G zreversed
    b_sorted := PySem.W.mg_none_of X G zsorted
    b_str := PySem.W.mg_none_of X G zstr
    b_sum := PySem.W.mg_none_of X G zsum
    b_tuple := PySem.W.mg_none_of X G ztuple
    e_BadNumber := ⟨PySem.W.mg_of X G gBadNumber, xBadNumber, kBadNumber, bBadNumber, tBadNumber⟩
    e_BadSetting := ⟨PySem.W.mg_of X G gBadSetting, xBadSetting, kBadSetting, bBadSetting, tBadSetting⟩
    e_BadWheels := ⟨PySem.W.mg_of X G gBadWheels, xBadWheels, kBadWheels, bBadWheels, tBadWheels⟩
    e_NoRing := ⟨PySem.W.mg_of X G gNoRing, xNoRing, kNoRing, bNoRing, tNoRing⟩
    c_Around := ⟨PySem.W.mg_of X G gAround, ⟨pgAround, hdAround, poAround, saAround⟩, mkAround, kcAround⟩
    c_Dead := ⟨PySem.W.mg_of X G gDead, ⟨pgDead, hdDead, poDead, saDead⟩, mkDead, kcDead⟩
    c_Odd := ⟨PySem.W.mg_of X G gOdd, ⟨pgOdd, hdOdd, poOdd, saOdd⟩, mkOdd, kcOdd⟩
    i_Around := inAround
    i_Odd := inOdd
    g_BadNumber := PySem.W.mg_of X G glBadNumber
    g_BadSetting := PySem.W.mg_of X G glBadSetting
    g_BadText := PySem.W.mg_of X G glBadText
    g_BadWheels := PySem.W.mg_of X G glBadWheels
    g_NoRing := PySem.W.mg_of X G glNoRing
    g_WheelError := PySem.W.mg_of X G glWheelError
    k_MOST := ⟨_, PySem.W.mg_of X G coMOST⟩
    a__law_with_number := PySem.W.mg_of X G a30
    a__law_with_wheels := PySem.W.mg_of X G a28
    a_ring_number := PySem.W.mg_of X G a20
    a_ring_setting := PySem.W.mg_of X G a19
    exc_BadWheels := ⟨r0_exc_BadWheels, r1_exc_BadWheels, r2_exc_BadWheels, r3_exc_BadWheels, r4_exc_BadWheels, r5_exc_BadWheels, r6_exc_BadWheels, r7_exc_BadWheels⟩
    isx_BadWheels_BadNumber := kit_ref r0_isx_BadWheels_BadNumber r1_isx_BadWheels_BadNumber r2_isx_BadWheels_BadNumber r3_isx_BadWheels_BadNumber
    isx_BadWheels_BadSetting := kit_ref r0_isx_BadWheels_BadSetting r1_isx_BadWheels_BadSetting r2_isx_BadWheels_BadSetting r3_isx_BadWheels_BadSetting
    isx_BadWheels_BadText := kit_ref r0_isx_BadWheels_BadText r1_isx_BadWheels_BadText r2_isx_BadWheels_BadText r3_isx_BadWheels_BadText
    isx_BadWheels_BadWheels := kit_ref r0_isx_BadWheels_BadWheels r1_isx_BadWheels_BadWheels r2_isx_BadWheels_BadWheels r3_isx_BadWheels_BadWheels
    isx_BadWheels_NoRing := kit_ref r0_isx_BadWheels_NoRing r1_isx_BadWheels_NoRing r2_isx_BadWheels_NoRing r3_isx_BadWheels_NoRing
    isx_BadWheels_ValueError := kit_typ (by decide +kernel) r0_isx_BadWheels_ValueError
    exm_BadWheels_WheelError := PySem.W.exm_ref r0_exm_BadWheels_WheelError r1_exm_BadWheels_WheelError r2_exm_BadWheels_WheelError r3_exm_BadWheels_WheelError
    exc_BadSetting := ⟨r0_exc_BadSetting, r1_exc_BadSetting, r2_exc_BadSetting, r3_exc_BadSetting, r4_exc_BadSetting, r5_exc_BadSetting, r6_exc_BadSetting, r7_exc_BadSetting⟩
    isx_BadSetting_BadNumber := kit_ref r0_isx_BadSetting_BadNumber r1_isx_BadSetting_BadNumber r2_isx_BadSetting_BadNumber r3_isx_BadSetting_BadNumber
    isx_BadSetting_BadSetting := kit_ref r0_isx_BadSetting_BadSetting r1_isx_BadSetting_BadSetting r2_isx_BadSetting_BadSetting r3_isx_BadSetting_BadSetting
    isx_BadSetting_BadText := kit_ref r0_isx_BadSetting_BadText r1_isx_BadSetting_BadText r2_isx_BadSetting_BadText r3_isx_BadSetting_BadText
    isx_BadSetting_BadWheels := kit_ref r0_isx_BadSetting_BadWheels r1_isx_BadSetting_BadWheels r2_isx_BadSetting_BadWheels r3_isx_BadSetting_BadWheels
    isx_BadSetting_NoRing := kit_ref r0_isx_BadSetting_NoRing r1_isx_BadSetting_NoRing r2_isx_BadSetting_NoRing r3_isx_BadSetting_NoRing
    isx_BadSetting_ValueError := kit_typ (by decide +kernel) r0_isx_BadSetting_ValueError
    exm_BadSetting_WheelError := PySem.W.exm_ref r0_exm_BadSetting_WheelError r1_exm_BadSetting_WheelError r2_exm_BadSetting_WheelError r3_exm_BadSetting_WheelError
    exc_BadNumber := ⟨r0_exc_BadNumber, r1_exc_BadNumber, r2_exc_BadNumber, r3_exc_BadNumber, r4_exc_BadNumber, r5_exc_BadNumber, r6_exc_BadNumber, r7_exc_BadNumber⟩
    isx_BadNumber_BadNumber := kit_ref r0_isx_BadNumber_BadNumber r1_isx_BadNumber_BadNumber r2_isx_BadNumber_BadNumber r3_isx_BadNumber_BadNumber
    isx_BadNumber_BadSetting := kit_ref r0_isx_BadNumber_BadSetting r1_isx_BadNumber_BadSetting r2_isx_BadNumber_BadSetting r3_isx_BadNumber_BadSetting
    isx_BadNumber_BadText := kit_ref r0_isx_BadNumber_BadText r1_isx_BadNumber_BadText r2_isx_BadNumber_BadText r3_isx_BadNumber_BadText
    isx_BadNumber_BadWheels := kit_ref r0_isx_BadNumber_BadWheels r1_isx_BadNumber_BadWheels r2_isx_BadNumber_BadWheels r3_isx_BadNumber_BadWheels
    isx_BadNumber_NoRing := kit_ref r0_isx_BadNumber_NoRing r1_isx_BadNumber_NoRing r2_isx_BadNumber_NoRing r3_isx_BadNumber_NoRing
    isx_BadNumber_ValueError := kit_typ (by decide +kernel) r0_isx_BadNumber_ValueError
    exm_BadNumber_WheelError := PySem.W.exm_ref r0_exm_BadNumber_WheelError r1_exm_BadNumber_WheelError r2_exm_BadNumber_WheelError r3_exm_BadNumber_WheelError
    exc_NoRing := ⟨r0_exc_NoRing, r1_exc_NoRing, r2_exc_NoRing, r3_exc_NoRing, r4_exc_NoRing, r5_exc_NoRing, r6_exc_NoRing, r7_exc_NoRing⟩
    isx_NoRing_BadNumber := kit_ref r0_isx_NoRing_BadNumber r1_isx_NoRing_BadNumber r2_isx_NoRing_BadNumber r3_isx_NoRing_BadNumber
    isx_NoRing_BadSetting := kit_ref r0_isx_NoRing_BadSetting r1_isx_NoRing_BadSetting r2_isx_NoRing_BadSetting r3_isx_NoRing_BadSetting
    isx_NoRing_BadText := kit_ref r0_isx_NoRing_BadText r1_isx_NoRing_BadText r2_isx_NoRing_BadText r3_isx_NoRing_BadText
    isx_NoRing_BadWheels := kit_ref r0_isx_NoRing_BadWheels r1_isx_NoRing_BadWheels r2_isx_NoRing_BadWheels r3_isx_NoRing_BadWheels
    isx_NoRing_NoRing := kit_ref r0_isx_NoRing_NoRing r1_isx_NoRing_NoRing r2_isx_NoRing_NoRing r3_isx_NoRing_NoRing
    isx_NoRing_ValueError := kit_typ (by decide +kernel) r0_isx_NoRing_ValueError
    exm_NoRing_WheelError := PySem.W.exm_ref r0_exm_NoRing_WheelError r1_exm_NoRing_WheelError r2_exm_NoRing_WheelError r3_exm_NoRing_WheelError
    m_Around_shows := ⟨_, _, fun_mk (st := S_Around_shows) l100 c100 k100, ⟨a100, i100, k100⟩, (fun_mk (st := S_Around_shows) l100 c100 k100).binds (ps := ["self", "wheels"]) fun _ _ _ _ _ _ us hl => match us, hl with | [_, _], _ => rfl⟩
    m_Dead_init := ⟨_, _, fun_mk (st := S_Dead_init) l101 c101 k101, ⟨a101, i101, k101⟩, (fun_mk (st := S_Dead_init) l101 c101 k101).binds (ps := ["self", "setting"]) fun _ _ _ _ _ _ us hl => match us, hl with | [_, _], _ => rfl⟩
    n_setting := nasetting
  }
  refine ⟨PySem.W.fnOf "law" "law" (defArgs S_law) (defBody S_law) (defScope S_law) .none kV34 dc34 pm34 an34 cd34 ct34, fun s v => .of_eq rfl, fun base _ _ => ?_⟩
  have z := ok_law (P := l.prog) (w := w) (base := base) (fun_mk (st := S_law) l34 c34 k34) T
  exact z
end
end WW
open PySem PySem.W PyProof.Rows
set_option maxHeartbeats 0 in
theorem PySem.Challenge.cw_wheelways_k06_refused_holds : PySem.Challenge.rw_wheelways_k06_refused.Holds := by
  w_on; o_law; k_head; (case hw => w_witness2)
  k_fill
  refine L2.walk_of (l := PySem.Challenge.rw_wheelways_k06_refused) (n := 63) (k := 8) (x := "_law_script") (CX := fun _ => L2.CX0) (sp := fun w => WW.sp_law _ ⟨0, 0, 0, 0, 0, 0, 0, 0, 0, 0, 0, 0, 0, 0, 0⟩) rfl (by decide) rfl ⟨rfl, by decide, by decide⟩ (fun w h Y => PySem.W.kIn_of Y) ?F (fun _ _ a ns hl _ hS => ⟨a, ns, rfl, hS, hl, fun _ => rfl⟩) (fun _ _ _ _ _ h => h)
  case F =>
    intro w mg fa h KX G hmg
    refine' WW.all_mk KX G hmg ?a0 ?l0 ?c0 ?k0 ?a1 ?l1 ?c1 ?k1 ?a2 ?l2 ?c2 ?k2 ?a3 ?l3 ?c3 ?k3 ?a4 ?l4 ?c4 ?k4 ?a5 ?l5 ?c5 ?k5 ?a6 ?l6 ?c6 ?k6 ?a7 ?l7 ?c7 ?k7 ?a8 ?l8 ?c8 ?k8 ?a9 ?l9 ?c9 ?k9 ?a10 ?l10 ?c10 ?k10 ?a11 ?l11 ?c11 ?k11 ?a12 ?l12 ?c12 ?k12 ?a13 ?l13 ?c13 ?k13 ?a14 ?l14 ?c14 ?k14 ?a15 ?l15 ?c15 ?k15 ?a16 ?l16 ?c16 ?k16 ?a17 ?l17 ?c17 ?k17 ?a18 ?l18 ?c18 ?k18 ?a19 ?l19 ?c19 ?k19 ?a20 ?l20 ?c20 ?k20 ?a21 ?l21 ?c21 ?k21 ?a22 ?l22 ?c22 ?k22 ?a23 ?l23 ?c23 ?k23 ?a24 ?l24 ?c24 ?k24 ?a25 ?l25 ?c25 ?k25 ?a26 ?l26 ?c26 ?k26 ?a27 ?l27 ?c27 ?k27 ?a28 ?l28 ?c28 ?k28 ?a29 ?l29 ?c29 ?k29 ?a30 ?l30 ?c30 ?k30 ?a31 ?l31 ?c31 ?k31 ?a32 ?l32 ?c32 ?k32 ?a33 ?l33 ?c33 ?k33 ?a34 ?l34 ?c34 ?k34 ?gBadNumber ?xBadNumber ?kBadNumber ?bBadNumber ?tBadNumber ?gBadSetting ?xBadSetting ?kBadSetting ?bBadSetting ?tBadSetting ?gBadWheels ?xBadWheels ?kBadWheels ?bBadWheels ?tBadWheels ?gNoRing ?xNoRing ?kNoRing ?bNoRing ?tNoRing ?gAround ?pgAround ?hdAround ?poAround ?saAround ?mkAround ?kcAround ?gDead ?pgDead ?hdDead ?poDead ?saDead ?mkDead ?kcDead ?gOdd ?pgOdd ?hdOdd ?poOdd ?saOdd ?mkOdd ?kcOdd ?glBadNumber ?glBadSetting ?glBadText ?glBadWheels ?glNoRing ?glWheelError ?coMOST ?r0_exc_BadWheels ?r1_exc_BadWheels ?r2_exc_BadWheels ?r3_exc_BadWheels ?r4_exc_BadWheels ?r5_exc_BadWheels ?r6_exc_BadWheels ?r7_exc_BadWheels ?r0_isx_BadWheels_BadNumber ?r1_isx_BadWheels_BadNumber ?r2_isx_BadWheels_BadNumber ?r3_isx_BadWheels_BadNumber ?r0_isx_BadWheels_BadSetting ?r1_isx_BadWheels_BadSetting ?r2_isx_BadWheels_BadSetting ?r3_isx_BadWheels_BadSetting ?r0_isx_BadWheels_BadText ?r1_isx_BadWheels_BadText ?r2_isx_BadWheels_BadText ?r3_isx_BadWheels_BadText ?r0_isx_BadWheels_BadWheels ?r1_isx_BadWheels_BadWheels ?r2_isx_BadWheels_BadWheels ?r3_isx_BadWheels_BadWheels ?r0_isx_BadWheels_NoRing ?r1_isx_BadWheels_NoRing ?r2_isx_BadWheels_NoRing ?r3_isx_BadWheels_NoRing ?r0_isx_BadWheels_ValueError ?r0_exm_BadWheels_WheelError ?r1_exm_BadWheels_WheelError ?r2_exm_BadWheels_WheelError ?r3_exm_BadWheels_WheelError ?r0_exc_BadSetting ?r1_exc_BadSetting ?r2_exc_BadSetting ?r3_exc_BadSetting ?r4_exc_BadSetting ?r5_exc_BadSetting ?r6_exc_BadSetting ?r7_exc_BadSetting ?r0_isx_BadSetting_BadNumber ?r1_isx_BadSetting_BadNumber ?r2_isx_BadSetting_BadNumber ?r3_isx_BadSetting_BadNumber ?r0_isx_BadSetting_BadSetting ?r1_isx_BadSetting_BadSetting ?r2_isx_BadSetting_BadSetting ?r3_isx_BadSetting_BadSetting ?r0_isx_BadSetting_BadText ?r1_isx_BadSetting_BadText ?r2_isx_BadSetting_BadText ?r3_isx_BadSetting_BadText ?r0_isx_BadSetting_BadWheels ?r1_isx_BadSetting_BadWheels ?r2_isx_BadSetting_BadWheels ?r3_isx_BadSetting_BadWheels ?r0_isx_BadSetting_NoRing ?r1_isx_BadSetting_NoRing ?r2_isx_BadSetting_NoRing ?r3_isx_BadSetting_NoRing ?r0_isx_BadSetting_ValueError ?r0_exm_BadSetting_WheelError ?r1_exm_BadSetting_WheelError ?r2_exm_BadSetting_WheelError ?r3_exm_BadSetting_WheelError ?r0_exc_BadNumber ?r1_exc_BadNumber ?r2_exc_BadNumber ?r3_exc_BadNumber ?r4_exc_BadNumber ?r5_exc_BadNumber ?r6_exc_BadNumber ?r7_exc_BadNumber ?r0_isx_BadNumber_BadNumber ?r1_isx_BadNumber_BadNumber ?r2_isx_BadNumber_BadNumber ?r3_isx_BadNumber_BadNumber ?r0_isx_BadNumber_BadSetting ?r1_isx_BadNumber_BadSetting ?r2_isx_BadNumber_BadSetting ?r3_isx_BadNumber_BadSetting ?r0_isx_BadNumber_BadText ?r1_isx_BadNumber_BadText ?r2_isx_BadNumber_BadText ?r3_isx_BadNumber_BadText ?r0_isx_BadNumber_BadWheels ?r1_isx_BadNumber_BadWheels ?r2_isx_BadNumber_BadWheels ?r3_isx_BadNumber_BadWheels ?r0_isx_BadNumber_NoRing ?r1_isx_BadNumber_NoRing ?r2_isx_BadNumber_NoRing ?r3_isx_BadNumber_NoRing ?r0_isx_BadNumber_ValueError ?r0_exm_BadNumber_WheelError ?r1_exm_BadNumber_WheelError ?r2_exm_BadNumber_WheelError ?r3_exm_BadNumber_WheelError ?r0_exc_NoRing ?r1_exc_NoRing ?r2_exc_NoRing ?r3_exc_NoRing ?r4_exc_NoRing ?r5_exc_NoRing ?r6_exc_NoRing ?r7_exc_NoRing ?r0_isx_NoRing_BadNumber ?r1_isx_NoRing_BadNumber ?r2_isx_NoRing_BadNumber ?r3_isx_NoRing_BadNumber ?r0_isx_NoRing_BadSetting ?r1_isx_NoRing_BadSetting ?r2_isx_NoRing_BadSetting ?r3_isx_NoRing_BadSetting ?r0_isx_NoRing_BadText ?r1_isx_NoRing_BadText ?r2_isx_NoRing_BadText ?r3_isx_NoRing_BadText ?r0_isx_NoRing_BadWheels ?r1_isx_NoRing_BadWheels ?r2_isx_NoRing_BadWheels ?r3_isx_NoRing_BadWheels ?r0_isx_NoRing_NoRing ?r1_isx_NoRing_NoRing ?r2_isx_NoRing_NoRing ?r3_isx_NoRing_NoRing ?r0_isx_NoRing_ValueError ?r0_exm_NoRing_WheelError ?r1_exm_NoRing_WheelError ?r2_exm_NoRing_WheelError ?r3_exm_NoRing_WheelError ?inAround ?inOdd ?a100 ?i100 ?l100 ?c100 ?k100 ?a101 ?i101 ?l101 ?c101 ?k101 ?nasetting ?zValueError ?zabs ?zall ?zbool ?zdivmod ?zenumerate ?zint ?zisinstance ?zlen ?zlist ?zrange ?zreversed ?zsorted ?zstr ?zsum ?ztuple
    (case a0 => k_is); (case l0 => k_is); (case c0 => k_is); (case k0 => k_is); (case a1 => k_is); (case l1 => k_is); (case c1 => k_is); (case k1 => k_is); (case a2 => k_is); (case l2 => k_is); (case c2 => k_is); (case k2 => k_is); (case a3 => k_is); (case l3 => k_is); (case c3 => k_is); (case k3 => k_is); (case a4 => k_is); (case l4 => k_is); (case c4 => k_is); (case k4 => k_is); (case a5 => k_is); (case l5 => k_is); (case c5 => k_is); (case k5 => k_is); (case a6 => k_is); (case l6 => k_is); (case c6 => k_is); (case k6 => k_is); (case a7 => k_is); (case l7 => k_is); (case c7 => k_is); (case k7 => k_is); (case a8 => k_is); (case l8 => k_is); (case c8 => k_is); (case k8 => k_is); (case a9 => k_is); (case l9 => k_is); (case c9 => k_is); (case k9 => k_is); (case a10 => k_is); (case l10 => k_is); (case c10 => k_is); (case k10 => k_is); (case a11 => k_is); (case l11 => k_is); (case c11 => k_is); (case k11 => k_is); (case a12 => k_is); (case l12 => k_is); (case c12 => k_is); (case k12 => k_is); (case a13 => k_is); (case l13 => k_is); (case c13 => k_is); (case k13 => k_is); (case a14 => k_is); (case l14 => k_is); (case c14 => k_is); (case k14 => k_is); (case a15 => k_is); (case l15 => k_is); (case c15 => k_is); (case k15 => k_is); (case a16 => k_is); (case l16 => k_is); (case c16 => k_is); (case k16 => k_is); (case a17 => k_is); (case l17 => k_is); (case c17 => k_is); (case k17 => k_is); (case a18 => k_is); (case l18 => k_is); (case c18 => k_is); (case k18 => k_is); (case a19 => k_is); (case l19 => k_is); (case c19 => k_is); (case k19 => k_is); (case a20 => k_is); (case l20 => k_is); (case c20 => k_is); (case k20 => k_is); (case a21 => k_is); (case l21 => k_is); (case c21 => k_is); (case k21 => k_is); (case a22 => k_is); (case l22 => k_is); (case c22 => k_is); (case k22 => k_is); (case a23 => k_is); (case l23 => k_is); (case c23 => k_is); (case k23 => k_is); (case a24 => k_is); (case l24 => k_is); (case c24 => k_is); (case k24 => k_is); (case a25 => k_is); (case l25 => k_is); (case c25 => k_is); (case k25 => k_is); (case a26 => k_is); (case l26 => k_is); (case c26 => k_is); (case k26 => k_is); (case a27 => k_is); (case l27 => k_is); (case c27 => k_is); (case k27 => k_is); (case a28 => k_is); (case l28 => k_is); (case c28 => k_is); (case k28 => k_is); (case a29 => k_is); (case l29 => k_is); (case c29 => k_is); (case k29 => k_is); (case a30 => k_is); (case l30 => k_is); (case c30 => k_is); (case k30 => k_is); (case a31 => k_is); (case l31 => k_is); (case c31 => k_is); (case k31 => k_is); (case a32 => k_is); (case l32 => k_is); (case c32 => k_is); (case k32 => k_is); (case a33 => k_is); (case l33 => k_is); (case c33 => k_is); (case k33 => k_is); (case a34 => k_is); (case l34 => k_is); (case c34 => k_is); (case k34 => k_is); (case gBadNumber => k_is); (case xBadNumber => k_exc); (case kBadNumber => k_is); (case bBadNumber => k_is); (case tBadNumber => k_is); (case gBadSetting => k_is); (case xBadSetting => k_exc); (case kBadSetting => k_is); (case bBadSetting => k_is); (case tBadSetting => k_is); (case gBadWheels => k_is); (case xBadWheels => k_exc); (case kBadWheels => k_is); (case bBadWheels => k_is); (case tBadWheels => k_is); (case gNoRing => k_is); (case xNoRing => k_exc); (case kNoRing => k_is); (case bNoRing => k_is); (case tNoRing => k_is); (case gAround => k_is); (case pgAround => k_is); (case hdAround => k_is); (case poAround => k_is); (case saAround => k_is); (case mkAround => k_is); (case kcAround => k_is); (case gDead => k_is); (case pgDead => k_is); (case hdDead => k_is); (case poDead => k_is); (case saDead => k_is); (case mkDead => k_is); (case kcDead => k_is); (case gOdd => k_is); (case pgOdd => k_is); (case hdOdd => k_is); (case poOdd => k_is); (case saOdd => k_is); (case mkOdd => k_is); (case kcOdd => k_is); (case glBadNumber => k_is); (case glBadSetting => k_is); (case glBadText => k_is); (case glBadWheels => k_is); (case glNoRing => k_is); (case glWheelError => k_is); (case coMOST => k_is); (case r0_exc_BadWheels => k_is); (case r1_exc_BadWheels => k_is); (case r2_exc_BadWheels => k_is); (case r3_exc_BadWheels => k_is); (case r4_exc_BadWheels => k_is); (case r5_exc_BadWheels => k_is); (case r6_exc_BadWheels => k_is); (case r7_exc_BadWheels => k_is); (case r0_isx_BadWheels_BadNumber => k_is); (case r1_isx_BadWheels_BadNumber => k_is); (case r2_isx_BadWheels_BadNumber => k_is); (case r3_isx_BadWheels_BadNumber => k_is); (case r0_isx_BadWheels_BadSetting => k_is); (case r1_isx_BadWheels_BadSetting => k_is); (case r2_isx_BadWheels_BadSetting => k_is); (case r3_isx_BadWheels_BadSetting => k_is); (case r0_isx_BadWheels_BadText => k_is); (case r1_isx_BadWheels_BadText => k_is); (case r2_isx_BadWheels_BadText => k_is); (case r3_isx_BadWheels_BadText => k_is); (case r0_isx_BadWheels_BadWheels => k_is); (case r1_isx_BadWheels_BadWheels => k_is); (case r2_isx_BadWheels_BadWheels => k_is); (case r3_isx_BadWheels_BadWheels => k_is); (case r0_isx_BadWheels_NoRing => k_is); (case r1_isx_BadWheels_NoRing => k_is); (case r2_isx_BadWheels_NoRing => k_is); (case r3_isx_BadWheels_NoRing => k_is); (case r0_isx_BadWheels_ValueError => k_is); (case r0_exm_BadWheels_WheelError => k_is); (case r1_exm_BadWheels_WheelError => k_is); (case r2_exm_BadWheels_WheelError => k_is); (case r3_exm_BadWheels_WheelError => k_is); (case r0_exc_BadSetting => k_is); (case r1_exc_BadSetting => k_is); (case r2_exc_BadSetting => k_is); (case r3_exc_BadSetting => k_is); (case r4_exc_BadSetting => k_is); (case r5_exc_BadSetting => k_is); (case r6_exc_BadSetting => k_is); (case r7_exc_BadSetting => k_is); (case r0_isx_BadSetting_BadNumber => k_is); (case r1_isx_BadSetting_BadNumber => k_is); (case r2_isx_BadSetting_BadNumber => k_is); (case r3_isx_BadSetting_BadNumber => k_is); (case r0_isx_BadSetting_BadSetting => k_is); (case r1_isx_BadSetting_BadSetting => k_is); (case r2_isx_BadSetting_BadSetting => k_is); (case r3_isx_BadSetting_BadSetting => k_is); (case r0_isx_BadSetting_BadText => k_is); (case r1_isx_BadSetting_BadText => k_is); (case r2_isx_BadSetting_BadText => k_is); (case r3_isx_BadSetting_BadText => k_is); (case r0_isx_BadSetting_BadWheels => k_is); (case r1_isx_BadSetting_BadWheels => k_is); (case r2_isx_BadSetting_BadWheels => k_is); (case r3_isx_BadSetting_BadWheels => k_is); (case r0_isx_BadSetting_NoRing => k_is); (case r1_isx_BadSetting_NoRing => k_is); (case r2_isx_BadSetting_NoRing => k_is); (case r3_isx_BadSetting_NoRing => k_is); (case r0_isx_BadSetting_ValueError => k_is); (case r0_exm_BadSetting_WheelError => k_is); (case r1_exm_BadSetting_WheelError => k_is); (case r2_exm_BadSetting_WheelError => k_is); (case r3_exm_BadSetting_WheelError => k_is); (case r0_exc_BadNumber => k_is); (case r1_exc_BadNumber => k_is); (case r2_exc_BadNumber => k_is); (case r3_exc_BadNumber => k_is); (case r4_exc_BadNumber => k_is); (case r5_exc_BadNumber => k_is); (case r6_exc_BadNumber => k_is); (case r7_exc_BadNumber => k_is); (case r0_isx_BadNumber_BadNumber => k_is); (case r1_isx_BadNumber_BadNumber => k_is); (case r2_isx_BadNumber_BadNumber => k_is); (case r3_isx_BadNumber_BadNumber => k_is); (case r0_isx_BadNumber_BadSetting => k_is); (case r1_isx_BadNumber_BadSetting => k_is); (case r2_isx_BadNumber_BadSetting => k_is); (case r3_isx_BadNumber_BadSetting => k_is); (case r0_isx_BadNumber_BadText => k_is); (case r1_isx_BadNumber_BadText => k_is); (case r2_isx_BadNumber_BadText => k_is); (case r3_isx_BadNumber_BadText => k_is); (case r0_isx_BadNumber_BadWheels => k_is); (case r1_isx_BadNumber_BadWheels => k_is); (case r2_isx_BadNumber_BadWheels => k_is); (case r3_isx_BadNumber_BadWheels => k_is); (case r0_isx_BadNumber_NoRing => k_is); (case r1_isx_BadNumber_NoRing => k_is); (case r2_isx_BadNumber_NoRing => k_is); (case r3_isx_BadNumber_NoRing => k_is); (case r0_isx_BadNumber_ValueError => k_is); (case r0_exm_BadNumber_WheelError => k_is); (case r1_exm_BadNumber_WheelError => k_is); (case r2_exm_BadNumber_WheelError => k_is); (case r3_exm_BadNumber_WheelError => k_is); (case r0_exc_NoRing => k_is); (case r1_exc_NoRing => k_is); (case r2_exc_NoRing => k_is); (case r3_exc_NoRing => k_is); (case r4_exc_NoRing => k_is); (case r5_exc_NoRing => k_is); (case r6_exc_NoRing => k_is); (case r7_exc_NoRing => k_is); (case r0_isx_NoRing_BadNumber => k_is); (case r1_isx_NoRing_BadNumber => k_is); (case r2_isx_NoRing_BadNumber => k_is); (case r3_isx_NoRing_BadNumber => k_is); (case r0_isx_NoRing_BadSetting => k_is); (case r1_isx_NoRing_BadSetting => k_is); (case r2_isx_NoRing_BadSetting => k_is); (case r3_isx_NoRing_BadSetting => k_is); (case r0_isx_NoRing_BadText => k_is); (case r1_isx_NoRing_BadText => k_is); (case r2_isx_NoRing_BadText => k_is); (case r3_isx_NoRing_BadText => k_is); (case r0_isx_NoRing_BadWheels => k_is); (case r1_isx_NoRing_BadWheels => k_is); (case r2_isx_NoRing_BadWheels => k_is); (case r3_isx_NoRing_BadWheels => k_is); (case r0_isx_NoRing_NoRing => k_is); (case r1_isx_NoRing_NoRing => k_is); (case r2_isx_NoRing_NoRing => k_is); (case r3_isx_NoRing_NoRing => k_is); (case r0_isx_NoRing_ValueError => k_is); (case r0_exm_NoRing_WheelError => k_is); (case r1_exm_NoRing_WheelError => k_is); (case r2_exm_NoRing_WheelError => k_is); (case r3_exm_NoRing_WheelError => k_is); (case inAround => k_is); (case inOdd => k_is); (case a100 => k_is); (case i100 => k_is); (case l100 => k_is); (case c100 => k_is); (case k100 => k_is); (case a101 => k_is); (case i101 => k_is); (case l101 => k_is); (case c101 => k_is); (case k101 => k_is); (case nasetting => k_is); (case zValueError => k_is); (case zabs => k_is); (case zall => k_is); (case zbool => k_is); (case zdivmod => k_is); (case zenumerate => k_is); (case zint => k_is); (case zisinstance => k_is); (case zlen => k_is); (case zlist => k_is); (case zrange => k_is); (case zreversed => k_is); (case zsorted => k_is); (case zstr => k_is); (case zsum => k_is); (case ztuple => k_is)
