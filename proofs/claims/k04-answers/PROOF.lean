import PyProof.Rows.All
import Wide.All
import OpenK.AllK
import Wide.FinOn
import HandS.ForMost
import HandS.ForExc
import HandS.Evl
import HandS.IsInst
import HandS.WideBits
import HandS.RevRange
import HandS.Conv
import HandS.Style
import HandS.StrMore
import HandS.Codes
import HandS.NoneIn
import KE.SortData
import PySem.Challenge.RW_wheelways_k04_answers_by_hand
set_option Elab.async false
set_option linter.all false
set_option maxRecDepth 100000
set_option maxHeartbeats 4000000
namespace WW
open PySem PySem.Spec PyProof.Rows L2 Evl

/-! ### defs and calls -/
/-- a def of the text, by its name -/
structure Df (K : PySem.W.Frag) (mg : Str → Option Value) (x : Str) (ps : List Str) (st : Stmt) : Prop where
  ex : ∃ f fd, Fun K x x st f fd ∧ mg x = some (.ref f) ∧ Binds K fd ps []
/-- a def that may be called, with its promise -/
structure Cl (P : Program) (w : World) (K : PySem.W.Frag) (mg : Str → Option Value) (base : Heap) (CX : CXT) (k : Nat) (x : Str) (ps : List Str) (sp : Sp) : Prop where
  ex : ∃ f fd, FnOk P w K mg base CX k f fd ps sp ∧ mg x = some (.ref f) ∧ PySem.W.keepIn K (.ref f) = true ∧ Binds K fd ps []
section
variable {P : Program} {w : World} {K : PySem.W.Frag} {mg : Str → Option Value} {base : Heap}
theorem cl0 {x : Str} {st : Stmt} {N ps : List Str} {k : Nat} {sp : Sp} (D : Df K mg x ps st) (S : FnScope N ps (defScope st)) (len : ∀ vs H Q E, sp vs H Q E → vs.length = ps.length)
    (hbody : ∀ (f : Addr) (cdv : Value) (A : Around) (outer : List Env) (s : Shared) (H : Hp) (vs : List V) (Q : VK) (E : XK), Room k (A.deeper (envOfC x (defScope st) s.heap.objs.size f cdv)) → sp vs H Q E →
      ∃ t, PSs (cxOf CX0 P w K mg base N x (defScope st) f cdv A outer s H E).nox (defBody st) t ∧ t { nx := fun _ H' => Q .non H', rt := Q } (start N vs) H) : Cl P w K mg base CX0 (k + 1) x ps sp := by
  obtain ⟨f, fd, F, m, b⟩ := D.ex
  exact ⟨f, fd, F.ok S len (hbody f), m, F.kp, b⟩
theorem clX {x : Str} {st : Stmt} {N ps : List Str} {k : Nat} {sp : Sp} (D : Df K mg x ps st) (S : FnScope N ps (defScope st)) (len : ∀ vs H Q E, sp vs H Q E → vs.length = ps.length)
    (hbody : ∀ (f : Addr) (cdv : Value) (A : Around) (outer : List Env) (s : Shared) (H : Hp) (vs : List V) (Q : VK) (E : XK), Room k (A.deeper (envOfC x (defScope st) s.heap.objs.size f cdv)) → sp vs H Q E →
      ∃ t, PSs (cxOf (L2.CX P w) P w K mg base N x (defScope st) f cdv A outer s H E) (defBody st) t ∧ t { nx := fun _ H' => Q .non H', rt := Q } (start N vs) H) : Cl P w K mg base (L2.CX P w) (k + 1) x ps sp := by
  obtain ⟨f, fd, F, m, b⟩ := D.ex
  exact ⟨f, fd, F.okX S len (hbody f), m, F.kp, b⟩
end
section
variable {X : Cx} {CX : CXT} {k : Nat} {ps : List Str} {sp : Sp} {E : XK} {x : Str} {p pos : Pos} {e : Expr} {es : List Expr} {t : TA}
theorem pe_cl (C : Cl X.prog X.w X.K X.mg X.base CX k x ps sp) (hr : Room k X.A) (hg : Gl X x) (hx : Passes CX X E)
    (ha : PA X (e :: es) t) (hdb : (x == ("__debug__" : Str)) = false := by decide) (he : starEach (e :: es) X.env = (false, eval e X.env) :: starEach es X.env := by rfl) (hpl : (backTo pos (starEach es X.env)).any (·.1) = false := by rfl) :
    PE X (.Call (.Name x p) (e :: es) [] pos) (tCall sp [] E t) := by
  obtain ⟨f, fd, F, m, kp, b⟩ := C.ex
  exact pe_call F hr hg m kp b .nil hx ha hdb he hpl
theorem pe_cl0 (C : Cl X.prog X.w X.K X.mg X.base CX k x ps sp) (hr : Room k X.A) (hg : Gl X x) (hx : Passes CX X E)
    (hdb : (x == ("__debug__" : Str)) = false := by decide) :
    PE X (.Call (.Name x p) [] [] pos) (tCall sp [] E tNil) := by
  obtain ⟨f, fd, F, m, kp, b⟩ := C.ex
  exact pe_call0 F hr hg m kp b .nil hx hdb
/-- a raising callee in a body that lets its own exceptions out as they come -/
theorem pass1 {X : Cx} {E : XK} (tk : Takes X (fun cls d _ H => E cls d H)) : Passes (L2.CX X.prog X.w) X E := passes_call tk fun _ _ _ _ h => h
theorem PE.or {X : Cx} {e : Expr} {t u : TE} (h1 : PE X e t) (h2 : PE X e u) : PE X e (fun σ H Q => t σ H Q ∨ u σ H Q) :=
  ⟨fun pins s σ H Q I h => h.elim (h1.run pins s σ H Q I) (h2.run pins s σ H Q I)⟩
end
/-- an own exception class -/
structure ExcF (K : PySem.W.Frag) (mg : Str → Option Value) (x : Str) (c : Addr) : Prop where
  g : mg x = some (.ref c)
  x : PySem.W.excIn K c [.type "ValueError", .type "Exception", .type "BaseException", .type "object"] "ValueError.__new__" = true
  k : PySem.W.keepIn K (.ref c) = true
  b : PySem.W.subIn K (.ref c) (.type "BaseException") = some true
  t : PySem.W.typeIn K (.ref c) = some (.type "type")
/-! ### operators -/
section
variable {X : Cx}
theorem ip_mulX : PIp X .Mult (fun x y H Q => ∃ i j, x = .int i ∧ y = .int j ∧ CMulX i j ∧ Q (.int (i * j)) H) := by
  intro pins s σ H x y v u Q I r1 r2 h
  obtain ⟨i, j, e1, e2, c, q⟩ := h
  subst e1; subst e2
  obtain ⟨t, rfl⟩ := r1
  obtain ⟨t', rfl⟩ := r2
  exact imul_int ⟨.int _, H, I.tok _, ⟨_, rfl⟩, q⟩ c.ok
theorem op_mulA : OpR X (binaryOp .Mult) (rI IntMulOk fun i j => .int (i * j)) := opI fun _ _ _ _ _ _ _ hc q => mul_int q hc
theorem mulC {i j : Int} (h0 : -(2 ^ 64) < j) (h1 : j < 2 ^ 64) : IntMulOk i j := CMul.ok (.inr ⟨h0, h1⟩)
theorem mulX {i j : Int} (h : CMulX i j) : IntMulOk i j := h.ok
def rCatQ (K : PySem.W.Frag) : R2 := fun x y H Q => ∃ l b xs zs, x = .ref l ∧ y = .ref b ∧ SqL K H l xs ∧ SqL K H b zs ∧ xs.length + zs.length ≤ sizeLine ∧ ∀ p, H p = none → Q (.ref p) (upd H p (.lst (xs ++ zs)))
theorem op_catQ : OpR X (binaryOp .Add) (rCatQ X.K) := by
  intro pins s σ H x y v u Q I rx ry h
  obtain ⟨l, b, xs, zs, rfl, rfl, hH, hB, hz, q⟩ := h
  cases rx
  cases ry
  obtain ⟨its, r, pl, z1⟩ := I.list hH
  obtain ⟨its2, r2, pl2, z2⟩ := I.list hB
  have hl := r.length
  have hl2 := r2.length
  obtain ⟨⟨cls, dd, data, sl⟩, ho, hc, n, hd⟩ := pl.isList
  obtain ⟨⟨cls2, dd2, data2, sl2⟩, ho2, hc2, n2, hd2⟩ := pl2.isList
  simp only at hc hd hc2 hd2
  subst hc hd hc2 hd2
  have ea : its.toArray ++ its2.toArray = (its ++ its2).toArray := by simp
  refine concat_meets ⟨_, ho, rfl⟩ ⟨_, ho2, rfl⟩ noFill_list_add seq_list_add PySem.F.slot_list_add PySem.F.entry_list_add (PySem.F.args_list_add_2 _ _) (list_addW l b its.toArray its2.toArray n n2 dd dd2 sl sl2 (by simp only [List.size_toArray]; omega)) ⟨ho, ho2, ?_⟩
  rw [ea]
  exact ⟨.ref _, _, I.lnew (t' := s.toks) (r.append r2) (by rw [List.length_append]; omega), rfl, q _ I.fresh⟩
end
/-! ### the rules that speak of the written part, by its name (for a comprehension's block) -/
section
variable {X : Cx} {K : PySem.W.Frag}
theorem ix_listK (e : X.K = K) : IxR X (rIxL K) := e ▸ ix_list
theorem ix_tupK (e : X.K = K) : IxR X (rIxT K) := e ▸ ix_tup
theorem sl_listK (e : X.K = K) : SlR X (rSlL K) := e ▸ sl_list
theorem call_isiK' (e : X.K = K) : CallR X (.builtin "isinstance") (rIsi K) := e ▸ call_isi
theorem call_lenK (e : X.K = K) : CallR X (.builtin "len") (fun xs H Q => ∃ p ys, xs = [.ref p] ∧ (SqL K H p ys ∨ SqT K H p ys) ∧ Q (.int ys.length) H) := e ▸ call_len_seq
theorem cr_allK (e : X.K = K) (hc : X.calm = true) : CallR X (.builtin "all") (rAll K) := e ▸ cr_all hc
theorem cr_anyK (e : X.K = K) (hc : X.calm = true) : CallR X (.builtin "any") (rAny K) := e ▸ cr_any hc
theorem cr_sumK (e : X.K = K) (hc : X.calm = true) : CallR X (.builtin "sum") (rSum K) := e ▸ cr_sum hc
theorem cr_minK (e : X.K = K) (hc : X.calm = true) : CallR X (.builtin "min") (rMin K) := e ▸ cr_min hc
theorem op_catK (e : X.K = K) : OpR X (binaryOp .Add) (rCatQ K) := e ▸ op_catQ
theorem op_eqDK (e : X.K = K) (hu : X.A.units + 64 < cLine) : OpR X (compareOp .Eq) (rEqD K) := e ▸ op_eqD hu
theorem op_neDK (e : X.K = K) (hu : X.A.units + 64 < cLine) : OpR X (compareOp .NotEq) (rNeD K) := e ▸ op_neD hu
theorem call_listK (e : X.K = K) : CallR X (.type "list") (fun xs H Q => ∃ p ys, xs = [.ref p] ∧ (SqL K H p ys ∨ SqT K H p ys) ∧ ∀ l, H l = none → Q (.ref l) (upd H l (.lst ys))) := e ▸ call_list_of
theorem call_tupleK (e : X.K = K) : CallR X (.type "tuple") (fun xs H Q => ∃ p ys, xs = [.ref p] ∧ ((SqL K H p ys ∧ ∀ l, H l = none → Q (.ref l) (upd H l (.tup ys))) ∨ (SqT K H p ys ∧ Q (.ref p) H))) := e ▸ call_tuple_of
theorem pi_listK {tg l : Expr} {tl : TE} (e : X.K = K) (hl : PE X l tl) : PI X tg l (iList K tl) := e ▸ pi_list hl
theorem pi_tupK {tg l : Expr} {tl : TE} (e : X.K = K) (hl : PE X l tl) : PI X tg l (iTup K tl) := e ▸ pi_tup hl
theorem op_inK (e : X.K = K) : OpR X (compareOp .In) (rIn K false) := e ▸ op_in_seq
theorem op_notInK (e : X.K = K) : OpR X (compareOp .NotIn) (rIn K true) := e ▸ op_notIn_seq
theorem pe_fldK {o : Expr} {f : Str} {pos : Pos} {ta : TE} (e : X.K = K) (he : PE X o ta) (hb : attributeBase o f X.env (eval o X.env) = eval o X.env) : PE X (.Attribute o f pos) (tFld K ta f) := e ▸ pe_fld he hb
theorem pg_tupK {es : List Expr} {k : Nat} {pos : Pos} {t : TGs} {n : Nat} (e : X.K = K) (hc : X.calm = true) (h : PGs X es t)
    (hn : (assignEach es X.env).length = n := by rfl) (hst : (assignEach es X.env).findIdx? (·.1) = none := by rfl) : PG X (.Tuple es k pos) (gTup K n t) := e ▸ pg_tup hc h hn hst
end
/-! ### the mathematics of wheels: the way forth -/
def cnt : List Int → Int
  | [] => 1
  | w :: ws => w * cnt ws
def setAt : List Int → Int → List Int
  | [], _ => []
  | w :: ws, n => (if n / w % 2 = 0 then n % w else w - 1 - n % w) :: setAt ws (n / w)
def numAt : List Int → List Int → Int
  | w :: ws, s :: ss => numAt ws ss * w + (if numAt ws ss % 2 = 0 then s else w - 1 - s)
  | _, _ => 0
def iabs (i : Int) : Int := if i < 0 then -i else i
def dist : List Int → List Int → Int
  | a :: r, b :: q => iabs (a - b) + dist r q
  | _, _ => 0
/-- all sizes from 1 on -/
def Pos (ws : List Int) : Prop := ∀ w ∈ ws, 1 ≤ w
/-- a setting of wheels -/
def InS : List Int → List Int → Prop
  | [], [] => True
  | w :: ws, s :: ss => (0 ≤ s ∧ s < w) ∧ InS ws ss
  | _, _ => False
theorem Pos.head {w : Int} {ws : List Int} (h : Pos (w :: ws)) : 1 ≤ w := h w List.mem_cons_self
theorem Pos.tail {w : Int} {ws : List Int} (h : Pos (w :: ws)) : Pos ws := fun x hx => h x (List.mem_cons_of_mem _ hx)
theorem Pos.take {ws : List Int} (h : Pos ws) (n : Nat) : Pos (ws.take n) := fun x hx => h x (List.mem_of_mem_take hx)
theorem cnt_pos : ∀ {ws : List Int}, Pos ws → 1 ≤ cnt ws
  | [], _ => by show (1 : Int) ≤ 1; omega
  | w :: ws, h => by
    have h1 := h.head
    have h2 := cnt_pos h.tail
    show 1 ≤ w * cnt ws
    have := Int.mul_le_mul h1 h2 (by omega) (by omega)
    omega
theorem InS.len : ∀ {ws ss : List Int}, InS ws ss → ss.length = ws.length
  | [], [], _ => rfl
  | w :: ws, s :: ss, h => by
    have := InS.len h.2
    simp [this]
  | [], _ :: _, h => h.elim
  | _ :: _, [], h => h.elim
theorem cnt_snoc : ∀ (ws : List Int) (w : Int), cnt (ws ++ [w]) = cnt ws * w
  | [], w => by show w * 1 = 1 * w; omega
  | v :: ws, w => by
    show v * cnt (ws ++ [w]) = v * cnt ws * w
    rw [cnt_snoc ws w, Int.mul_assoc]
theorem cnt_append : ∀ (ws vs : List Int), cnt (ws ++ vs) = cnt ws * cnt vs
  | [], vs => by show cnt vs = 1 * cnt vs; omega
  | v :: ws, vs => by
    show v * cnt (ws ++ vs) = v * cnt ws * cnt vs
    rw [cnt_append ws vs, Int.mul_assoc]
theorem cnt_reverse : ∀ (ws : List Int), cnt ws.reverse = cnt ws
  | [] => rfl
  | w :: ws => by
    rw [List.reverse_cons, cnt_snoc, cnt_reverse ws]
    show cnt ws * w = w * cnt ws
    exact Int.mul_comm _ _
theorem setAt_len : ∀ (ws : List Int) (n : Int), (setAt ws n).length = ws.length
  | [], _ => rfl
  | w :: ws, n => by
    show (setAt ws (n / w)).length + 1 = ws.length + 1
    rw [setAt_len]
theorem setAt_in : ∀ {ws : List Int} (n : Int), Pos ws → InS ws (setAt ws n)
  | [], _, _ => trivial
  | w :: ws, n, h => by
    have h1 := h.head
    have a := Int.emod_nonneg n (b := w) (by omega)
    have b := Int.emod_lt_of_pos n (b := w) (by omega)
    refine ⟨?_, setAt_in _ h.tail⟩
    split <;> omega
theorem num_set : ∀ {ws : List Int} {n : Int}, Pos ws → 0 ≤ n → n < cnt ws → numAt ws (setAt ws n) = n
  | [], n, _, h0, h1 => by
    have : n < 1 := h1
    show (0 : Int) = n
    omega
  | w :: ws, n, h, h0, h1 => by
    have hw := h.head
    have hn : n < w * cnt ws := h1
    have e := Int.mul_ediv_add_emod n w
    have q0 : 0 ≤ n / w := Int.ediv_nonneg h0 (by omega)
    have q1 : n / w < cnt ws := Int.ediv_lt_of_lt_mul (by omega) (by rw [Int.mul_comm]; exact hn)
    have ih := num_set h.tail q0 q1
    show numAt ws (setAt ws (n / w)) * w + (if numAt ws (setAt ws (n / w)) % 2 = 0 then (if n / w % 2 = 0 then n % w else w - 1 - n % w) else w - 1 - (if n / w % 2 = 0 then n % w else w - 1 - n % w)) = n
    rw [ih]
    have e2 : n / w * w = w * (n / w) := Int.mul_comm _ _
    split <;> omega
theorem num_bd : ∀ {ws ss : List Int}, InS ws ss → 0 ≤ numAt ws ss ∧ numAt ws ss < cnt ws
  | [], [], _ => by
    show (0 : Int) ≤ 0 ∧ (0 : Int) < 1
    omega
  | w :: ws, s :: ss, h => by
    obtain ⟨⟨h0, h1⟩, h2⟩ := h
    obtain ⟨a, b⟩ := num_bd h2
    have r0 : 0 ≤ (if numAt ws ss % 2 = 0 then s else w - 1 - s) ∧ (if numAt ws ss % 2 = 0 then s else w - 1 - s) < w := by split <;> omega
    have m0 : 0 ≤ numAt ws ss * w := Int.mul_nonneg a (by omega)
    have m1 : (numAt ws ss + 1) * w ≤ cnt ws * w := Int.mul_le_mul_of_nonneg_right (by omega) (by omega)
    have m2 : (numAt ws ss + 1) * w = numAt ws ss * w + w := by rw [Int.add_mul, Int.one_mul]
    have m3 : cnt ws * w = w * cnt ws := Int.mul_comm _ _
    show 0 ≤ numAt ws ss * w + (if numAt ws ss % 2 = 0 then s else w - 1 - s) ∧ numAt ws ss * w + (if numAt ws ss % 2 = 0 then s else w - 1 - s) < w * cnt ws
    omega
  | [], _ :: _, h => h.elim
  | _ :: _, [], h => h.elim
theorem div_of {f w r : Int} (h0 : 0 ≤ r) (h1 : r < w) : (f * w + r) / w = f ∧ (f * w + r) % w = r := by
  have e : f * w + r = r + f * w := Int.add_comm _ _
  have hw : w ≠ 0 := by omega
  rw [e, Int.add_mul_ediv_right _ _ hw, Int.add_mul_emod_self_right, Int.ediv_eq_zero_of_lt h0 h1, Int.emod_eq_of_lt h0 h1]
  omega
theorem set_num : ∀ {ws ss : List Int}, InS ws ss → setAt ws (numAt ws ss) = ss
  | [], [], _ => rfl
  | w :: ws, s :: ss, h => by
    obtain ⟨⟨h0, h1⟩, h2⟩ := h
    have ih := set_num h2
    have r0 : 0 ≤ (if numAt ws ss % 2 = 0 then s else w - 1 - s) ∧ (if numAt ws ss % 2 = 0 then s else w - 1 - s) < w := by split <;> omega
    obtain ⟨d1, d2⟩ := div_of (f := numAt ws ss) r0.1 r0.2
    show (if (numAt ws ss * w + (if numAt ws ss % 2 = 0 then s else w - 1 - s)) / w % 2 = 0 then (numAt ws ss * w + (if numAt ws ss % 2 = 0 then s else w - 1 - s)) % w else w - 1 - (numAt ws ss * w + (if numAt ws ss % 2 = 0 then s else w - 1 - s)) % w) :: setAt ws ((numAt ws ss * w + (if numAt ws ss % 2 = 0 then s else w - 1 - s)) / w) = s :: ss
    rw [d1, d2, ih]
    congr 1
    split <;> omega
  | [], _ :: _, h => h.elim
  | _ :: _, [], h => h.elim
theorem iabs_self (i : Int) : iabs (i - i) = 0 := by
  unfold iabs
  split <;> omega
theorem dist_self : ∀ (s : List Int), dist s s = 0
  | [] => rfl
  | a :: r => by
    show iabs (a - a) + dist r r = 0
    rw [iabs_self, dist_self r]
    omega
theorem dist_comm : ∀ (s t : List Int), dist s t = dist t s
  | [], [] => rfl
  | [], _ :: _ => rfl
  | _ :: _, [] => rfl
  | a :: r, b :: q => by
    show iabs (a - b) + dist r q = iabs (b - a) + dist q r
    rw [dist_comm r q]
    have : iabs (a - b) = iabs (b - a) := by
      unfold iabs
      split <;> split <;> omega
    omega
theorem set_step : ∀ {ws : List Int} {n : Int}, Pos ws → 0 ≤ n → n + 1 < cnt ws → dist (setAt ws n) (setAt ws (n + 1)) = 1
  | [], n, _, h0, h1 => by
    have : n + 1 < 1 := h1
    omega
  | w :: ws, n, h, h0, h1 => by
    have hw := h.head
    have hn : n + 1 < w * cnt ws := h1
    have e := Int.mul_ediv_add_emod n w
    have r0 := Int.emod_nonneg n (b := w) (by omega)
    have r1 := Int.emod_lt_of_pos n (b := w) (by omega)
    have q0 : 0 ≤ n / w := Int.ediv_nonneg h0 (by omega)
    have e2 : n / w * w = w * (n / w) := Int.mul_comm _ _
    show iabs ((if n / w % 2 = 0 then n % w else w - 1 - n % w) - (if (n + 1) / w % 2 = 0 then (n + 1) % w else w - 1 - (n + 1) % w)) + dist (setAt ws (n / w)) (setAt ws ((n + 1) / w)) = 1
    by_cases c : n % w + 1 < w
    · obtain ⟨d1, d2⟩ := div_of (f := n / w) (w := w) (r := n % w + 1) (by omega) c
      have en : n / w * w + (n % w + 1) = n + 1 := by omega
      rw [en] at d1 d2
      rw [d1, d2, dist_self]
      unfold iabs
      split <;> split <;> omega
    · obtain ⟨d1, d2⟩ := div_of (f := n / w + 1) (w := w) (r := 0) (by omega) (by omega)
      have em : (n / w + 1) * w = n / w * w + w := by rw [Int.add_mul, Int.one_mul]
      have en : (n / w + 1) * w + 0 = n + 1 := by omega
      rw [en] at d1 d2
      have q1 : n / w + 1 < cnt ws := by
        have : (n + 1) / w < cnt ws := Int.ediv_lt_of_lt_mul (by omega) (by rw [Int.mul_comm]; exact hn)
        omega
      rw [d1, d2, set_step h.tail q0 q1]
      unfold iabs
      split <;> split <;> split <;> omega
theorem set_zero : ∀ {ws : List Int}, Pos ws → setAt ws 0 = List.replicate ws.length 0
  | [], _ => rfl
  | w :: ws, h => by
    have hw := h.head
    show (if (0 : Int) / w % 2 = 0 then 0 % w else w - 1 - 0 % w) :: setAt ws (0 / w) = _
    rw [Int.zero_ediv, Int.zero_emod, set_zero h.tail]
    rfl
/-- |a - b| summed up by places -/
theorem dist_sum : ∀ (a b : List Int), a.length = b.length → ((List.range a.length).map fun k => iabs (a.getD k 0 - b.getD k 0)).sum = dist a b
  | [], [], _ => rfl
  | x :: a, y :: b, h => by
    have hl : a.length = b.length := by simpa using h
    rw [List.length_cons, List.range_succ_eq_map, List.map_cons, List.sum_cons, List.map_map]
    have := dist_sum a b hl
    show iabs (x - y) + _ = iabs (x - y) + dist a b
    rw [← this]
    rfl
  | [], _ :: _, h => by simp at h
  | _ :: _, [], h => by simp at h
/-! ### what a value is -/
inductive Kd where
  | int (i : Int) | bool | list | str | tup | rest
  deriving DecidableEq
def Kd.isInt : Kd → Bool
  | .int _ => true
  | .bool => true
  | _ => false
def Kd.isBool : Kd → Bool
  | .bool => true
  | _ => false
def Kd.isList : Kd → Bool
  | .list => true
  | _ => false
def Kd.isStr : Kd → Bool
  | .str => true
  | _ => false
def Kd.isTup : Kd → Bool
  | .tup => true
  | _ => false
def Kd.whole : Kd → Bool
  | .int _ => true
  | _ => false
inductive Thg (K : PySem.W.Frag) (H : Hp) : V → Kd → Prop where
  | int (i : Int) : Thg K H (.int i) (.int i)
  | bl (b : Bool) : Thg K H (.bl b) .bool
  | non : Thg K H .non .rest
  | str (x : Str) : Thg K H (.str x) .str
  | lst {a : Addr} {xs : List V} (h : SqL K H a xs) : Thg K H (.ref a) .list
  | tup {a : Addr} {xs : List V} (h : H a = some (.tup xs)) : Thg K H (.ref a) .tup
  | dct {a : Addr} {kvs : List (Key × V)} (h : H a = some (.dK kvs)) : Thg K H (.ref a) .rest
section
variable {K : PySem.W.Frag} {H H' : Hp} {v : V} {kd : Kd} {a : Addr} {xs : List V}
theorem Thg.mono (e : Ex H H') (h : Thg K H v kd) : Thg K H' v kd := by
  cases h with
  | int i => exact .int i
  | bl b => exact .bl b
  | non => exact .non
  | str x => exact .str x
  | lst h => exact .lst (ex_l e h)
  | tup h => exact .tup (e _ _ h)
  | dct h => exact .dct (e _ _ h)
abbrev Thgs (K : PySem.W.Frag) (H : Hp) (vs : List V) (ks : List Kd) : Prop := Paired (Thg K H) vs ks
theorem Thgs.mono (e : Ex H H') {vs : List V} {ks : List Kd} (h : Thgs K H vs ks) : Thgs K H' vs ks := Paired.mapP h fun _ _ => Thg.mono e
theorem Thgs.ints : ∀ (ns : List Int), Thgs K H (ns.map V.int) (ns.map Kd.int)
  | [] => .nil
  | n :: ns => .cons (.int n) (Thgs.ints ns)
theorem Thgs.get : ∀ {vs : List V} {ks : List Kd} {i : Nat} {x : V}, Thgs K H vs ks → vs[i]? = some x → ∃ k, ks[i]? = some k ∧ Thg K H x k
  | _, _, _, _, .nil, e => by simp at e
  | _, _, 0, _, .cons r _, e => by simp at e; subst e; exact ⟨_, rfl, r⟩
  | _, _, i + 1, x, .cons _ t, e => by
    obtain ⟨u, h1, h2⟩ := Thgs.get (i := i) (x := x) t (by simpa using e)
    exact ⟨u, by simpa using h1, h2⟩
theorem Thgs.len {vs : List V} {ks : List Kd} (h : Thgs K H vs ks) : vs.length = ks.length := Paired.length h
theorem ty_list (h : SqL K H a xs) : TyX K H (.ref a) (.type "list") := by
  rcases h with (h | ⟨o, h⟩) | ⟨o, its, n, hk, hc, _⟩
  · exact .base (.lst h)
  · exact .base (.frz h)
  · exact .kList hk hc
def Kd.names : Kd → V → String
  | .int _, _ => "int"
  | .bool, _ => "bool"
  | .list, _ => "list"
  | .str, _ => "str"
  | .tup, _ => "tuple"
  | .rest, .non => "NoneType"
  | .rest, _ => "dict"
theorem Thg.ty (h : Thg K H v kd) : TyX K H v (.type (kd.names v)) := by
  cases h with
  | int i => exact .base (.int i)
  | bl b => exact .base (.bl b)
  | non => exact .base .non
  | str x => exact .base (.str x)
  | lst h => exact ty_list h
  | tup h => exact .base (.tup h)
  | dct h => exact .base (.dK h)
theorem kd_int (h : Thg K H v kd) : PySem.W.kitOne K (.type (kd.names v)) (.type "int") = some kd.isInt := by
  cases h with
  | int _ => exact kit_ty (a := "int") (b := "int") (r := true) (by decide +kernel)
  | bl _ => exact kit_ty (a := "bool") (b := "int") (r := true) (by decide +kernel)
  | non => exact kit_ty (a := "NoneType") (b := "int") (r := false) (by decide +kernel)
  | str _ => exact kit_ty (a := "str") (b := "int") (r := false) (by decide +kernel)
  | lst _ => exact kit_ty (a := "list") (b := "int") (r := false) (by decide +kernel)
  | tup _ => exact kit_ty (a := "tuple") (b := "int") (r := false) (by decide +kernel)
  | dct _ => exact kit_ty (a := "dict") (b := "int") (r := false) (by decide +kernel)
theorem kd_bool (h : Thg K H v kd) : PySem.W.kitOne K (.type (kd.names v)) (.type "bool") = some kd.isBool := by
  cases h with
  | int _ => exact kit_ty (a := "int") (b := "bool") (r := false) (by decide +kernel)
  | bl _ => exact kit_ty (a := "bool") (b := "bool") (r := true) (by decide +kernel)
  | non => exact kit_ty (a := "NoneType") (b := "bool") (r := false) (by decide +kernel)
  | str _ => exact kit_ty (a := "str") (b := "bool") (r := false) (by decide +kernel)
  | lst _ => exact kit_ty (a := "list") (b := "bool") (r := false) (by decide +kernel)
  | tup _ => exact kit_ty (a := "tuple") (b := "bool") (r := false) (by decide +kernel)
  | dct _ => exact kit_ty (a := "dict") (b := "bool") (r := false) (by decide +kernel)
theorem kd_list (h : Thg K H v kd) : PySem.W.kitOne K (.type (kd.names v)) (.type "list") = some kd.isList := by
  cases h with
  | int _ => exact kit_ty (a := "int") (b := "list") (r := false) (by decide +kernel)
  | bl _ => exact kit_ty (a := "bool") (b := "list") (r := false) (by decide +kernel)
  | non => exact kit_ty (a := "NoneType") (b := "list") (r := false) (by decide +kernel)
  | str _ => exact kit_ty (a := "str") (b := "list") (r := false) (by decide +kernel)
  | lst _ => exact kit_ty (a := "list") (b := "list") (r := true) (by decide +kernel)
  | tup _ => exact kit_ty (a := "tuple") (b := "list") (r := false) (by decide +kernel)
  | dct _ => exact kit_ty (a := "dict") (b := "list") (r := false) (by decide +kernel)
theorem kd_str (h : Thg K H v kd) : PySem.W.kitOne K (.type (kd.names v)) (.type "str") = some kd.isStr := by
  cases h with
  | int _ => exact kit_ty (a := "int") (b := "str") (r := false) (by decide +kernel)
  | bl _ => exact kit_ty (a := "bool") (b := "str") (r := false) (by decide +kernel)
  | non => exact kit_ty (a := "NoneType") (b := "str") (r := false) (by decide +kernel)
  | str _ => exact kit_ty (a := "str") (b := "str") (r := true) (by decide +kernel)
  | lst _ => exact kit_ty (a := "list") (b := "str") (r := false) (by decide +kernel)
  | tup _ => exact kit_ty (a := "tuple") (b := "str") (r := false) (by decide +kernel)
  | dct _ => exact kit_ty (a := "dict") (b := "str") (r := false) (by decide +kernel)
theorem kd_tup (h : Thg K H v kd) : PySem.W.kitOne K (.type (kd.names v)) (.type "tuple") = some kd.isTup := by
  cases h with
  | int _ => exact kit_ty (a := "int") (b := "tuple") (r := false) (by decide +kernel)
  | bl _ => exact kit_ty (a := "bool") (b := "tuple") (r := false) (by decide +kernel)
  | non => exact kit_ty (a := "NoneType") (b := "tuple") (r := false) (by decide +kernel)
  | str _ => exact kit_ty (a := "str") (b := "tuple") (r := false) (by decide +kernel)
  | lst _ => exact kit_ty (a := "list") (b := "tuple") (r := false) (by decide +kernel)
  | tup _ => exact kit_ty (a := "tuple") (b := "tuple") (r := true) (by decide +kernel)
  | dct _ => exact kit_ty (a := "dict") (b := "tuple") (r := false) (by decide +kernel)
theorem rc_isi {c : String} {b : Bool} (h : Thg K H v kd) (hk : ∀ H1, Thg K H1 v kd → PySem.W.kitOne K (.type (kd.names v)) (.type c) = some b) : RC (rIsi K) [v, .ty c] H (.bl b) :=
  fun H1 e _ q => ⟨v, .ty c, _, _, b, rfl, .ty c, (h.mono e).ty, hk H1 (h.mono e), q H1 (Ex.refl H1)⟩
end
/-! ### more of what evaluates to what -/
section
variable {K : PySem.W.Frag} {σ : L2.St} {H H' : Hp} {ta tb te tx : TE} {t u : TT} {x y z v : V} {r : R2} {D : Ends} {tu tw tz : TS} {g : TG}
/-- a call of one argument, a new list -/
theorem ev_cbN {r : List V → Hp → VK → Prop} {xs : List V} (h : EvL te σ H xs) (hr : ∀ p H1, H1 p = some (.lst xs) → Ex H H1 → RC r [.ref p] H1 z) : Ev (tCB r (tCons te tNil)) σ H z := fun H1 e Q q =>
  h H1 e _ fun p H2 _ e2 hp => hr p H2 hp (e.trans e2) H2 (Ex.refl H2) Q fun H3 e3 => q H3 (e2.trans e3)
theorem rc_all {p : Addr} {bs : List Bool} (h : SqL K H p (bs.map V.bl)) : RC (rAll K) [.ref p] H (.bl (bs.all id)) := fun H1 e _ q => ⟨p, bs, rfl, ex_l e h, q H1 (Ex.refl H1)⟩
theorem rc_any {p : Addr} {bs : List Bool} (h : SqL K H p (bs.map V.bl)) : RC (rAny K) [.ref p] H (.bl (bs.any id)) := fun H1 e _ q => ⟨p, bs, rfl, ex_l e h, q H1 (Ex.refl H1)⟩
theorem rc_sum {p : Addr} {ns : List Int} (h : SqL K H p (ns.map V.int)) : RC (rSum K) [.ref p] H (.int ns.sum) := fun H1 e _ q => ⟨p, ns, rfl, ex_l e h, q H1 (Ex.refl H1)⟩
theorem ev_allN {bs : List Bool} (h : EvL te σ H (bs.map V.bl)) : Ev (tCB (rAll K) (tCons te tNil)) σ H (.bl (bs.all id)) := ev_cbN h fun _ _ hp _ => rc_all (sq_of hp)
theorem ev_anyN {bs : List Bool} (h : EvL te σ H (bs.map V.bl)) : Ev (tCB (rAny K) (tCons te tNil)) σ H (.bl (bs.any id)) := ev_cbN h fun _ _ hp _ => rc_any (sq_of hp)
theorem ev_sumN {ns : List Int} (h : EvL te σ H (ns.map V.int)) : Ev (tCB (rSum K) (tCons te tNil)) σ H (.int ns.sum) := ev_cbN h fun _ _ hp _ => rc_sum (sq_of hp)
theorem ev_abs {i : Int} (h : Ev te σ H (.int i)) : Ev (tCB (fun xs H Q => ∃ i, xs = [.int i] ∧ Q (.int (if i < 0 then -i else i)) H) (tCons te tNil)) σ H (.int (iabs i)) :=
  ev_cb (ea_cons h ea_nil) fun H1 _ _ q => ⟨i, rfl, q H1 (Ex.refl H1)⟩
theorem range_map_getD (ys : List V) (i : Nat) : ((List.range ys.length).map fun i => ys.getD i .non)[i]? = ys[i]? := by
  rw [List.getElem?_map]
  by_cases hi : i < ys.length
  · rw [List.getElem?_eq_getElem hi, List.getElem?_range hi, Option.map_some, List.getD_eq_getElem?_getD, List.getElem?_eq_getElem hi]
    rfl
  · rw [List.getElem?_eq_none (by rw [List.length_range]; omega), List.getElem?_eq_none (by omega)]
    rfl
/-- a comprehension over a list without a test: the items ys one for one -/
theorem el_list {a : Addr} {xs ys : List V} {tl : TE} {j : Nat} {vs : List Nat} (hl : ys.length = xs.length) (h : Ev tl σ H (.ref a)) (hx : SqL K H a xs) (hz : xs.length ≤ 40000) (hw : ∀ x, wipe ((wipe σ vs).set j (some x)) vs = wipe σ vs)
    (he : ∀ (i : Nat) (x y : V) H1, Ex H H1 → xs[i]? = some x → ys[i]? = some y → Ev te ((wipe σ vs).set j (some x)) H1 y) :
    EvL (tLc (iList K tl) (gName j) tYes te vs) σ H ys := by
  have e : given xs.length (fun _ => true) (fun i => ys.getD i .non) = ys := by
    unfold given
    rw [List.filter_eq_self.mpr (fun _ _ => rfl), ← hl]
    apply List.ext_getElem?
    intro i
    exact range_map_getD ys i
  rw [← e]
  refine el_lcL (fun _ => true) (fun i => ys.getD i .non) h hx hz hw (fun i x H1 _ _ => fun H2 _ _ q => q H2 (Ex.refl H2)) fun i x H1 e1 hi _ => ?_
  have hi' : i < ys.length := by
    have := (List.getElem?_eq_some_iff.mp hi).1
    omega
  have hy : ys[i]? = some (ys.getD i .non) := by
    rw [List.getD_eq_getElem?_getD, List.getElem?_eq_getElem hi']
    rfl
  exact he i x _ H1 e1 hi hy
theorem el_range {ta : TA} {ys : List V} {n : Nat} {j : Nat} {vs : List Nat} (hl : ys.length = n) (h : EvA ta σ H [.int (n : Int)]) (hz : n ≤ 40000) (hw : ∀ x, wipe ((wipe σ vs).set j (some x)) vs = wipe σ vs)
    (he : ∀ (i : Nat) (y : V) H1, Ex H H1 → i < n → ys[i]? = some y → Ev te ((wipe σ vs).set j (some (.int (i : Int)))) H1 y) :
    EvL (tLc (iRng1 ta) (gName j) tYes te vs) σ H ys := by
  have e : given (n : Int).toNat (fun _ => true) (fun i => ys.getD i .non) = ys := by
    unfold given
    rw [List.filter_eq_self.mpr (fun _ _ => rfl), Int.toNat_natCast, ← hl]
    apply List.ext_getElem?
    intro i
    exact range_map_getD ys i
  rw [← e]
  refine el_lcR1 (fun _ => true) (fun i => ys.getD i .non) h (by omega) hw (fun i H1 _ _ => fun H2 _ _ q => q H2 (Ex.refl H2)) fun i H1 e1 hi _ => ?_
  have hi' : i < ys.length := by omega
  have hy : ys[i]? = some (ys.getD i .non) := by
    rw [List.getD_eq_getElem?_getD, List.getElem?_eq_getElem hi']
    rfl
  exact he i _ H1 e1 (by omega) hy
/-! ### loops -/
/-- for j, k in enumerate(xs) -/
theorem s_forE {a : Addr} {xs : List V} {ta : TA} {j k : Nat} (h : EvA ta σ H [.ref a]) (hx : SqL K H a xs) (Pv : Nat → L2.St → Hp → Prop) (h0 : ∀ H1, Ex H H1 → Pv 0 σ H1) (hl : ∀ i σ' H', i ≤ xs.length → Pv i σ' H' → SqL K H' a xs)
    (hs : ∀ i x σ' H' H'', xs[i]? = some x → Pv i σ' H' → Ex H' H'' → tu { D with nx := Pv (i + 1), ct := Pv (i + 1), bk := D.nx } ((σ'.set j (some (.int (i : Int)))).set k (some x)) H'') (hd : ∀ σ' H', Pv xs.length σ' H' → D.nx σ' H') :
    tFor (iEnum K ta) (gTup K 2 (gCons (gName j) (gCons (gName k) gNil))) tu D σ H := by
  refine h H (Ex.refl H) _ fun H1 e => ⟨a, xs, rfl, ex_l e hx, fun i m σ' H' => i + m = xs.length ∧ Pv i σ' H', ⟨xs.length, by omega, h0 H1 e⟩, fun i m σ' H' hW => ?_⟩
  obtain ⟨em, hp⟩ := hW
  have hS := hl i σ' H' (by omega) hp
  by_cases hi : i < xs.length
  · have hxi : xs[i]? = some xs[i] := List.getElem?_eq_getElem hi
    refine .inr ⟨⟨xs, xs[i], hS, hxi⟩, Pv (i + 1), fun σ2 H2 p => ⟨m - 1, by omega, by omega, p⟩, fun v H2 hy => ?_⟩
    obtain ⟨T, x, rfl, nT, rfl, f⟩ := hy
    have ex : x = xs[i] := Option.some.inj ((f _ hS).symm.trans hxi)
    subst ex
    exact ⟨T, [.int (i : Nat), xs[i]], rfl, .inl (.inl upd_same), rfl, _, _, rfl, _, [], rfl, rfl, hs i _ σ' H' _ hxi hp (Ex.new nT)⟩
  · have ei : i = xs.length := by omega
    subst ei
    exact .inl ⟨⟨xs, hS, Nat.le_refl _⟩, hd σ' H' hp⟩
theorem q_forE {a : Addr} {xs : List V} {ta : TA} {j k : Nat} (h : EvA ta σ H [.ref a]) (hx : SqL K H a xs) (Pv : Nat → L2.St → Hp → Prop) (h0 : ∀ H1, Ex H H1 → Pv 0 σ H1) (hl : ∀ i σ' H', i ≤ xs.length → Pv i σ' H' → SqL K H' a xs)
    (hs : ∀ i x σ' H' H'', xs[i]? = some x → Pv i σ' H' → Ex H' H'' → tu { D with nx := Pv (i + 1), ct := Pv (i + 1), bk := tz D } ((σ'.set j (some (.int (i : Int)))).set k (some x)) H'') (hd : ∀ σ' H', Pv xs.length σ' H' → tz D σ' H') :
    tSeq (tFor (iEnum K ta) (gTup K 2 (gCons (gName j) (gCons (gName k) gNil))) tu) tz D σ H := s_forE (D := { D with nx := tz D }) h hx Pv h0 hl hs hd
/-- for j in reversed(range(n)) -/
theorem q_forV {n : Nat} {j : Nat} (h : Ev te σ H (.int (n : Int))) (hn : n ≤ 100000) (Pv : Nat → L2.St → Hp → Prop) (h0 : ∀ H1, Ex H H1 → Pv 0 σ H1)
    (hs : ∀ i σ' H', i < n → Pv i σ' H' → tu { D with nx := Pv (i + 1), ct := Pv (i + 1), bk := tz D } (σ'.set j (some (.int ((n - 1 - i : Nat) : Int)))) H') (hd : ∀ σ' H', Pv n σ' H' → tz D σ' H') :
    tSeq (tFor (iRevR (tRg1 te)) (gName j) tu) tz D σ H := by
  refine h H (Ex.refl H) _ fun H1 e => ⟨(n : Int), rfl, by omega, by omega, by omega, by omega, ?_⟩
  have en : ((n : Int) - 0).toNat = n := by omega
  have ex := for_rangeC (lo := (0 : Int) + ((((n : Int) - 0).toNat : Nat) : Int) - 1) (c := -1) (n := ((n : Int) - 0).toNat) (g := gName j) (tb := tu) (D := { D with nx := tz D }) (σ := σ) (H := H1) Pv (h0 H1 e) (fun i σ' H' hi p => ?_) (fun σ' H' p => hd σ' H' (by rw [en] at p; exact p))
  · exact ex
  · have ei : (0 : Int) + ((((n : Int) - 0).toNat : Nat) : Int) - 1 + ((i : Nat) : Int) * -1 = ((n - 1 - i : Nat) : Int) := by omega
    show tu _ (σ'.set j (some (.int ((0 : Int) + ((((n : Int) - 0).toNat : Nat) : Int) - 1 + ((i : Nat) : Int) * -1)))) H'
    rw [ei]
    exact hs i σ' H' (by omega) p
/-- i, j = divmod(a, b) -/
theorem q_divmod {ta : TA} {a b : Int} {i j : Nat} (h : EvA ta σ H [.int a, .int b]) (hc : CDivP a b) (k : ∀ H1, Ex H H1 → tz D ((σ.set i (some (.int (a / b)))).set j (some (.int (a % b)))) H1) :
    tSeq (tAsg (tCB (fun xs H Q => ∃ i j, xs = [.int i, .int j] ∧ CDivP i j ∧ ∀ p, H p = none → Q (.ref p) (upd H p (.tup [.int (i / j), .int (i % j)]))) ta) (gTup K 2 (gCons (gName i) (gCons (gName j) gNil)))) tz D σ H :=
  h H (Ex.refl H) _ fun H1 e => ⟨a, b, rfl, hc, fun p hp => ⟨p, _, rfl, .inl (.inl upd_same), rfl, _, _, rfl, _, [], rfl, rfl, k _ (e.trans (Ex.new hp))⟩⟩
/-- a call as a statement, whatever the promise -/
theorem q_call {ta : TA} {vs : List V} {sp : Sp} {E : XK} (h : EvA ta σ H vs) (k : ∀ H1, Ex H H1 → sp vs H1 (fun _ H2 => tz D σ H2) E) : tSeq (tDrop (tCall sp [] E ta)) tz D σ H :=
  h H (Ex.refl H) _ fun H1 e => by
    have := k H1 e
    rw [← List.append_nil vs] at this
    exact this
/-- return f(..), whatever the promise -/
theorem s_retC {ta : TA} {vs : List V} {sp : Sp} {E : XK} (h : EvA ta σ H vs) (k : ∀ H1, Ex H H1 → sp vs H1 D.rt E) : tRet (tCall sp [] E ta) D σ H :=
  h H (Ex.refl H) _ fun H1 e => by
    have := k H1 e
    rw [← List.append_nil vs] at this
    exact this
/-- an exception of the class at C -/
def RetX (C : Addr) (H : Hp) (E : XK) : Prop := ∀ H1, Ex H H1 → E (.ref C) none H1
theorem RetX.go {C : Addr} {E : XK} (k : RetX C H E) (e : Ex H H') : RetX C H' E := fun H1 e1 => k H1 (e.trans e1)
theorem RetV.mono {Q : VK} (k : RetV v H Q) (e : Ex H H') : RetV v H' Q := fun H1 e1 => k H1 (e.trans e1)
theorem RetL.mono {Q : VK} {xs : List V} (k : RetL xs H Q) (e : Ex H H') : RetL xs H' Q := fun p H2 hp e1 h => k p H2 (fresh_back e hp) (e.trans e1) h
end
section
variable {K : PySem.W.Frag} {σ : L2.St} {H H' : Hp} {ta tb tc te tx : TE} {t u : TT} {x y z v : V} {r r' : R2} {D : Ends} {tu tw tz : TS} {g : TG} {p : Addr} {ns : List Int} {xs : List V}
theorem rv_eqI {i j : Int} : RV rEq (.int i) (.int j) H (.bl (decide (i = j))) := fun H1 _ _ q => ⟨rfl, by
  rw [show decide (V.int i = V.int j) = decide (i = j) by rw [dec_int]; rfl]
  exact q H1 (Ex.refl H1)⟩
theorem rv_neI {i j : Int} : RV rNe (.int i) (.int j) H (.bl (!decide (i = j))) := fun H1 _ _ q => ⟨rfl, by
  rw [show decide (V.int i = V.int j) = decide (i = j) by rw [dec_int]; rfl]
  exact q H1 (Ex.refl H1)⟩
theorem rv_eqS {i j : Str} : RV rEq (.str i) (.str j) H (.bl (decide (i = j))) := fun H1 _ _ q => ⟨rfl, by
  rw [show decide (V.str i = V.str j) = decide (i = j) from by
    by_cases h : i = j
    · rw [h, decide_eq_true rfl, decide_eq_true rfl]
    · rw [decide_eq_false h, decide_eq_false (fun e => h (V.str.inj e))]]
  exact q H1 (Ex.refl H1)⟩
theorem rv_neS {i j : Str} : RV rNe (.str i) (.str j) H (.bl (!decide (i = j))) := fun H1 _ _ q => ⟨rfl, by
  rw [show decide (V.str i = V.str j) = decide (i = j) from by
    by_cases h : i = j
    · rw [h, decide_eq_true rfl, decide_eq_true rfl]
    · rw [decide_eq_false h, decide_eq_false (fun e => h (V.str.inj e))]]
  exact q H1 (Ex.refl H1)⟩
theorem rv_eqB {i j : Bool} : RV rEq (.bl i) (.bl j) H (.bl (decide (i = j))) := fun H1 _ _ q => ⟨rfl, by
  rw [show decide (V.bl i = V.bl j) = decide (i = j) from by cases i <;> cases j <;> rfl]
  exact q H1 (Ex.refl H1)⟩
theorem rc_len {n : Nat} (h : SqL K H p xs) (e : xs.length = n) : RC (fun xs H Q => ∃ p ys, xs = [.ref p] ∧ (SqL K H p ys ∨ SqT K H p ys) ∧ Q (.int ys.length) H) [.ref p] H (.int n) := fun H1 ex _ q => ⟨p, xs, rfl, .inl (ex_l ex h), by
  rw [e]
  exact q H1 (Ex.refl H1)⟩
theorem len_map (ns : List Int) : (ns.map V.int).length = ns.length := List.length_map ..
theorem ev_lenI (ha : Ev ta σ H (.ref p)) (h : SqL K H p (ns.map V.int)) : Ev (tCB (fun xs H Q => ∃ p ys, xs = [.ref p] ∧ (SqL K H p ys ∨ SqT K H p ys) ∧ Q (.int ys.length) H) (tCons ta tNil)) σ H (.int (ns.length : Int)) :=
  ev_cb (ea_cons ha ea_nil) (rc_len h (len_map ns))
theorem ev_lenL (ha : Ev ta σ H (.ref p)) (h : SqL K H p xs) : Ev (tCB (fun xs H Q => ∃ p ys, xs = [.ref p] ∧ (SqL K H p ys ∨ SqT K H p ys) ∧ Q (.int ys.length) H) (tCons ta tNil)) σ H (.int (xs.length : Int)) :=
  ev_cb (ea_cons ha ea_nil) (rc_len h rfl)
theorem at_int {k : Nat} (h : k < ns.length) : atI (ns.map V.int) (k : Int) = some (.int (ns.getD k 0)) := atI_nat (by
  rw [List.getElem?_map, List.getElem?_eq_getElem h, Option.map_some, List.getD_eq_getElem?_getD, List.getElem?_eq_getElem h]
  rfl)
theorem at_intZ {k : Int} (h0 : 0 ≤ k) (h : k < ns.length) : atI (ns.map V.int) k = some (.int (ns.getD k.toNat 0)) := by
  have e : k = ((k.toNat : Nat) : Int) := by omega
  have := at_int (ns := ns) (k := k.toNat) (by omega)
  rw [← e] at this
  exact this
theorem rv_ixI {k : Nat} (h : SqL K H p (ns.map V.int)) (hk : k < ns.length) : RV (rIxL K) (.ref p) (.int (k : Int)) H (.int (ns.getD k 0)) := rv_ixL h (at_int hk)
theorem rv_ixZ {k : Int} (h : SqL K H p (ns.map V.int)) (h0 : 0 ≤ k) (hk : k < ns.length) : RV (rIxL K) (.ref p) (.int k) H (.int (ns.getD k.toNat 0)) := rv_ixL h (at_intZ h0 hk)
/-- a op1 b op2 c of whole numbers -/
theorem ev_chainI {f f' : Int → Int → Bool} {a b c : Int} (ha : Ev ta σ H (.int a)) (hb : Ev tb σ H (.int b)) (hc : f a b = true → Ev tc σ H (.int c)) :
    Ev (tChain (rI0 fun i j => .bl (f i j)) (rI0 fun i j => .bl (f' i j)) ta tb tc) σ H (.bl (f a b && f' b c)) := fun H1 e Q q =>
  ha H1 e _ fun H2 e2 => hb H2 (e.trans e2) _ fun H3 e3 => ⟨a, b, rfl, rfl, f a b, rfl, by
    cases hf : f a b with
    | true =>
      show tc σ H3 _
      refine hc hf H3 ((e.trans e2).trans e3) _ fun H4 e4 => ⟨b, c, rfl, rfl, ?_⟩
      have := q H4 ((e2.trans e3).trans e4)
      rw [hf] at this
      exact this
    | false =>
      show Q (.bl false) H3
      have := q H3 (e2.trans e3)
      rw [hf] at this
      exact this⟩
theorem ev_to {w : V} (h : Ev te σ H v) (e : v = w) : Ev te σ H w := e ▸ h
/-- a new tuple's item -/
theorem ev_ixU {xs : List V} {i : Int} (ha : EvU ta σ H xs) (hb : ∀ H1, Ex H H1 → Ev tb σ H1 (.int i)) (hr : atI xs i = some v) : Ev (tOp (rIxT K) ta tb) σ H v := fun H1 e Q q =>
  ha H1 e _ fun p H2 _ e2 hp => hb H2 (e.trans e2) H2 (Ex.refl H2) _ fun H3 e3 => ⟨p, xs, i, v, rfl, rfl, st_of (e3 p _ hp), hr, q H3 (e2.trans e3)⟩
theorem et_tt {b b' : Bool} (h : EvT t σ H b) (e : b = b') : EvT t σ H b' := e ▸ h
theorem rv_ixTZ {k : Int} (h : SqT K H p (ns.map V.int)) (h0 : 0 ≤ k) (hk : k < ns.length) : RV (rIxT K) (.ref p) (.int k) H (.int (ns.getD k.toNat 0)) := rv_ixT h (at_intZ h0 hk)
theorem set_same {i : Nat} {v : V} (h : σ[i]? = some (some v)) : σ.set i (some v) = σ := by
  apply List.ext_getElem?
  intro j
  by_cases hj : i = j
  · subst hj
    rw [List.getElem?_set_self (List.getElem?_eq_some_iff.mp h).1, h]
  · rw [List.getElem?_set_ne hj]
/-- if c: x = e, of whole numbers -/
theorem q_ifI {i : Nat} {c : Prop} [Decidable c] {e0 e1 : Int} (h : EvT t σ H (decide c)) (hs : σ[i]? = some (some (.int e0))) (h1 : c → Ev te σ H (.int e1)) (k : ∀ H1, Ex H H1 → tz D (σ.set i (some (.int (if c then e1 else e0)))) H1) :
    tSeq (tIfS t (tAsg te (gName i)) tNext) tz D σ H :=
  q_ifAsg h (fun hb => by rw [if_pos (of_decide_eq_true hb)]; exact h1 (of_decide_eq_true hb)) (fun hb => by rw [if_neg (of_decide_eq_false hb)]; exact set_same hs) k
theorem dec_and {a b : Prop} [Decidable a] [Decidable b] : (decide a && decide b) = decide (a ∧ b) := by
  by_cases ha : a <;> by_cases hb : b <;> simp [ha, hb]
theorem dec_or {a b : Prop} [Decidable a] [Decidable b] : (decide a || decide b) = decide (a ∨ b) := by
  by_cases ha : a <;> by_cases hb : b <;> simp [ha, hb]
theorem dec_not {a : Prop} [Decidable a] : (!decide a) = decide (¬ a) := by
  by_cases ha : a <;> simp [ha]
theorem range_map_len (f : Nat → Int) (i : Nat) : (((List.range i).map f).map V.int).length = i := by rw [List.length_map, List.length_map, List.length_range]
theorem range_map_succ (f : Nat → Int) (i : Nat) : ((List.range (i + 1)).map f).map V.int = ((List.range i).map f).map V.int ++ [.int (f i)] := by
  rw [List.range_succ, List.map_append, List.map_append]
  rfl
theorem cut_to (xs : List V) (k : Nat) : cutV xs none (some (k : Int)) = xs.take k := by
  unfold cutV
  rw [HT.sIx_none, HT.sIx_nat]
  show (xs.drop 0).take (min k xs.length - 0) = xs.take k
  rw [List.drop_zero, Nat.sub_zero, ← List.take_take, List.take_length]
theorem cut_from (xs : List V) (k : Nat) : cutV xs (some (k : Int)) none = xs.drop k := by
  unfold cutV
  rw [HT.sIx_none, HT.sIx_nat]
  by_cases h : k ≤ xs.length
  · rw [Nat.min_eq_left h, List.take_of_length_le (by rw [List.length_drop]; exact Nat.le_refl _)]
  · rw [Nat.min_eq_right (by omega), Nat.sub_self, List.take_zero, List.drop_of_length_le (by omega)]
theorem cut_butlast (xs : List V) : cutV xs none (some (-1)) = xs.take (xs.length - 1) := by
  unfold cutV
  rw [HT.sIx_none]
  have e : HT.sIx xs.length xs.length (some (-1)) = xs.length - 1 := by
    unfold HT.sIx
    simp only
    rw [if_pos (by decide)]
    omega
  rw [e, List.drop_zero, Nat.sub_zero]
end
/-! ### data: lists of whole numbers, lists of such lists -/
abbrev dI (ns : List Int) : PyData := .list (ns.map PyData.int)
theorem eqv_int (i j : Int) : PyData.eqv (.int i) (.int j) = (i == j) := by simp only [PyData.eqv]
theorem eqvAll_ints : ∀ ns ms : List Int, PyData.eqvAll (ns.map PyData.int) (ms.map PyData.int) = decide (ns = ms)
  | [], [] => by simp [PyData.eqvAll]
  | [], _ :: _ => by simp [PyData.eqvAll]
  | _ :: _, [] => by simp [PyData.eqvAll]
  | n :: ns, m :: ms => by
    rw [List.map_cons, List.map_cons, PyData.eqvAll, eqv_int, eqvAll_ints ns ms]
    by_cases h : n = m
    · subst h
      simp
    · simp [h]
theorem eqv_dI (ns ms : List Int) : PyData.eqv (dI ns) (dI ms) = decide (ns = ms) := by
  show PyData.eqv (.list _) (.list _) = _
  rw [PyData.eqv, eqvAll_ints]
theorem eqvAll_lists : ∀ as bs : List (List Int), PyData.eqvAll (as.map dI) (bs.map dI) = decide (as = bs)
  | [], [] => by simp [PyData.eqvAll]
  | [], _ :: _ => by simp [PyData.eqvAll]
  | _ :: _, [] => by simp [PyData.eqvAll]
  | n :: ns, m :: ms => by
    rw [List.map_cons, List.map_cons, PyData.eqvAll, eqv_dI, eqvAll_lists ns ms]
    by_cases h : n = m
    · subst h
      simp
    · simp [h]
theorem eqv_dLL (as bs : List (List Int)) : PyData.eqv (.list (as.map dI)) (.list (bs.map dI)) = decide (as = bs) := by rw [PyData.eqv, eqvAll_lists]
theorem can_ints : ∀ ns : List Int, PyData.canLayAll0 (ns.map PyData.int) = true
  | [] => by simp [PyData.canLayAll0]
  | n :: ns => by
    rw [List.map_cons, PyData.canLayAll0, can_ints ns]
    simp [PyData.canLay0]
theorem can_dI (ns : List Int) : PyData.canLay0 (dI ns) = true := by
  show PyData.canLay0 (.list _) = true
  rw [PyData.canLay0]
  exact can_ints ns
theorem can_lists : ∀ as : List (List Int), PyData.canLayAll0 (as.map dI) = true
  | [] => by simp [PyData.canLayAll0]
  | n :: ns => by
    rw [List.map_cons, PyData.canLayAll0, can_lists ns, can_dI]
    rfl
theorem depth_ints : ∀ ns : List Int, PyData.depthAll (ns.map PyData.int) = 0
  | [] => by simp [PyData.depthAll]
  | n :: ns => by
    rw [List.map_cons, PyData.depthAll, depth_ints ns]
    simp [PyData.depth]
theorem depth_dI (ns : List Int) : PyData.depth (dI ns) = 1 := by
  show PyData.depth (.list _) = 1
  rw [PyData.depth, depth_ints]
theorem depth_lists : ∀ as : List (List Int), PyData.depthAll (as.map dI) ≤ 1
  | [] => by simp [PyData.depthAll]
  | n :: ns => by
    rw [List.map_cons, PyData.depthAll, depth_dI]
    have := depth_lists ns
    omega
theorem shaped_dI (ns : List Int) : SeqAt.shaped (dI ns) = true := by
  unfold SeqAt.shaped
  rw [can_dI, depth_dI]
  rfl
theorem shaped_dLL (as : List (List Int)) : SeqAt.shaped (.list (as.map dI)) = true := by
  unfold SeqAt.shaped
  rw [PyData.canLay0, can_lists, PyData.depth, decide_eq_true (by have := depth_lists as; omega)]
  rfl
section
variable {K : PySem.W.Frag} {σ : L2.St} {H H' : Hp} {ta tb tc te tx : TE} {t u : TT} {x y z v : V} {r r' : R2} {D : Ends} {tu tw tz : TS} {g : TG} {p q : Addr} {ns ms : List Int} {xs ys : List V}
theorem dpAll_ints : ∀ ns : List Int, DpAll K H (ns.map V.int) (ns.map PyData.int)
  | [] => .nil
  | n :: ns => .cons (.int n) (dpAll_ints ns)
theorem dp_ints (h : SqL K H p (ns.map V.int)) : Dp K H (.ref p) (dI ns) := .lst h (dpAll_ints ns)
/-- the lists of whole numbers nss stand one by one at the items xs -/
def Rows (K : PySem.W.Frag) (H : Hp) (xs : List V) (nss : List (List Int)) : Prop := Paired (fun v ns => ∃ a, v = V.ref a ∧ SqL K H a (ns.map V.int)) xs nss
theorem Rows.mono (e : Ex H H') {nss : List (List Int)} (h : Rows K H xs nss) : Rows K H' xs nss := Paired.mapP h fun _ _ ⟨a, e1, h1⟩ => ⟨a, e1, ex_l e h1⟩
theorem Rows.dp {nss : List (List Int)} (h : Rows K H xs nss) : DpAll K H xs (nss.map dI) := by
  induction h with
  | nil => exact .nil
  | cons r _ ih =>
    obtain ⟨a, rfl, h1⟩ := r
    exact .cons (dp_ints h1) ih
theorem Rows.len {nss : List (List Int)} (h : Rows K H xs nss) : xs.length = nss.length := Paired.length h
theorem Rows.snoc {nss : List (List Int)} (h : Rows K H xs nss) (h1 : SqL K H p (ns.map V.int)) : Rows K H (xs ++ [.ref p]) (nss ++ [ns]) := by
  induction h with
  | nil => exact .cons ⟨p, rfl, h1⟩ .nil
  | cons r _ ih => exact .cons r ih
theorem Rows.get {nss : List (List Int)} (h : Rows K H xs nss) {i : Nat} (hx : xs[i]? = some x) : ∃ a ns, x = .ref a ∧ nss[i]? = some ns ∧ SqL K H a (ns.map V.int) := by
  induction h generalizing i with
  | nil => simp at hx
  | cons r _ ih =>
    cases i with
    | zero =>
      obtain ⟨a, rfl, h1⟩ := r
      simp at hx
      subst hx
      exact ⟨a, _, rfl, rfl, h1⟩
    | succ i =>
      obtain ⟨a, ns, h1, h2, h3⟩ := ih (i := i) (by simpa using hx)
      exact ⟨a, ns, h1, by simpa using h2, h3⟩
theorem rv_neDI (h1 : SqL K H p (ns.map V.int)) (h2 : SqL K H q (ms.map V.int)) : RV (rNeD K) (.ref p) (.ref q) H (.bl (!decide (ns = ms))) := fun H1 e _ k =>
  ⟨dI ns, dI ms, dp_ints (ex_l e h1), dp_ints (ex_l e h2), shaped_dI ns, shaped_dI ms, by rw [eqv_dI]; exact k H1 (Ex.refl H1)⟩
theorem rv_eqDI (h1 : SqL K H p (ns.map V.int)) (h2 : SqL K H q (ms.map V.int)) : RV (rEqD K) (.ref p) (.ref q) H (.bl (decide (ns = ms))) := fun H1 e _ k =>
  ⟨dI ns, dI ms, dp_ints (ex_l e h1), dp_ints (ex_l e h2), shaped_dI ns, shaped_dI ms, by rw [eqv_dI]; exact k H1 (Ex.refl H1)⟩
theorem rv_neDL {as bs : List (List Int)} (h1 : SqL K H p xs) (r1 : Rows K H xs as) (h2 : SqL K H q ys) (r2 : Rows K H ys bs) : RV (rNeD K) (.ref p) (.ref q) H (.bl (!decide (as = bs))) := fun H1 e _ k =>
  ⟨.list (as.map dI), .list (bs.map dI), .lst (ex_l e h1) (r1.mono e).dp, .lst (ex_l e h2) (r2.mono e).dp, shaped_dLL as, shaped_dLL bs, by rw [eqv_dLL]; exact k H1 (Ex.refl H1)⟩
theorem rv_eqDL {as bs : List (List Int)} (h1 : SqL K H p xs) (r1 : Rows K H xs as) (h2 : SqL K H q ys) (r2 : Rows K H ys bs) : RV (rEqD K) (.ref p) (.ref q) H (.bl (decide (as = bs))) := fun H1 e _ k =>
  ⟨.list (as.map dI), .list (bs.map dI), .lst (ex_l e h1) (r1.mono e).dp, .lst (ex_l e h2) (r2.mono e).dp, shaped_dLL as, shaped_dLL bs, by rw [eqv_dLL]; exact k H1 (Ex.refl H1)⟩
/-! ### new lists -/
theorem flatten_rep (n : Nat) (x : V) : (List.replicate n [x]).flatten = List.replicate n x := by
  induction n with
  | zero => rfl
  | succ n ih => rw [List.replicate_succ, List.flatten_cons, ih, List.replicate_succ]; rfl
/-- [x] * n -/
theorem el_rep {n : Nat} (ha : EvL ta σ H [x]) (hb : Ev tb σ H (.int (n : Int))) (hn : n ≤ 100000) : EvL (tOp rRep ta tb) σ H (List.replicate n x) := fun H1 e Q k =>
  ha H1 e _ fun p H2 hp e2 h2 => hb H2 (e.trans e2) _ fun H3 e3 => ⟨p, (n : Int), [x], rfl, rfl, e3 _ _ h2, by omega, by omega, by rw [List.length_singleton, Int.toNat_natCast, Nat.one_mul]; exact sz_of hn, fun q hq => by
    rw [Int.toNat_natCast, flatten_rep]
    exact k q _ (fresh_back (e2.trans e3) hq) ((e2.trans e3).trans (Ex.new hq)) upd_same⟩
theorem rg_int (n : Nat) : rgV 0 (n : Int) = ((List.range n).map fun i : Nat => (i : Int)).map V.int := by
  unfold rgV
  rw [List.map_map, show ((n : Int) - 0).toNat = n by omega]
  congr 1
  funext i
  show V.int (0 + (i : Int)) = V.int (i : Int)
  rw [Int.zero_add]
/-- list(range(n)) -/
theorem el_rangeL {n : Nat} (ha : Ev ta σ H (.int (n : Int))) (hn : n ≤ 100000) : EvL (tLstRg (tRg1 ta)) σ H (((List.range n).map fun i : Nat => (i : Int)).map V.int) := fun H1 e Q k =>
  ha H1 e _ fun H2 e2 => ⟨(n : Int), rfl, RgOk.of_le (by omega) (by omega) (by omega) (by omega), fun q hq => by
    rw [rg_int]
    exact k q _ (fresh_back e2 hq) (e2.trans (Ex.new hq)) upd_same⟩
/-- xs + ys of two new lists; of a list that stands and a new one -/
theorem el_catLL (ha : EvL ta σ H xs) (hb : EvL tb σ H ys) (hz : xs.length + ys.length ≤ 100000) : EvL (tOp (rCatQ K) ta tb) σ H (xs ++ ys) := fun H1 e Q k =>
  ha H1 e _ fun p H2 hp e2 h2 => hb H2 (e.trans e2) _ fun q H3 hq e3 h3 => ⟨p, q, xs, ys, rfl, rfl, sq_of (e3 _ _ h2), sq_of h3, sz_of hz, fun l hl => k l _ (fresh_back (e2.trans e3) hl) ((e2.trans e3).trans (Ex.new hl)) upd_same⟩
theorem el_catSL (ha : Ev ta σ H (.ref p)) (h1 : SqL K H p xs) (hb : EvL tb σ H ys) (hz : xs.length + ys.length ≤ 100000) : EvL (tOp (rCatQ K) ta tb) σ H (xs ++ ys) := fun H1 e Q k =>
  ha H1 e _ fun H2 e2 => hb H2 (e.trans e2) _ fun q H3 hq e3 h3 => ⟨p, q, xs, ys, rfl, rfl, ex_l ((e.trans e2).trans e3) h1, sq_of h3, sz_of hz, fun l hl => k l _ (fresh_back (e2.trans e3) hl) ((e2.trans e3).trans (Ex.new hl)) upd_same⟩
theorem el_catLS (ha : EvL ta σ H xs) (hb : Ev tb σ H (.ref p)) (h1 : SqL K H p ys) (hz : xs.length + ys.length ≤ 100000) : EvL (tOp (rCatQ K) ta tb) σ H (xs ++ ys) := fun H1 e Q k =>
  ha H1 e _ fun q H2 hq e2 h2 => hb H2 (e.trans e2) _ fun H3 e3 => ⟨q, p, xs, ys, rfl, rfl, sq_of (e3 _ _ h2), ex_l ((e.trans e2).trans e3) h1, sz_of hz, fun l hl => k l _ (fresh_back (e2.trans e3) hl) ((e2.trans e3).trans (Ex.new hl)) upd_same⟩
theorem el_catSS (ha : Ev ta σ H (.ref p)) (h1 : SqL K H p xs) (hb : Ev tb σ H (.ref q)) (h2 : SqL K H q ys) (hz : xs.length + ys.length ≤ 100000) : EvL (tOp (rCatQ K) ta tb) σ H (xs ++ ys) := fun H1 e Q k =>
  ha H1 e _ fun H2 e2 => hb H2 (e.trans e2) _ fun H3 e3 => ⟨p, q, xs, ys, rfl, rfl, ex_l ((e.trans e2).trans e3) h1, ex_l ((e.trans e2).trans e3) h2, sz_of hz, fun l hl => k l _ (fresh_back (e2.trans e3) hl) ((e2.trans e3).trans (Ex.new hl)) upd_same⟩
/-- xs[::-1] -/
theorem el_rev (ha : Ev ta σ H (.ref p)) (h1 : SqL K H p xs) : EvL (tRevL K ta) σ H xs.reverse := fun H1 e Q k =>
  ha H1 e _ fun H2 e2 => ⟨p, xs, rfl, ex_l (e.trans e2) h1, fun l hl => k l _ (fresh_back e2 hl) (e2.trans (Ex.new hl)) upd_same⟩
/-- list(xs) -/
theorem el_copy (ha : Ev ta σ H (.ref p)) (h1 : SqL K H p xs) : EvL (tCB (fun xs H Q => ∃ p ys, xs = [.ref p] ∧ (SqL K H p ys ∨ SqT K H p ys) ∧ ∀ l, H l = none → Q (.ref l) (upd H l (.lst ys))) (tCons ta tNil)) σ H xs := Evl.el_list ha h1
/-- a comprehension over a new tuple -/
theorem el_lcTup {tl : TE} {j : Nat} {vs : List Nat} (hl : ys.length = xs.length) (h : EvU tl σ H xs) (hz : xs.length ≤ 40000) (hw : ∀ x, wipe ((wipe σ vs).set j (some x)) vs = wipe σ vs)
    (he : ∀ (i : Nat) (x y : V) H1, Ex H H1 → xs[i]? = some x → ys[i]? = some y → Ev te ((wipe σ vs).set j (some x)) H1 y) :
    EvL (tLc (iTup K tl) (gName j) tYes te vs) σ H ys := fun H0 e Q q => h H0 e _ fun a H1 ha e1 hx => ⟨a, rfl, ⟨xs, st_of hx⟩, fun Dl hD => by
  refine lc_tup (xs := xs) (fun i H' => Ex H1 H' ∧ H' Dl = some (.lst (ys.take i))) ⟨Ex.new hD, upd_same⟩ (fun i H' _ p => st_of (p.1 a _ hx)) (fun i x H' hi p => ⟨hw x, ?_⟩) (fun H' p => q Dl H' (fresh_back e1 hD) (e1.trans p.1) (by rw [p.2, List.take_of_length_le (by omega)]))
  have hi' : i < ys.length := by
    have := (List.getElem?_eq_some_iff.mp hi).1
    omega
  have hy : ys[i]? = some ys[i] := List.getElem?_eq_getElem hi'
  unfold tYes
  dsimp only
  rw [if_pos rfl]
  refine he i x _ H' ((e.trans e1).trans p.1) hi hy H' (Ex.refl H') _ fun H4 e4 => ⟨ys.take i, e4 _ _ p.2, sz_lt (by rw [List.length_take]; omega), Ex.mut (p.1.trans e4) hD, ?_⟩
  rw [upd_same, List.take_succ, hy]
  rfl⟩
/-- the second operand a new list, the first one stands -/
theorem ev_opSL (ha : Ev ta σ H x) (hb : EvL tb σ H ys) (hr : ∀ q H1, H1 q = some (.lst ys) → Ex H H1 → RV r x (.ref q) H1 z) : Ev (tOp r ta tb) σ H z := fun H1 e Q k =>
  ha H1 e _ fun H2 e2 => hb H2 (e.trans e2) _ fun q H3 hq e3 h3 => hr q H3 h3 ((e.trans e2).trans e3) H3 (Ex.refl H3) Q fun H4 e4 => k H4 ((e2.trans e3).trans e4)
theorem ev_opLS (ha : EvL ta σ H xs) (hb : Ev tb σ H y) (hr : ∀ q H1, H1 q = some (.lst xs) → Ex H H1 → RV r (.ref q) y H1 z) : Ev (tOp r ta tb) σ H z := fun H1 e Q k =>
  ha H1 e _ fun q H2 hq e2 h2 => hb H2 (e.trans e2) _ fun H3 e3 => hr q H3 (e3 _ _ h2) ((e.trans e2).trans e3) H3 (Ex.refl H3) Q fun H4 e4 => k H4 ((e2.trans e3).trans e4)
/-- a promised call one of whose arguments is a new list: f(a, [..]) -/
theorem ev_callSL {sp : Sp} {E : XK} (ha : Ev ta σ H x) (hb : EvL tb σ H ys) (hs : ∀ q H1, H1 q = some (.lst ys) → Ex H H1 → SpV sp [x, .ref q] H1 z) : Ev (tCall sp [] E (tCons ta (tCons tb tNil))) σ H z := fun H1 e Q k =>
  ha H1 e _ fun H2 e2 => hb H2 (e.trans e2) _ fun q H3 hq e3 h3 => hs q H3 h3 ((e.trans e2).trans e3) H3 (Ex.refl H3) Q (fun H4 e4 => k H4 ((e2.trans e3).trans e4)) E
theorem ev_callLL {sp : Sp} {E : XK} (ha : EvL ta σ H xs) (hb : EvL tb σ H ys) (hs : ∀ p q H1, H1 p = some (.lst xs) → H1 q = some (.lst ys) → Ex H H1 → SpV sp [.ref p, .ref q] H1 z) : Ev (tCall sp [] E (tCons ta (tCons tb tNil))) σ H z := fun H1 e Q k =>
  ha H1 e _ fun p H2 hp e2 h2 => hb H2 (e.trans e2) _ fun q H3 hq e3 h3 => hs p q H3 (e3 _ _ h2) h3 ((e.trans e2).trans e3) H3 (Ex.refl H3) Q (fun H4 e4 => k H4 ((e2.trans e3).trans e4)) E
theorem el_callLS {sp : Sp} {E : XK} {zs : List V} (ha : EvL ta σ H xs) (hb : Ev tb σ H y) (hs : ∀ p H1, H1 p = some (.lst xs) → Ex H H1 → SpL sp [.ref p, y] H1 zs) : EvL (tCall sp [] E (tCons ta (tCons tb tNil))) σ H zs := fun H1 e Q k =>
  ha H1 e _ fun p H2 hp e2 h2 => hb H2 (e.trans e2) _ fun H3 e3 => hs p H3 (e3 _ _ h2) ((e.trans e2).trans e3) H3 (Ex.refl H3) Q (fun l H4 hl e4 h4 => k l H4 (fresh_back (e2.trans e3) hl) ((e2.trans e3).trans e4) h4) E
/-- xs.reverse(), xs.clear() as statements -/
theorem q_reverse (hl : H p = some (.lst xs)) (ha : Ev ta σ H (.ref p)) (k : ∀ H1, Ex H H1 → tz D σ (upd H1 p (.lst xs.reverse))) : tSeq (tDrop (tBM0 K "list" rReverse ta)) tz D σ H := ha H (Ex.refl H) _ fun H1 e1 =>
  ⟨Or.inl ⟨rfl, xs, sq_of (e1 _ _ hl)⟩, p, xs, rfl, rfl, e1 _ _ hl, k H1 e1⟩
/-- min(a, b) -/
theorem ev_min2 {i j : Int} (ha : Ev ta σ H (.int i)) (hb : Ev tb σ H (.int j)) : Ev (tCB (fun xs H Q => ∃ i j, xs = [.int i, .int j] ∧ Q (.int (if j < i then j else i)) H) (tCons ta (tCons tb tNil))) σ H (.int (if j < i then j else i)) :=
  ev_cb (ea_cons ha (ea_cons hb ea_nil)) fun H1 _ _ k => ⟨i, j, rfl, k H1 (Ex.refl H1)⟩
/-- for x in (a, b, ..): a new tuple; the heap grows -/
theorem q_forU {tl : TE} {j : Nat} (h : EvU tl σ H xs) (k : ∀ p H1, H p = none → Ex H H1 → H1 p = some (.tup xs) → ∃ Pv : Nat → L2.St → Hp → Prop, Pv 0 σ H1 ∧ (∀ i σ' H', Pv i σ' H' → Ex H1 H') ∧
    (∀ i x σ' H', xs[i]? = some x → Pv i σ' H' → tu { D with nx := Pv (i + 1), ct := Pv (i + 1), bk := tz D } (σ'.set j (some x)) H') ∧ ∀ σ' H', Pv xs.length σ' H' → tz D σ' H') : tSeq (tFor (iTup K tl) (gName j) tu) tz D σ H :=
  h H (Ex.refl H) _ fun p H1 hp e h1 => by
    obtain ⟨Pv, h0, hl, hs, hd⟩ := k p H1 hp e h1
    exact ⟨p, rfl, ⟨xs, st_of h1⟩, for_tup Pv h0 (fun i σ' H' _ q => st_of (hl i σ' H' q p _ h1)) (fun i x σ' H' hx q => hs i x σ' H' hx q) hd⟩
theorem map_rep (n : Nat) (i : Int) : List.replicate n (V.int i) = (List.replicate n i).map V.int := by rw [List.map_replicate]
end
local macro_rules | `(tactic| walk_at "side") => `(tactic| first | assumption | omega | decide | exact mulC (by decide) (by decide) | exact mulX (by assumption) | exact ⟨by decide, by decide⟩ | exact ⟨by decide, by decide, by decide⟩)
local macro_rules | `(tactic| walk_at "heap") => `(tactic| first | assumption | exact sq_of (by assumption))
local macro_rules | `(tactic| walk_at "rv") => `(tactic| first | exact rv_I0 | (refine rv_I ?_; walk_at "side") | exact rv_eqI | exact rv_neI | exact rv_eqB | exact rv_eqS | exact rv_neS | ((refine' rv_ixI ?k1 ?k2); (case k1 => walk_at "heap"); (case k2 => omega)) | ((refine' rv_ixZ ?k1 ?k2 ?k3); (case k1 => walk_at "heap"); (case k2 => omega); (case k3 => omega)) | ((refine' rv_ixTZ ?k1 ?k2 ?k3); (case k1 => first | assumption | exact st_of (by assumption)); (case k2 => omega); (case k3 => omega)))
local macro_rules | `(tactic| walk_at "rc") => `(tactic| fail)
local macro_rules | `(tactic| walk_at "spv") => `(tactic| fail)
local macro_rules | `(tactic| walk_at "ev") => `(tactic| first
  | (with_reducible exact ev_c)
  | ((with_reducible refine' ev_var ?k1); (case k1 => rfl))
  | ((with_reducible refine' ev_op ?k1 ?k2 ?k3); (case k1 => walk_at "ev"); (case k2 => walk_at "ev"); (case k3 => walk_at "rv"))
  | ((with_reducible refine' ev_un ?k1 ?k2); (case k1 => walk_at "ev"); (case k2 => exact ru_neg))
  | ((with_reducible refine' ev_lenI ?k1 ?k2); (case k1 => walk_at "ev"); (case k2 => walk_at "heap"))
  | ((with_reducible refine' ev_lenL ?k1 ?k2); (case k1 => walk_at "ev"); (case k2 => walk_at "heap"))
  | ((with_reducible refine' ev_abs ?k1); (case k1 => walk_at "ev"))
  | ((with_reducible refine' ev_cb ?k1 ?k2); (case k1 => walk_at "ea"); (case k2 => walk_at "rc"))
  | ((with_reducible refine' ev_call ?k1 ?k2); (case k1 => walk_at "ea"); (case k2 => walk_at "spv"))
  | ((with_reducible refine' ev_andV ?k1 ?k2); (case k1 => walk_at "ev"); (case k2 => (intro _; walk_at "ev")))
  | ((with_reducible refine' ev_orV ?k1 ?k2); (case k1 => walk_at "ev"); (case k2 => (intro _; walk_at "ev")))
  | ((with_reducible refine' ev_notV ?k1); (case k1 => walk_at "ev"))
  | ((with_reducible refine' ev_chainI ?k1 ?k2 ?k3); (case k1 => walk_at "ev"); (case k2 => walk_at "ev"); (case k3 => (intro _; walk_at "ev"))))
local macro_rules | `(tactic| walk_at "ea") => `(tactic| first | (with_reducible exact ea_nil) | ((with_reducible refine' ea_cons ?k1 ?k2); (case k1 => walk_at "ev"); (case k2 => walk_at "ea")))
local macro_rules | `(tactic| walk_at "et") => `(tactic| first
  | ((with_reducible refine' et_B ?k1); (case k1 => walk_at "ev"))
  | ((with_reducible refine' et_test ?k1); (case k1 => walk_at "ev"))
  | ((with_reducible refine' et_and ?k1 ?k2); (case k1 => walk_at "et"); (case k2 => (intro _; walk_at "et")))
  | ((with_reducible refine' et_or ?k1 ?k2); (case k1 => walk_at "et"); (case k2 => (intro _; walk_at "et")))
  | ((with_reducible refine' et_not ?k1); (case k1 => walk_at "et")))
/-! ### sorted of a list of lists of whole numbers -/
def sortL (nss : List (List Int)) : List (List Int) := nss.mergeSort fun p q => decide (p ≤ q)
def rSortedR (K : PySem.W.Frag) : List V → Hp → VK → Prop := fun vs H Q => ∃ (a : Addr) (xs : List V) (nss : List (List Int)), vs = [V.ref a] ∧ SqL K H a xs ∧ Rows K H xs nss ∧ ∀ ys p, Rows K H ys (sortL nss) → H p = none → Q (.ref p) (upd H p (.lst ys))
section
variable {K : PySem.W.Frag} {H : Hp}
abbrev RowR (K : PySem.W.Frag) (H : Hp) (v : Value) (b : V × List Int) : Prop := RelV b.1 v ∧ ∃ a, b.1 = V.ref a ∧ SqL K H a (b.2.map V.int)
theorem rows_each : ∀ {xs : List V} {nss : List (List Int)} {its : List Value}, Rows K H xs nss → Vals xs its → PySem.W.EachIs (RowR K H) its (xs.zip nss)
  | _, _, _, .nil, .nil => .nil
  | _, _, _, .cons r t, .cons q u => .cons ⟨q, r⟩ (rows_each t u)
theorem each_vals : ∀ {out : List Value} {bs : List (V × List Int)}, PySem.W.EachIs (RowR K H) out bs → Vals (bs.map Prod.fst) out ∧ Rows K H (bs.map Prod.fst) (bs.map Prod.snd)
  | _, _, .nil => ⟨.nil, .nil⟩
  | _, _, .cons r t => ⟨.cons r.1 (each_vals t).1, .cons r.2 (each_vals t).2⟩
theorem zip_snd : ∀ {xs : List V} {nss : List (List Int)}, xs.length = nss.length → (xs.zip nss).map Prod.snd = nss
  | [], [], _ => rfl
  | x :: xs, n :: nss, h => by
    rw [List.zip_cons_cons, List.map_cons, zip_snd (by simpa using h)]
  | [], _ :: _, h => by simp at h
  | _ :: _, [], h => by simp at h
end
section
variable {X : Cx}
theorem call_sortedR (hu : X.A.units + 64 < cLine) : CallR X (.builtin "sorted") (rSortedR X.K) := by
  intro pins s σ H vs us Q I r h
  obtain ⟨a, xs, nss, rfl, hs, hr, q⟩ := h
  obtain ⟨its, rv, hl, hz⟩ := I.list hs
  rw [Vals.ref1 r]
  have e := rows_each hr rv
  have hlen : (xs.zip nss).length = xs.length := by
    rw [List.length_zip, hr.len, Nat.min_self]
  have er : PySem.W.EachIs (fun v (b : V × List Int) => ∃ as, Reads s.heap v (dI b.2) as) its (xs.zip nss) := by
    have go : ∀ {its : List Value} {bs : List (V × List Int)}, PySem.W.EachIs (RowR X.K H) its bs → PySem.W.EachIs (fun v (b : V × List Int) => ∃ as, Reads s.heap v (dI b.2) as) its bs := by
      intro its bs h
      induction h with
      | nil => exact .nil
      | cons r _ ih =>
        obtain ⟨r1, a, e1, h1⟩ := r
        exact .cons (Dp.reads I _ _ _ (e1 ▸ dp_ints h1) r1) ih
    exact go e
  refine PySem.W.sorted_data (enc := fun b : V × List Int => dI b.2) hl.isList e er (PySem.W.AllAlike.of fun b b' => ?_) (PySem.W.Sortable.others fun b => ⟨(fun z => nomatch z), fun xs z => (nomatch z)⟩) (by rw [hlen]; exact hz) (fun b _ => by rw [depth_dI]; omega) fun out ho he => ?_
  · show PySem.W.alike (.list _) (.list _) = true
    rw [PySem.W.alike]
    exact PySem.W.alike_ints _ _
  · obtain ⟨v1, v2⟩ := each_vals he
    have es : ((xs.zip nss).mergeSort (PySem.W.dataLe false fun b : V × List Int => dI b.2)).map Prod.snd = sortL nss := by
      rw [PySem.W.dataLe_rows (fun b : V × List Int => b.2), PySem.W.sort_maps (s := fun p q : List Int => decide (p ≤ q)) Prod.snd (fun a _ b _ => rfl), zip_snd hr.len]
      rfl
    rw [es] at v2
    obtain ⟨ep, he'⟩ := PyProof.Rows.sortedAll_at s.heap its out.toArray
    have hlo : (((xs.zip nss).mergeSort (PySem.W.dataLe false fun b : V × List Int => dI b.2)).map Prod.fst).length ≤ sizeLine := by
      rw [List.length_map, List.length_mergeSort, hlen]
      exact hz
    exact ⟨.ref _, upd H (s.heap.objs.size + 1) (.lst (((xs.zip nss).mergeSort (PySem.W.dataLe false fun b : V × List Int => dI b.2)).map Prod.fst)), I.laid (t' := s.toks) (fun _ _ => PyProof.Rows.sortedAll_old) (Nat.le_succ _) ⟨hlo, out, ep, v1, he'⟩, rfl, q _ _ v2 (I.hok.fresh (Nat.le_succ _))⟩
theorem call_sortedK {K : PySem.W.Frag} (e : X.K = K) (hu : X.A.units + 64 < cLine) : CallR X (.builtin "sorted") (rSortedR K) := e ▸ call_sortedR hu
end
/-! ### a new list of new lists -/
section
variable {K : PySem.W.Frag} {σ : L2.St} {H H' : Hp} {ta tb tc te tx : TE} {t u : TT} {x y z v : V} {r r' : R2} {D : Ends} {tu tw tz : TS} {g : TG} {p q : Addr} {ns ms : List Int} {xs ys : List V} {nss mss : List (List Int)}
def EvR (K : PySem.W.Frag) (te : TE) (σ : L2.St) (H : Hp) (nss : List (List Int)) : Prop := ∀ H1, Ex H H1 → ∀ Q : VK, (∀ p H2 ys, H1 p = none → Ex H1 H2 → H2 p = some (.lst ys) → Rows K H2 ys nss → Q (.ref p) H2) → te σ H1 Q
def RetR (K : PySem.W.Frag) (nss : List (List Int)) (H : Hp) (Q : VK) : Prop := ∀ p H2 ys, H p = none → Ex H H2 → H2 p = some (.lst ys) → Rows K H2 ys nss → Q (.ref p) H2
theorem RetR.mono {Q : VK} (k : RetR K nss H Q) (e : Ex H H') : RetR K nss H' Q := fun p H2 ys hp e1 h hr => k p H2 ys (fresh_back e hp) (e.trans e1) h hr
def SpR (K : PySem.W.Frag) (sp : Sp) (vs : List V) (H : Hp) (nss : List (List Int)) : Prop := ∀ H1, Ex H H1 → ∀ Q : VK, RetR K nss H1 Q → ∀ E : XK, sp vs H1 Q E
theorem er_call {sp : Sp} {dvs vs : List V} {E : XK} {ta : TA} (h : EvA ta σ H vs) (hs : SpR K sp (vs ++ dvs) H nss) : EvR K (tCall sp dvs E ta) σ H nss := fun H1 e Q q =>
  h H1 e _ fun H2 e2 => hs H2 (e.trans e2) Q (fun p H3 ys hp e3 h3 hr => q p H3 ys (fresh_back e2 hp) (e2.trans e3) h3 hr) E
theorem sq_upd {a l : Addr} {o : HO} (h : SqL K H a xs) (n : a ≠ l) : SqL K (upd H l o) a xs := by
  rcases h with (h | ⟨u, h⟩) | h
  · exact .inl (.inl (by rw [upd_ne n]; exact h))
  · exact .inl (.inr ⟨u, by rw [upd_ne n]; exact h⟩)
  · exact .inr h
theorem er_sorted (ha : Ev ta σ H (.ref p)) (h1 : SqL K H p xs) (hr : Rows K H xs nss) : EvR K (tCB (rSortedR K) (tCons ta tNil)) σ H (sortL nss) := fun H1 e Q q =>
  ha H1 e _ fun H2 e2 => ⟨p, xs, nss, rfl, ex_l (e.trans e2) h1, hr.mono (e.trans e2), fun ys l hy hl => q l _ ys (fresh_back e2 hl) (e2.trans (Ex.new hl)) upd_same (hy.mono (Ex.new hl))⟩
theorem s_retR (h : EvR K te σ H nss) (k : RetR K nss H D.rt) : tRet te D σ H := h H (Ex.refl H) _ k
theorem q_asgR {i : Nat} (h : EvR K te σ H nss) (k : ∀ p H1 ys, H p = none → Ex H H1 → H1 p = some (.lst ys) → Rows K H1 ys nss → tz D (σ.set i (some (.ref p))) H1) : tSeq (tAsg te (gName i)) tz D σ H := h H (Ex.refl H) _ k
theorem ev_lenR (h : EvR K te σ H nss) : Ev (tCB (fun xs H Q => ∃ p ys, xs = [.ref p] ∧ (SqL K H p ys ∨ SqT K H p ys) ∧ Q (.int ys.length) H) (tCons te tNil)) σ H (.int (nss.length : Int)) := fun H1 e Q q =>
  h H1 e _ fun p H2 ys hp e2 h2 hr => ⟨p, ys, rfl, .inl (sq_of h2), by rw [hr.len]; exact q H2 e2⟩
theorem ev_opSR (ha : Ev ta σ H x) (hb : EvR K tb σ H nss) (hr : ∀ q H1 ys, H1 q = some (.lst ys) → Rows K H1 ys nss → Ex H H1 → RV r x (.ref q) H1 z) : Ev (tOp r ta tb) σ H z := fun H1 e Q k =>
  ha H1 e _ fun H2 e2 => hb H2 (e.trans e2) _ fun q H3 ys hq e3 h3 h4 => hr q H3 ys h3 h4 ((e.trans e2).trans e3) H3 (Ex.refl H3) Q fun H4 e4 => k H4 ((e2.trans e3).trans e4)
/-- rows that stand apart from the list at l -/
def RowsA (l : Addr) (H : Hp) (xs : List V) (nss : List (List Int)) : Prop := Paired (fun v ns => ∃ a, v = V.ref a ∧ a ≠ l ∧ H a = some (.lst (ns.map V.int))) xs nss
theorem RowsA.rows {l : Addr} (h : RowsA l H xs nss) : Rows K H xs nss := Paired.mapP h fun _ _ ⟨a, e, _, h1⟩ => ⟨a, e, sq_of h1⟩
theorem RowsA.mono {l : Addr} (e : Ex H H') (h : RowsA l H xs nss) : RowsA l H' xs nss := Paired.mapP h fun _ _ ⟨a, e1, n, h1⟩ => ⟨a, e1, n, e _ _ h1⟩
theorem RowsA.upd {l : Addr} {o : HO} (h : RowsA l H xs nss) : RowsA l (upd H l o) xs nss := Paired.mapP h fun _ _ ⟨a, e1, n, h1⟩ => ⟨a, e1, n, by rw [upd_ne n]; exact h1⟩
theorem RowsA.snoc {l : Addr} (h : RowsA l H xs nss) (n : p ≠ l) (h1 : H p = some (.lst (ns.map V.int))) : RowsA l H (xs ++ [.ref p]) (nss ++ [ns]) := by
  induction h with
  | nil => exact .cons ⟨p, rfl, n, h1⟩ .nil
  | cons r _ ih => exact .cons r ih
theorem RowsA.len {l : Addr} (h : RowsA l H xs nss) : xs.length = nss.length := Paired.length h
/-- all but the list at l stands as it stood -/
def But (l : Addr) (H H1 : Hp) : Prop := ∀ a o, a ≠ l → H a = some o → H1 a = some o
theorem But.ex {l : Addr} {H0 H1 : Hp} (b : But l H H1) (e : Ex H0 H) (h : H0 l = none) : Ex H0 H1 := fun a o ha => b a o (ne_of_none ha h) (e a o ha)
theorem But.of {l : Addr} {H1 : Hp} (e : Ex H H1) : But l H H1 := fun a o _ h => e a o h
theorem But.upd {l : Addr} {H1 : Hp} {o : HO} (e : Ex H H1) : But l H (L2.upd H1 l o) := fun a u n h => by
  rw [upd_ne n]
  exact e a u h
theorem But.trans {l : Addr} {H1 H2 : Hp} (a : But l H H1) (b : But l H1 H2) : But l H H2 := fun c o n h => b c o n (a c o n h)
theorem But.rows {l : Addr} {H1 : Hp} (b : But l H H1) (h : RowsA l H xs nss) : RowsA l H1 xs nss := Paired.mapP h fun _ _ ⟨a, e1, n, h1⟩ => ⟨a, e1, n, b a _ n h1⟩
/-- if c: l.append(a new list of whole numbers) -/
theorem s_ifApp {l : Addr} {c : Prop} [Decidable c] (hl : H l = some (.lst xs)) (hr : RowsA l H xs nss) (hz : xs.length < 100000) (ht : EvT t σ H (decide c)) (ha : Ev ta σ H (.ref l)) (he : c → EvL te σ H (ns.map V.int))
    (k : ∀ xs1 H1, But l H H1 → H1 l = some (.lst xs1) → RowsA l H1 xs1 (nss ++ if c then [ns] else []) → D.nx σ H1) : tIfS t (tDrop (tBM K "list" rAppend ta (tCons te tNil))) tNext D σ H :=
  s_when ht (fun hb H1 e1 => by
    have hc := of_decide_eq_true hb
    refine s_appL (l := l) (e1 _ _ hl) (fun H2 e2 Q q => ha H2 (e1.trans e2) Q q) (fun H2 e2 Q q => he hc H2 (e1.trans e2) Q q) hz fun p H2 hp e2 h2 => k _ _ (But.upd (e1.trans e2)) upd_same ?_
    rw [if_pos hc]
    have np : p ≠ l := fun z => by
      rw [z, e1 _ _ hl] at hp
      cases hp
    exact (hr.mono (e1.trans e2)).upd.snoc np (by rw [upd_ne np]; exact h2)) (fun hb H1 e1 => k xs H1 (But.of e1) (e1 _ _ hl) (by
    rw [if_neg (of_decide_eq_false hb), List.append_nil]
    exact hr.mono e1))
theorem q_ifApp {l : Addr} {c : Prop} [Decidable c] (hl : H l = some (.lst xs)) (hr : RowsA l H xs nss) (hz : xs.length < 100000) (ht : EvT t σ H (decide c)) (ha : Ev ta σ H (.ref l)) (he : c → EvL te σ H (ns.map V.int))
    (k : ∀ xs1 H1, But l H H1 → H1 l = some (.lst xs1) → RowsA l H1 xs1 (nss ++ if c then [ns] else []) → tz D σ H1) : tSeq (tIfS t (tDrop (tBM K "list" rAppend ta (tCons te tNil))) tNext) tz D σ H := s_ifApp (D := { D with nx := tz D }) hl hr hz ht ha he k
/-- for x in (a, b, ..): a new tuple, which stays -/
theorem s_forU {tl : TE} {j : Nat} (h : EvU tl σ H xs) (k : ∀ p H1, H p = none → Ex H H1 → H1 p = some (.tup xs) → ∃ Pv : Nat → L2.St → Hp → Prop, Pv 0 σ H1 ∧ (∀ i σ' H', Pv i σ' H' → H' p = some (.tup xs)) ∧
    (∀ i x σ' H', xs[i]? = some x → Pv i σ' H' → tu { D with nx := Pv (i + 1), ct := Pv (i + 1), bk := D.nx } (σ'.set j (some x)) H') ∧ ∀ σ' H', Pv xs.length σ' H' → D.nx σ' H') : tFor (iTup K tl) (gName j) tu D σ H :=
  h H (Ex.refl H) _ fun p H1 hp e h1 => by
    obtain ⟨Pv, h0, hl, hs, hd⟩ := k p H1 hp e h1
    exact ⟨p, rfl, ⟨xs, st_of h1⟩, for_tup Pv h0 (fun i σ' H' _ q => st_of (hl i σ' H' q)) (fun i x σ' H' hx q => hs i x σ' H' hx q) hd⟩
/-- a comprehension over a new list of rows -/
theorem el_lcRows {tl : TE} {j : Nat} {vs : List Nat} (hl : ys.length = nss.length) (h : EvR K tl σ H nss) (hz : nss.length ≤ 40000) (hw : ∀ x, wipe ((wipe σ vs).set j (some x)) vs = wipe σ vs)
    (he : ∀ (i : Nat) (a : Addr) (ns : List Int) (y : V) H1, Ex H H1 → nss[i]? = some ns → ys[i]? = some y → SqL K H1 a (ns.map V.int) → Ev te ((wipe σ vs).set j (some (.ref a))) H1 y) :
    EvL (tLc (iList K tl) (gName j) tYes te vs) σ H ys := fun H0 e Q q => h H0 e _ fun a H1 xs ha e1 hx hr => ⟨a, rfl, ⟨xs, sq_of hx⟩, fun Dl hD => by
  have hxl := hr.len
  refine lc_list (xs := xs) (fun i H' => Ex H1 H' ∧ H' Dl = some (.lst (ys.take i))) ⟨Ex.new hD, upd_same⟩ (fun i H' _ p => sq_of (p.1 a _ hx)) (fun i x H' hi p => ⟨hw x, ?_⟩) (fun H' p => q Dl H' (fresh_back e1 hD) (e1.trans p.1) (by rw [p.2, List.take_of_length_le (by omega)]))
  have hi' : i < ys.length := by
    have := (List.getElem?_eq_some_iff.mp hi).1
    omega
  have hy : ys[i]? = some ys[i] := List.getElem?_eq_getElem hi'
  obtain ⟨b, ns, rfl, hn, hb⟩ := hr.get hi
  unfold tYes
  dsimp only
  rw [if_pos rfl]
  refine he i b ns _ H' ((e.trans e1).trans p.1) hn hy (ex_l p.1 hb) H' (Ex.refl H') _ fun H4 e4 => ⟨ys.take i, e4 _ _ p.2, sz_lt (by rw [List.length_take]; omega), Ex.mut (p.1.trans e4) hD, ?_⟩
  rw [upd_same, List.take_succ, hy]
  rfl⟩
theorem inV_ints (x : Int) (ns : List Int) : inV (.int x) (ns.map V.int) = decide (x ∈ ns) := by
  unfold inV
  induction ns with
  | nil => rfl
  | cons n ns ih =>
    rw [List.map_cons, List.any_cons, ih]
    show ((n == x) || decide (x ∈ ns)) = decide (x ∈ n :: ns)
    by_cases h : n = x
    · subst h
      simp
    · have h2 : x ≠ n := fun e => h e.symm
      simp [h, h2]
theorem flat_ints (ns : List Int) : (ns.map V.int).all flatV = true := by
  rw [List.all_map]
  exact List.all_eq_true.mpr fun _ _ => rfl
theorem rv_niI {x : Int} (h : SqL K H p (ns.map V.int)) : RV (rIn K true) (.int x) (.ref p) H (.bl (!decide (x ∈ ns))) := by
  rw [← inV_ints]
  exact rv_niL h rfl (flat_ints ns)
/-- a, b = two new lists -/
theorem q_asg2L {i j : Nat} (h1 : EvL ta σ H xs) (h2 : EvL tb σ H ys) (k : ∀ p q H1, H p = none → H q = none → Ex H H1 → H1 p = some (.lst xs) → H1 q = some (.lst ys) → tz D ((σ.set i (some (.ref p))).set j (some (.ref q))) H1) :
    tSeq (tAsg (tTup (tCons ta (tCons tb tNil))) (gTup K 2 (gCons (gName i) (gCons (gName j) gNil)))) tz D σ H :=
  h1 H (Ex.refl H) _ fun p H1 hp e1 g1 => h2 H1 e1 _ fun q H2 hq e2 g2 => ⟨by show 2 ≤ sizeLine; decide, fun l hl =>
    ⟨l, _, rfl, .inl (.inl upd_same), rfl, _, _, rfl, _, [], rfl, rfl, k p q _ hp (fresh_back e1 hq) ((e1.trans e2).trans (Ex.new hl)) (Ex.new hl _ _ (e2 _ _ g1)) (Ex.new hl _ _ g2)⟩⟩
/-- a new list of three new lists -/
theorem q_asg3L {i : Nat} {zs : List V} (h1 : EvL ta σ H xs) (h2 : EvL tb σ H ys) (h3 : EvL tc σ H zs) (k : ∀ l p q r H1, H l = none → H p = none → H q = none → H r = none → Ex H H1 → H1 l = some (.lst [.ref p, .ref q, .ref r]) → H1 p = some (.lst xs) → H1 q = some (.lst ys) → H1 r = some (.lst zs) →
    tz D (σ.set i (some (.ref l))) H1) : tSeq (tAsg (tLst (tCons ta (tCons tb (tCons tc tNil)))) (gName i)) tz D σ H :=
  h1 H (Ex.refl H) _ fun p H1 hp e1 g1 => h2 H1 e1 _ fun q H2 hq e2 g2 => h3 H2 (e1.trans e2) _ fun r H3 hr e3 g3 => ⟨by show 3 ≤ sizeLine; decide, fun l hl =>
    k l p q r _ (fresh_back ((e1.trans e2).trans e3) hl) hp (fresh_back e1 hq) (fresh_back (e1.trans e2) hr) (((e1.trans e2).trans e3).trans (Ex.new hl)) upd_same (Ex.new hl _ _ (e3 _ _ (e2 _ _ g1))) (Ex.new hl _ _ (e3 _ _ g2)) (Ex.new hl _ _ g3)⟩
end
/-! ### own classes: made, asked -/
structure ClsF (K : PySem.W.Frag) (mg : Str → Option Value) (x : Str) (c : Addr) : Prop where
  g : mg x = some (.ref c)
  cl : Cls K c
  mks : PySem.W.makesIn K c = true
  kc : PySem.W.keepIn K (.ref c) = true
/-- a method of the class at c -/
structure Mt (K : PySem.W.Frag) (c : Addr) (m qual : Str) (ps : List Str) (st : Stmt) : Prop where
  ex : ∃ f fd, Fun K m qual st f fd ∧ Meth K c m f ∧ Binds K fd ps []
structure MCl (P : Program) (w : World) (K : PySem.W.Frag) (mg : Str → Option Value) (base : Heap) (CX : CXT) (k : Nat) (c : Addr) (m : Str) (ps : List Str) (sp : Sp) : Prop where
  ex : ∃ f fd, FnOk P w K mg base CX k f fd ps sp ∧ Meth K c m f ∧ Binds K fd ps []
section
variable {P : Program} {w : World} {K : PySem.W.Frag} {mg : Str → Option Value} {base : Heap}
theorem cm0 {c : Addr} {m qual : Str} {st : Stmt} {N ps : List Str} {k : Nat} {sp : Sp} (D : Mt K c m qual ps st) (S : FnScope N ps (defScope st)) (len : ∀ vs H Q E, sp vs H Q E → vs.length = ps.length)
    (hbody : ∀ (f : Addr) (cdv : Value) (A : Around) (outer : List Env) (s : Shared) (H : Hp) (vs : List V) (Q : VK) (E : XK), Room k (A.deeper (envOfC qual (defScope st) s.heap.objs.size f cdv)) → sp vs H Q E →
      ∃ t, PSs (cxOf CX0 P w K mg base N qual (defScope st) f cdv A outer s H E).nox (defBody st) t ∧ t { nx := fun _ H' => Q .non H', rt := Q } (start N vs) H) : MCl P w K mg base CX0 (k + 1) c m ps sp := by
  obtain ⟨f, fd, F, me, b⟩ := D.ex
  exact ⟨f, fd, F.ok S len (hbody f), me, b⟩
end
section
variable {X : Cx} {CX : CXT} {k : Nat} {c : Addr} {ps : List Str} {sp : Sp} {E : XK} {x m : Str} {p pos apos : PySem.Pos} {e o : Expr} {es : List Expr} {t : TA} {ta : TE}
theorem pe_mcl {pl : Sem Bool} (M : MCl X.prog X.w X.K X.mg X.base CX k c m ps sp) (cl : Cls X.K c) (hr : Room k X.A) (hx : Passes CX X E) (ho : PE X o ta) (ha : PA X (e :: es) t)
    (hst : starEach (e :: es) X.env = (false, eval e X.env) :: starEach es X.env := by rfl) (hpl : (backTo pos (starEach es X.env)).any (·.1) = false := by rfl)
    (ht : eval (.Call (.Attribute o m apos) (e :: es) [] pos) X.env = (do
      let ov ← eval o X.env
      standAt apos.atName
      let (f, first) ← holding [ov] (getMethod ov m pl)
      callWith pos f first (backTo pos (starEach (e :: es) X.env)) (backToKw pos (keywordEach [] X.env))) := by rfl) :
    PE X (.Call (.Attribute o m apos) (e :: es) [] pos) (tMeth c m sp [] E ta t) := by
  obtain ⟨f, fd, F, me, b⟩ := M.ex
  exact pe_meth ho cl me F hr b .nil hx ha hst hpl ht
/-- C(e, ..), the __init__ its own -/
theorem pe_mki (C : ClsF X.K X.mg x c) (M : MCl X.prog X.w X.K X.mg X.base CX k c "__init__" ps sp) (hr : Room (k + 1) X.A) (hg : Gl X x) (hx : Passes CX X E) (ha : PA X (e :: es) t)
    (hdb : (x == ("__debug__" : Str)) = false := by decide) (he : starEach (e :: es) X.env = (false, eval e X.env) :: starEach es X.env := by rfl) (hpl : (backTo pos (starEach es X.env)).any (·.1) = false := by rfl) :
    PE X (.Call (.Name x p) (e :: es) [] pos) (tMake c sp [] E t) := by
  obtain ⟨f, fd, F, me, b⟩ := M.ex
  exact pe_make ⟨C.mks, me.at_, me.fn, C.kc⟩ F hr hg C.g b .nil hx ha hdb he hpl
def tMakeO (c : Addr) : TE := fun _ H Q => ∀ x dx, H x = none → H dx = none → dx ≠ x → Q (.ref x) (upd (upd H dx (.own x)) x (.ins c dx []))
/-- C() where there is no __init__ but object's -/
theorem pe_mko (C : ClsF X.K X.mg x c) (hi : PySem.W.findIn X.K (.ref c) "__init__" = some (some (.builtin "object.__init__"))) (hg : Gl X x) (hdb : (x == ("__debug__" : Str)) = false := by decide) : PE X (.Call (.Name x p) [] [] pos) (tMakeO c) := by
  refine ⟨fun pins s σ H Q I h => ?_⟩
  refine wpAny_Call_Name_kw (ld_glob I hg C.g ?_ hdb)
  refine PySem.W.callWith_K0 I.kIn C.kc ?_
  have hq := h (s.heap.objs.size + 1) s.heap.objs.size (I.hok.fresh (Nat.le_succ _)) (I.hok.fresh (Nat.le_refl _)) (Nat.ne_of_lt (Nat.lt_succ_self _))
  have I2 := Inv.made (C := c) I
  have Y := PySem.W.makes_of (M := model X.prog X.w) I.kIn C.mks
  refine wpAny_call (make_map0 I.kIn C.mks hi (fun self => PySem.W.Looks.of_pure (PySem.W.oi_bind self)) ?_)
  have hn : ((s.heap.push PySem.W.emptyDict).push (PySem.W.instObj c s.heap.objs.size)).get? (s.heap.objs.size + 1) = some (PySem.W.instObj c s.heap.objs.size) := by
    have z := Heap.get?_push_size (s.heap.push PySem.W.emptyDict) (o := PySem.W.instObj c s.heap.objs.size) rfl
    rw [Heap.size_push] at z
    exact z
  have t1 : PySem.W.Looks (model X.prog X.w) ((s.heap.push PySem.W.emptyDict).push (PySem.W.instObj c s.heap.objs.size)) (typeOf (.ref (s.heap.objs.size + 1))) (.ref c) := (PySem.W.Looks.ld hn).andThen .now
  have t2 : PySem.W.Looks (model X.prog X.w) ((s.heap.push PySem.W.emptyDict).push (PySem.W.instObj c s.heap.objs.size)) (isInstance (.ref (s.heap.objs.size + 1)) (.type "object")) true := t1.andThen (Y.top.keeps fun b o e => Heap.get?_push_of_some _ (Heap.get?_push_of_some _ e))
  refine codeAny_call_builtin PySem.W.oi_plain PySem.W.entry_oi (@PySem.W.check_slot (model X.prog X.w) _ _ _ "object.__init__" "object" "__init__" (.ref (s.heap.objs.size + 1)) [] [] _ PySem.W.oi_kind PySem.W.oi_split t2 (PySem.W.oi_args (.ref (s.heap.objs.size + 1))) ?_)
  rw [PySem.W.oi_run]
  exact wpAny_pure (And.intro rfl ⟨.ref (s.heap.objs.size + 1), _, I2, rfl, hq⟩)
end
section
variable {K : PySem.W.Frag} {σ : L2.St} {H H' : Hp} {ta tb tc te tx : TE} {t u : TT} {x y z v : V} {r r' : R2} {D : Ends} {tu tw tz : TS} {g : TG} {p q : Addr} {ns ms : List Int} {xs ys : List V}
/-- [e for i, x in enumerate(xs) if t] -/
theorem el_lcEnum {a : Addr} {ta : TA} {i j : Nat} {vs : List Nat} (f : Nat → Bool) (w : Nat → V) (h : EvA ta σ H [.ref a]) (hx : SqL K H a xs) (hz : xs.length ≤ 40000) (hw : ∀ x y, wipe (((wipe σ vs).set i (some x)).set j (some y)) vs = wipe σ vs)
    (ht : ∀ (n : Nat) (x : V) H1, Ex H H1 → xs[n]? = some x → EvT t (((wipe σ vs).set i (some (.int (n : Int)))).set j (some x)) H1 (f n)) (he : ∀ (n : Nat) (x : V) H1, Ex H H1 → xs[n]? = some x → f n = true → Ev te (((wipe σ vs).set i (some (.int (n : Int)))).set j (some x)) H1 (w n)) :
    EvL (tLc (iEnum K ta) (gTup K 2 (gCons (gName i) (gCons (gName j) gNil))) t te vs) σ H (given xs.length f w) := fun H0 e Q q => h H0 e _ fun H1 e1 => ⟨a, xs, rfl, ex_l (e.trans e1) hx, fun Dl hD => by
  refine ⟨fun n m H' => n + m = xs.length ∧ Cw H1 f w Dl n H', ⟨xs.length, by omega, hD, Ex.new hD, upd_same⟩, fun n m H' hW => ?_⟩
  obtain ⟨em, hp⟩ := hW
  have hS := ex_l ((e.trans e1).trans hp.2.1) hx
  by_cases hn : n < xs.length
  · have hxi : xs[n]? = some xs[n] := List.getElem?_eq_getElem hn
    refine .inr ⟨⟨xs, xs[n], hS, hxi⟩, fun H2 => Cw H1 f w Dl (n + 1) H2, fun H2 p => ⟨m - 1, by omega, by omega, p⟩, fun v H2 hy => ?_⟩
    obtain ⟨T, x, rfl, nT, rfl, fx⟩ := hy
    have ex : x = xs[n] := Option.some.inj ((fx _ hS).symm.trans hxi)
    subst ex
    have eT : Ex H' (upd H' T (.tup [.int (n : Nat), xs[n]])) := Ex.new nT
    refine ⟨T, [.int (n : Nat), xs[n]], rfl, .inl (.inl upd_same), rfl, _, _, rfl, _, [], rfl, rfl, ?_⟩
    exact ⟨hw _ _, cw_turn ⟨hp.1, hp.2.1.trans eT, eT _ _ hp.2.2⟩ (by omega) (ht n _ H1 (e.trans e1) hxi) (he n _ H1 (e.trans e1) hxi)⟩
  · have en : n = xs.length := by omega
    subst en
    exact .inl ⟨⟨xs, hS, Nat.le_refl _⟩, q Dl H' (fresh_back e1 hp.1) (e1.trans hp.2.1) hp.2.2⟩⟩
/-- [e for x, y in zip(xs, ys) if t], the two of one length -/
theorem el_lcZip {a b : Addr} {ta : TA} {i j : Nat} {vs : List Nat} (f : Nat → Bool) (w : Nat → V) (h : EvA ta σ H [.ref a, .ref b]) (hx : SqL K H a xs) (hy : SqL K H b ys) (hl : xs.length = ys.length) (hz : xs.length ≤ 40000) (hw : ∀ x y, wipe (((wipe σ vs).set i (some x)).set j (some y)) vs = wipe σ vs)
    (ht : ∀ (n : Nat) (x y : V) H1, Ex H H1 → xs[n]? = some x → ys[n]? = some y → EvT t (((wipe σ vs).set i (some x)).set j (some y)) H1 (f n)) (he : ∀ (n : Nat) (x y : V) H1, Ex H H1 → xs[n]? = some x → ys[n]? = some y → f n = true → Ev te (((wipe σ vs).set i (some x)).set j (some y)) H1 (w n)) :
    EvL (tLc (iZip K ta) (gTup K 2 (gCons (gName i) (gCons (gName j) gNil))) t te vs) σ H (given xs.length f w) := fun H0 e Q q => h H0 e _ fun H1 e1 => ⟨a, b, xs, ys, rfl, ex_l (e.trans e1) hx, ex_l (e.trans e1) hy, fun Dl hD => by
  refine ⟨fun n m H' => n + m = xs.length ∧ Cw H1 f w Dl n H', ⟨xs.length, by omega, hD, Ex.new hD, upd_same⟩, fun n m H' hW => ?_⟩
  obtain ⟨em, hp⟩ := hW
  have hS := ex_l ((e.trans e1).trans hp.2.1) hx
  have hT := ex_l ((e.trans e1).trans hp.2.1) hy
  by_cases hn : n < xs.length
  · have hxi : xs[n]? = some xs[n] := List.getElem?_eq_getElem hn
    have hn2 : n < ys.length := by omega
    have hyi : ys[n]? = some ys[n] := List.getElem?_eq_getElem hn2
    refine .inr ⟨⟨xs, ys, xs[n], ys[n], hS, hT, hxi, hyi⟩, fun H2 => Cw H1 f w Dl (n + 1) H2, fun H2 p => ⟨m - 1, by omega, by omega, p⟩, fun v H2 hv => ?_⟩
    obtain ⟨T, x, y, rfl, nT, rfl, fx, fy⟩ := hv
    have ex : x = xs[n] := Option.some.inj ((fx _ hS).symm.trans hxi)
    have ey : y = ys[n] := Option.some.inj ((fy _ hT).symm.trans hyi)
    subst ex
    subst ey
    have eT : Ex H' (upd H' T (.tup [xs[n], ys[n]])) := Ex.new nT
    refine ⟨T, [xs[n], ys[n]], rfl, .inl (.inl upd_same), rfl, _, _, rfl, _, [], rfl, rfl, ?_⟩
    exact ⟨hw _ _, cw_turn ⟨hp.1, hp.2.1.trans eT, eT _ _ hp.2.2⟩ (by omega) (ht n _ _ H1 (e.trans e1) hxi hyi) (he n _ _ H1 (e.trans e1) hxi hyi)⟩
  · have en : n = xs.length := by omega
    subst en
    exact .inl ⟨⟨xs, ys, hS, hT, .inl (Nat.le_refl _)⟩, q Dl H' (fresh_back e1 hp.1) (e1.trans hp.2.1) hp.2.2⟩⟩
theorem et_yes : EvT tYes σ H true := fun H1 _ _ q => q H1 (Ex.refl H1)
theorem given_all (n : Nat) (w : Nat → V) : given n (fun _ => true) w = (List.range n).map w := by
  unfold given
  rw [List.filter_eq_self.mpr (fun _ _ => rfl)]
/-- int(a truth) -/
theorem ev_intB {b : Bool} (h : Ev te σ H (.bl b)) : Ev (tCB (fun xs H Q => (∃ i, xs = [.int i] ∧ Q (.int i) H) ∨ ∃ k, xs = [.bl k] ∧ Q (.int (if k then 1 else 0)) H) (tCons te tNil)) σ H (.int (if b then 1 else 0)) :=
  ev_cb (ea_cons h ea_nil) fun H1 _ _ q => .inr ⟨b, rfl, q H1 (Ex.refl H1)⟩
/-- o.f -/
theorem ev_fld {C dx : Addr} {fs : List (Str × V)} {f : Str} (h : Ev ta σ H (.ref p)) (ho : H p = some (.ins C dx fs)) (hc : Cls K C) (hn : NoAttr K C f) (hl : fs.lookup f = some v) : Ev (tFld K ta f) σ H v := fun H1 e Q q =>
  h H1 e _ fun H2 e2 => ⟨p, C, dx, fs, v, rfl, (e.trans e2) _ _ ho, hc, hn, hl, q H2 e2⟩
/-- o.m(..) -/
theorem ev_meth {C dx : Addr} {fs : List (Str × V)} {m : Str} {sp : Sp} {E : XK} {ta' : TA} {vs : List V} (h : Ev ta σ H (.ref p)) (ho : H p = some (.ins C dx fs)) (hl : fs.lookup m = none) (ha : EvA ta' σ H vs) (hs : SpV sp (.ref p :: (vs ++ [])) H z) : Ev (tMeth C m sp [] E ta ta') σ H z := fun H1 e Q q =>
  h H1 e _ fun H2 e2 => ⟨p, dx, fs, rfl, (e.trans e2) _ _ ho, hl, ha H2 (e.trans e2) _ fun H3 e3 => hs H3 ((e.trans e2).trans e3) Q (fun H4 e4 => q H4 ((e2.trans e3).trans e4)) E⟩
/-- a new instance without fields: C().m(..) -/
theorem ev_methO {C : Addr} {m : Str} {sp : Sp} {E : XK} {ta' : TA} {vs : List V} (ha : EvA ta' σ H vs) (hs : ∀ p dx H1, Ex H H1 → H1 p = some (.ins C dx []) → SpV sp (.ref p :: (vs ++ [])) H1 z) : Ev (tMeth C m sp [] E (tMakeO C) ta') σ H z := fun H1 e Q q =>
  fun x dx nx nd ne => by
    have e2 : Ex H1 (upd (upd H1 dx (.own x)) x (.ins C dx [])) := fun b o hb => by
      rw [upd_ne (ne_of_none hb nx), upd_ne (ne_of_none hb nd)]
      exact hb
    refine ⟨x, dx, [], rfl, upd_same, rfl, ha _ (e.trans e2) _ fun H3 e3 => hs x dx H3 ((e.trans e2).trans e3) (e3 _ _ upd_same) H3 (Ex.refl _) Q (fun H4 e4 => q H4 ((e2.trans e3).trans e4)) E⟩
theorem PE_or_l {t u : TE} (h : Ev t σ H v) : Ev (fun σ H Q => t σ H Q ∨ u σ H Q) σ H v := fun H1 e Q q => .inl (h H1 e Q q)
theorem PE_or_r {t u : TE} (h : Ev u σ H v) : Ev (fun σ H Q => t σ H Q ∨ u σ H Q) σ H v := fun H1 e Q q => .inr (h H1 e Q q)
/-! ### written-out arguments some of which are new lists -/
def EvAR (K : PySem.W.Frag) (ta : TA) (σ : L2.St) (H : Hp) (nss : List (List Int)) : Prop := ∀ H1, Ex H H1 → ∀ Q : List V → Hp → Prop, (∀ vs H2, Ex H1 H2 → Rows K H2 vs nss → Q vs H2) → ta σ H1 Q
theorem ear_nil : EvAR K tNil σ H [] := fun H1 _ _ q => q [] H1 (Ex.refl H1) .nil
theorem ear_consL {tr : TA} {nss : List (List Int)} (h : EvL te σ H (ns.map V.int)) (hr : EvAR K tr σ H nss) : EvAR K (tCons te tr) σ H (ns :: nss) := fun H1 e _ q =>
  h H1 e _ fun p H2 hp e2 h2 => hr H2 (e.trans e2) _ fun vs H3 e3 r => q _ H3 (e2.trans e3) (.cons ⟨p, rfl, sq_of (e3 _ _ h2)⟩ r)
theorem ear_consS {tr : TA} {nss : List (List Int)} (h : Ev te σ H (.ref p)) (hp : SqL K H p (ns.map V.int)) (hr : EvAR K tr σ H nss) : EvAR K (tCons te tr) σ H (ns :: nss) := fun H1 e _ q =>
  h H1 e _ fun H2 e2 => hr H2 (e.trans e2) _ fun vs H3 e3 r => q _ H3 (e2.trans e3) (.cons ⟨p, rfl, ex_l ((e.trans e2).trans e3) hp⟩ r)
/-- for x in (a list, a list, ..): the heap grows -/
theorem s_forTR {nss : List (List Int)} {ta : TA} {j : Nat} (h : EvAR K ta σ H nss) (hz : nss.length ≤ 1000) (k : ∀ p xs H1, H p = none → Ex H H1 → H1 p = some (.tup xs) → Rows K H1 xs nss → ∃ Pv : Nat → L2.St → Hp → Prop, Pv 0 σ H1 ∧ (∀ i σ' H', Pv i σ' H' → Ex H1 H') ∧
    (∀ i a ns σ' H', nss[i]? = some ns → SqL K H' a (ns.map V.int) → Pv i σ' H' → tu { D with nx := Pv (i + 1), ct := Pv (i + 1), bk := D.nx } (σ'.set j (some (.ref a))) H') ∧ ∀ σ' H', Pv nss.length σ' H' → D.nx σ' H') : tFor (iTup K (tTup ta)) (gName j) tu D σ H :=
  h H (Ex.refl H) _ fun vs H1 e r => ⟨by rw [r.len]; exact Nat.le_trans hz (by decide), fun p hp => by
    obtain ⟨Pv, h0, hl, hs, hd⟩ := k p vs _ (fresh_back e hp) (e.trans (Ex.new hp)) upd_same (r.mono (Ex.new hp))
    refine ⟨p, rfl, ⟨vs, st_of upd_same⟩, for_tup Pv h0 (fun i σ' H' _ q => st_of (hl i σ' H' q p _ upd_same)) (fun i x σ' H' hx q => ?_) (fun σ' H' q => hd σ' H' (by rw [← r.len]; exact q))⟩
    obtain ⟨a, ns, rfl, hn, ha⟩ := (r.mono ((Ex.new hp).trans (hl i σ' H' q))).get hx
    exact hs i a ns σ' H' hn ha q⟩
theorem q_forTR {nss : List (List Int)} {ta : TA} {j : Nat} (h : EvAR K ta σ H nss) (hz : nss.length ≤ 1000) (k : ∀ p xs H1, H p = none → Ex H H1 → H1 p = some (.tup xs) → Rows K H1 xs nss → ∃ Pv : Nat → L2.St → Hp → Prop, Pv 0 σ H1 ∧ (∀ i σ' H', Pv i σ' H' → Ex H1 H') ∧
    (∀ i a ns σ' H', nss[i]? = some ns → SqL K H' a (ns.map V.int) → Pv i σ' H' → tu { D with nx := Pv (i + 1), ct := Pv (i + 1), bk := tz D } (σ'.set j (some (.ref a))) H') ∧ ∀ σ' H', Pv nss.length σ' H' → tz D σ' H') : tSeq (tFor (iTup K (tTup ta)) (gName j) tu) tz D σ H := s_forTR (D := { D with nx := tz D }) h hz k
/-- a, b = e1, e2 -/
theorem q_par {ta : TA} {i j : Nat} {w : V} (h : EvA ta σ H [v, w]) (k : ∀ H1, Ex H H1 → tz D ((σ.set i (some v)).set j (some w)) H1) : tSeq (tPar i j ta) tz D σ H := h H (Ex.refl H) _ fun H1 e => ⟨v, w, rfl, k H1 e⟩
/-- f(a new list, b, c) -/
theorem el_callL3 {sp : Sp} {E : XK} {zs : List V} (ha : EvL ta σ H xs) (hb : Ev tb σ H x) (hc : Ev tc σ H y) (hs : ∀ p H1, H1 p = some (.lst xs) → Ex H H1 → SpL sp [.ref p, x, y] H1 zs) : EvL (tCall sp [] E (tCons ta (tCons tb (tCons tc tNil)))) σ H zs := fun H1 e Q k =>
  ha H1 e _ fun p H2 hp e2 h2 => hb H2 (e.trans e2) _ fun H3 e3 => hc H3 ((e.trans e2).trans e3) _ fun H4 e4 => hs p H4 (e4 _ _ (e3 _ _ h2)) (((e.trans e2).trans e3).trans e4) H4 (Ex.refl H4) Q (fun l H5 hl e5 h5 => k l H5 (fresh_back ((e2.trans e3).trans e4) hl) (((e2.trans e3).trans e4).trans e5) h5) E
end
/-! ### the mathematics of neighbours -/
/-- the neighbours by the wheel at k -/
def nbAt (ws ss : List Int) (k : Nat) : List (List Int) :=
  (if 0 < ss.getD k 0 then [ss.set k (ss.getD k 0 - 1)] else []) ++ (if ss.getD k 0 + 1 < ws.getD k 0 then [ss.set k (ss.getD k 0 + 1)] else [])
def nbUp (ws ss : List Int) : Nat → List (List Int)
  | 0 => []
  | k + 1 => nbUp ws ss k ++ nbAt ws ss k
def nbs (ws ss : List Int) : List (List Int) := nbUp ws ss ss.length
theorem nbAt_len (ws ss : List Int) (k : Nat) : (nbAt ws ss k).length ≤ 2 := by
  unfold nbAt
  split <;> split <;> simp
theorem nbUp_len (ws ss : List Int) : ∀ k, (nbUp ws ss k).length ≤ 2 * k
  | 0 => Nat.le_refl _
  | k + 1 => by
    have := nbUp_len ws ss k
    have := nbAt_len ws ss k
    show (nbUp ws ss k ++ nbAt ws ss k).length ≤ _
    rw [List.length_append]
    omega
theorem mem_nbUp {ws ss t : List Int} : ∀ {n : Nat}, t ∈ nbUp ws ss n → ∃ k, k < n ∧ t ∈ nbAt ws ss k
  | 0, h => by cases h
  | n + 1, h => by
    rcases List.mem_append.mp h with h | h
    · obtain ⟨k, hk, h⟩ := mem_nbUp h
      exact ⟨k, by omega, h⟩
    · exact ⟨n, by omega, h⟩
theorem nbUp_mem {ws ss t : List Int} {n k : Nat} (hk : k < n) (h : t ∈ nbAt ws ss k) : t ∈ nbUp ws ss n := by
  induction n with
  | zero => omega
  | succ n ih =>
    by_cases e : k = n
    · subst e
      exact List.mem_append_right _ h
    · exact List.mem_append_left _ (ih (by omega))
theorem mem_nbAt {ws ss t : List Int} {k : Nat} : t ∈ nbAt ws ss k ↔ (0 < ss.getD k 0 ∧ t = ss.set k (ss.getD k 0 - 1)) ∨ (ss.getD k 0 + 1 < ws.getD k 0 ∧ t = ss.set k (ss.getD k 0 + 1)) := by
  unfold nbAt
  rw [List.mem_append]
  constructor
  · intro h
    rcases h with h | h
    · left
      split at h
      · rename_i c
        exact ⟨c, List.mem_singleton.mp h⟩
      · cases h
    · right
      split at h
      · rename_i c
        exact ⟨c, List.mem_singleton.mp h⟩
      · cases h
  · intro h
    rcases h with ⟨c, e⟩ | ⟨c, e⟩
    · left
      rw [if_pos c, e]
      exact List.mem_singleton.mpr rfl
    · right
      rw [if_pos c, e]
      exact List.mem_singleton.mpr rfl
theorem getD_cons_zero' (a : Int) (l : List Int) : (a :: l).getD 0 0 = a := rfl
theorem getD_cons_succ' (a : Int) (l : List Int) (k : Nat) : (a :: l).getD (k + 1) 0 = l.getD k 0 := rfl
/-- a number set within its bounds -/
theorem InS.set : ∀ {ws ss : List Int} {k : Nat} {x : Int}, InS ws ss → k < ss.length → 0 ≤ x → x < ws.getD k 0 → InS ws (ss.set k x)
  | w :: ws, s :: ss, 0, x, h, _, h0, h1 => ⟨⟨h0, h1⟩, h.2⟩
  | w :: ws, s :: ss, k + 1, x, h, hk, h0, h1 => ⟨h.1, InS.set h.2 (by simpa using hk) h0 (by simpa using h1)⟩
  | [], [], _, _, _, hk, _, _ => by simp at hk
  | [], _ :: _, _, _, h, _, _, _ => False.elim h
  | _ :: _, [], _, _, h, _, _, _ => False.elim h
theorem InS.get : ∀ {ws ss : List Int} {k : Nat}, InS ws ss → k < ss.length → 0 ≤ ss.getD k 0 ∧ ss.getD k 0 < ws.getD k 0
  | w :: ws, s :: ss, 0, h, _ => h.1
  | w :: ws, s :: ss, k + 1, h, hk => InS.get (ws := ws) (ss := ss) (k := k) h.2 (by simpa using hk)
  | [], [], _, _, hk => by simp at hk
  | [], _ :: _, _, h, _ => False.elim h
  | _ :: _, [], _, h, _ => False.elim h
theorem nb_in {ws ss t : List Int} (h : InS ws ss) (ht : t ∈ nbs ws ss) : InS ws t := by
  obtain ⟨k, hk, h2⟩ := mem_nbUp ht
  have hg := h.get hk
  rcases mem_nbAt.mp h2 with ⟨c, rfl⟩ | ⟨c, rfl⟩
  · exact h.set hk (by omega) (by omega)
  · exact h.set hk (by omega) c
theorem iabs_nn (i : Int) : 0 ≤ iabs i := by
  unfold iabs
  split <;> omega
theorem dist_nn : ∀ a b : List Int, 0 ≤ dist a b
  | [], [] => Int.le_refl _
  | [], _ :: _ => Int.le_refl _
  | _ :: _, [] => Int.le_refl _
  | x :: a, y :: b => by
    have h1 := iabs_nn (x - y)
    have h2 := dist_nn a b
    show 0 ≤ iabs (x - y) + dist a b
    omega
theorem dist_set : ∀ {a b : List Int} {k : Nat} (x : Int), a.length = b.length → k < a.length → dist (a.set k x) b = dist a b - iabs (a.getD k 0 - b.getD k 0) + iabs (x - b.getD k 0)
  | y :: a, z :: b, 0, x, h, _ => by
    show iabs (x - z) + dist a b = iabs (y - z) + dist a b - iabs (y - z) + iabs (x - z)
    omega
  | y :: a, z :: b, k + 1, x, h, hk => by
    have ih := dist_set (a := a) (b := b) (k := k) x (by simpa using h) (by simpa using hk)
    show iabs (y - z) + dist (a.set k x) b = iabs (y - z) + dist a b - iabs (a.getD k 0 - b.getD k 0) + iabs (x - b.getD k 0)
    omega
  | [], _, _, _, _, hk => by simp at hk
  | _ :: _, [], _, _, h, _ => by simp at h
theorem nb_dist {ws ss ts t : List Int} (h : ss.length = ts.length) (ht : t ∈ nbs ws ss) : iabs (dist t ts - dist ss ts) = 1 := by
  obtain ⟨k, hk, h2⟩ := mem_nbUp ht
  rcases mem_nbAt.mp h2 with ⟨c, rfl⟩ | ⟨c, rfl⟩
  · rw [dist_set _ h hk]
    unfold iabs
    split <;> split <;> split <;> omega
  · rw [dist_set _ h hk]
    unfold iabs
    split <;> split <;> split <;> omega
/-- where two settings differ at all, they differ at a wheel -/
theorem dist_pos : ∀ {a b : List Int}, a.length = b.length → 0 < dist a b → ∃ k, k < a.length ∧ a.getD k 0 ≠ b.getD k 0
  | [], [], _, h => by
    have : (0 : Int) < 0 := h
    omega
  | x :: a, y :: b, hl, h => by
    by_cases e : x = y
    · subst e
      have h' : 0 < iabs (x - x) + dist a b := h
      rw [iabs_self] at h'
      obtain ⟨k, hk, hne⟩ := dist_pos (a := a) (b := b) (by simpa using hl) (by omega)
      exact ⟨k + 1, by simpa using hk, hne⟩
    · exact ⟨0, by simp, e⟩
  | [], _ :: _, h, _ => by simp at h
  | _ :: _, [], h, _ => by simp at h
theorem nb_nearer {ws ss ts : List Int} (hs : InS ws ss) (ht : InS ws ts) (h : 0 < dist ss ts) : ∃ t, t ∈ nbs ws ss ∧ dist t ts - dist ss ts = -1 := by
  have hl : ss.length = ts.length := by rw [hs.len, ht.len]
  obtain ⟨k, hk, hne⟩ := dist_pos hl h
  have g1 := hs.get hk
  have g2 := ht.get (by rw [← hl]; exact hk)
  by_cases c : ts.getD k 0 < ss.getD k 0
  · refine ⟨ss.set k (ss.getD k 0 - 1), nbUp_mem hk (mem_nbAt.mpr (.inl ⟨by omega, rfl⟩)), ?_⟩
    rw [dist_set _ hl hk]
    unfold iabs
    split <;> split <;> omega
  · refine ⟨ss.set k (ss.getD k 0 + 1), nbUp_mem hk (mem_nbAt.mpr (.inr ⟨by omega, rfl⟩)), ?_⟩
    rw [dist_set _ hl hk]
    unfold iabs
    split <;> split <;> omega
/-- a number put in at a place -/
theorem set_cut {ss : List Int} {k : Nat} (x : Int) (h : k < ss.length) : ss.take k ++ [x] ++ ss.drop (k + 1) = ss.set k x := by
  rw [List.set_eq_take_append_cons_drop, if_pos h, List.append_assoc]
  rfl
/-- the neighbours as the law lists them: by each number one less and one more that lies within -/
theorem nbAt_law {ws ss : List Int} {k : Nat} (h : InS ws ss) (hk : k < ss.length) :
    nbAt ws ss k = (if 0 ≤ ss.getD k 0 - 1 ∧ ss.getD k 0 - 1 < ws.getD k 0 then [ss.set k (ss.getD k 0 - 1)] else []) ++ (if 0 ≤ ss.getD k 0 + 1 ∧ ss.getD k 0 + 1 < ws.getD k 0 then [ss.set k (ss.getD k 0 + 1)] else []) := by
  have g := h.get hk
  unfold nbAt
  congr 1
  · by_cases c : 0 < ss.getD k 0
    · rw [if_pos c, if_pos (by omega)]
    · rw [if_neg c, if_neg (by omega)]
  · by_cases c : ss.getD k 0 + 1 < ws.getD k 0
    · rw [if_pos c, if_pos (by omega)]
    · rw [if_neg c, if_neg (by omega)]
/-! ### the text by places -/
def topS (i : Nat) : Stmt := PySem.Challenge.pw_wheelways_k04_answers_by_hand.main.body.getD i (.Pass ⟨0, 0, 0, 0⟩)
abbrev S_is_whole : Stmt := topS 1
theorem sc_is_whole : FnScope ["thing"] ["thing"] (defScope S_is_whole) := ⟨rfl, rfl, rfl, by decide +kernel, rfl, by decide +kernel, by decide +kernel⟩
abbrev S_is_setting : Stmt := topS 2
theorem sc_is_setting : FnScope ["wheels", "setting", "k"] ["wheels", "setting"] (defScope S_is_setting) := ⟨rfl, rfl, rfl, by decide +kernel, rfl, by decide +kernel, by decide +kernel⟩
abbrev S_count_of : Stmt := topS 3
theorem sc_count_of : FnScope ["wheels", "found", "size"] ["wheels"] (defScope S_count_of) := ⟨rfl, rfl, rfl, by decide +kernel, rfl, by decide +kernel, by decide +kernel⟩
abbrev S_neighbours : Stmt := topS 4
theorem sc_neighbours : FnScope ["wheels", "setting", "found", "k", "number"] ["wheels", "setting"] (defScope S_neighbours) := ⟨rfl, rfl, rfl, by decide +kernel, rfl, by decide +kernel, by decide +kernel⟩
abbrev S_turning : Stmt := topS 7
theorem sc_turning : FnScope ["wheels", "k", "size"] ["wheels"] (defScope S_turning) := ⟨rfl, rfl, rfl, by decide +kernel, rfl, by decide +kernel, by decide +kernel⟩
abbrev S_Around_shows : Stmt := inClass (topS 8) 0
theorem sc_Around_shows : FnScope ["self", "wheels"] ["self", "wheels"] (defScope S_Around_shows) := ⟨rfl, rfl, rfl, by decide +kernel, rfl, by decide +kernel, by decide +kernel⟩
abbrev S_Dead_init : Stmt := inClass (topS 9) 0
theorem sc_Dead_init : FnScope ["self", "setting"] ["self", "setting"] (defScope S_Dead_init) := ⟨rfl, rfl, rfl, by decide +kernel, rfl, by decide +kernel, by decide +kernel⟩
abbrev S_Dead_shows : Stmt := inClass (topS 9) 1
theorem sc_Dead_shows : FnScope ["self", "wheels"] ["self", "wheels"] (defScope S_Dead_shows) := ⟨rfl, rfl, rfl, by decide +kernel, rfl, by decide +kernel, by decide +kernel⟩
abbrev S_Odd_shows : Stmt := inClass (topS 10) 0
theorem sc_Odd_shows : FnScope ["self", "wheels"] ["self", "wheels"] (defScope S_Odd_shows) := ⟨rfl, rfl, rfl, by decide +kernel, rfl, by decide +kernel, by decide +kernel⟩
abbrev S_law_cell_at : Stmt := topS 12
theorem sc_law_cell_at : FnScope ["_law_script", "_law_k"] ["_law_script", "_law_k"] (defScope S_law_cell_at) := ⟨rfl, rfl, rfl, by decide +kernel, rfl, by decide +kernel, by decide +kernel⟩
abbrev S_law_draw : Stmt := topS 13
theorem sc_law_draw : FnScope ["_law_cell", "_law_k", "_law_many", "_law_primes"] ["_law_cell", "_law_k", "_law_many"] (defScope S_law_draw) := ⟨rfl, rfl, rfl, by decide +kernel, rfl, by decide +kernel, by decide +kernel⟩
abbrev S_law_wheels : Stmt := topS 14
theorem sc_law_wheels : FnScope ["_law_script", "_law_kind", "_law_found", "_law_k", "_law_size"] ["_law_script"] (defScope S_law_wheels) := ⟨rfl, rfl, rfl, by decide +kernel, rfl, by decide +kernel, by decide +kernel⟩
abbrev S_law_setting : Stmt := topS 16
theorem sc_law_setting : FnScope ["_law_script", "_law_wheels_here", "_law_by", "_law_kind", "_law_found", "_law_k", "_law_size", "_law_number"] ["_law_script", "_law_wheels_here", "_law_by"] (defScope S_law_setting) := ⟨rfl, rfl, rfl, by decide +kernel, rfl, by decide +kernel, by decide +kernel⟩
abbrev S_law_count : Stmt := topS 17
theorem sc_law_count : FnScope ["_law_wheels_here", "_law_found", "_law_size"] ["_law_wheels_here"] (defScope S_law_count) := ⟨rfl, rfl, rfl, by decide +kernel, rfl, by decide +kernel, by decide +kernel⟩
abbrev S_law_is_setting : Stmt := topS 18
theorem sc_law_is_setting : FnScope ["_law_wheels_here", "_law_found", "_law_one", "_law_k"] ["_law_wheels_here", "_law_found"] (defScope S_law_is_setting) := ⟨rfl, rfl, rfl, by decide +kernel, rfl, by decide +kernel, by decide +kernel⟩
abbrev S_law_says : Stmt := topS 21
theorem sc_law_says : FnScope ["_law_said", "_law_due"] ["_law_said", "_law_due"] (defScope S_law_says) := ⟨rfl, rfl, rfl, by decide +kernel, rfl, by decide +kernel, by decide +kernel⟩
abbrev S_law_dead_right : Stmt := topS 22
theorem sc_law_dead_right : FnScope ["_law_wheels_here", "_law_setting_here", "_law_handed", "_law_answer", "_law_due", "_law_number", "_law_size"] ["_law_wheels_here", "_law_setting_here"] (defScope S_law_dead_right) := ⟨rfl, rfl, rfl, by decide +kernel, rfl, by decide +kernel, by decide +kernel⟩
abbrev S_law : Stmt := topS 23
theorem sc_law : FnScope ["_law_script", "_law_wheels_here", "_law_ends", "_law_some", "_law_whole_here", "_law_turned", "_law_noughts", "_law_drawn", "_law_setting_here", "_law_number", "_law_size"] ["_law_script"] (defScope S_law) := ⟨rfl, rfl, rfl, by decide +kernel, rfl, by decide +kernel, by decide +kernel⟩
/-- where the classes stand -/
structure Cs where
  WheelError : Addr
  BadWheels : Addr
  BadSetting : Addr
  BadNumber : Addr
  NoRing : Addr
  BadText : Addr
  Answer : Addr
  Around : Addr
  Dead : Addr
  Odd : Addr
/-- what the top has written -/
structure Txt (K : PySem.W.Frag) (mg : Str → Option Value) (C : Cs) : Prop where
  d_is_whole : Df K mg "is_whole" ["thing"] S_is_whole
  d_is_setting : Df K mg "is_setting" ["wheels", "setting"] S_is_setting
  d_count_of : Df K mg "count_of" ["wheels"] S_count_of
  d_neighbours : Df K mg "neighbours" ["wheels", "setting"] S_neighbours
  d_turning : Df K mg "turning" ["wheels"] S_turning
  d_law_cell_at : Df K mg "_law_cell_at" ["_law_script", "_law_k"] S_law_cell_at
  d_law_draw : Df K mg "_law_draw" ["_law_cell", "_law_k", "_law_many"] S_law_draw
  d_law_wheels : Df K mg "_law_wheels" ["_law_script"] S_law_wheels
  d_law_setting : Df K mg "_law_setting" ["_law_script", "_law_wheels_here", "_law_by"] S_law_setting
  d_law_count : Df K mg "_law_count" ["_law_wheels_here"] S_law_count
  d_law_is_setting : Df K mg "_law_is_setting" ["_law_wheels_here", "_law_found"] S_law_is_setting
  d_law_says : Df K mg "_law_says" ["_law_said", "_law_due"] S_law_says
  d_law_dead_right : Df K mg "_law_dead_right" ["_law_wheels_here", "_law_setting_here"] S_law_dead_right
  d_law : Df K mg "law" ["_law_script"] S_law
  b_all : mg "all" = none
  b_any : mg "any" = none
  b_bool : mg "bool" = none
  b_enumerate : mg "enumerate" = none
  b_int : mg "int" = none
  b_isinstance : mg "isinstance" = none
  b_len : mg "len" = none
  b_list : mg "list" = none
  b_range : mg "range" = none
  b_sorted : mg "sorted" = none
  b_sum : mg "sum" = none
  b_zip : mg "zip" = none
  c_Around : ClsF K mg "Around" C.Around
  i_Around : PySem.W.findIn K (.ref C.Around) "__init__" = some (some (.builtin "object.__init__"))
  c_Dead : ClsF K mg "Dead" C.Dead
  c_Odd : ClsF K mg "Odd" C.Odd
  i_Odd : PySem.W.findIn K (.ref C.Odd) "__init__" = some (some (.builtin "object.__init__"))
  m_Around_shows : Mt K C.Around "shows" "Around.shows" ["self", "wheels"] S_Around_shows
  m_Dead_init : Mt K C.Dead "__init__" "Dead.__init__" ["self", "setting"] S_Dead_init
  m_Dead_shows : Mt K C.Dead "shows" "Dead.shows" ["self", "wheels"] S_Dead_shows
  m_Odd_shows : Mt K C.Odd "shows" "Odd.shows" ["self", "wheels"] S_Odd_shows
  n_setting : NoAttr K C.Dead "setting"
/-! ### is_whole, check_wheels -/
def sp_is_whole (K : PySem.W.Frag) (_ : Cs) : Sp := fun vs H Q _ => ∃ (v : V) (kd : Kd), vs = [v] ∧ Thg K H v kd ∧ RetV (.bl kd.whole) H Q
theorem whole_eq (kd : Kd) : (kd.isInt && !kd.isBool) = kd.whole := by cases kd <;> rfl
theorem spv_whole {K : PySem.W.Frag} {C : Cs} {H : Hp} {v : V} {kd : Kd} (h : Thg K H v kd) : SpV (sp_is_whole K C) [v] H (.bl kd.whole) := fun H1 e Q q E => ⟨v, kd, rfl, h.mono e, q⟩
theorem ok_is_whole {P : Program} {w : World} {K : PySem.W.Frag} {mg : Str → Option Value} {base : Heap} {C : Cs} (T : Txt K mg C) : Cl P w K mg base CX0 1 "is_whole" ["thing"] (sp_is_whole K C) := by
  refine cl0 T.d_is_whole sc_is_whole (fun vs H Q E h => ?_) (fun f cdv A outer s H vs Q E hr h => ?_)
  · obtain ⟨v, kd, rfl, hv, k⟩ := h
    rfl
  · obtain ⟨v, kd, rfl, hv, k⟩ := h
    refine ⟨_, (pss_one (ps_ret (pe_and (pe_callB (call_isiK' (K := K) rfl) (by rfl) T.b_isinstance (by decide +kernel) (pa_cons (pv 0) (pa_cons (pe_bltn (by rfl) T.b_int (by decide +kernel) (v := .ty "int") rfl) pa_nil))) (pe_one (pe_not (pe_callB (call_isiK' (K := K) rfl) (by rfl) T.b_isinstance (by decide +kernel) (pa_cons (pv 0) (pa_cons (pe_bltn (by rfl) T.b_bool (by decide +kernel) (v := .ty "bool") rfl) pa_nil)))))))), ?_⟩
    dsimp only [cxOf, Cx.nox, Cx.wish, L2.start, List.map_cons, List.map_nil, List.length_cons, List.length_nil, List.cons_append, List.nil_append]
    refine s_ret (v := .bl (kd.isInt && !kd.isBool)) (ev_andV (ev_cb (ea_cons (ev_var rfl) (ea_cons ev_c ea_nil)) (rc_isi hv fun _ => kd_int)) fun _ => ev_notV (ev_cb (ea_cons (ev_var rfl) (ea_cons ev_c ea_nil)) (rc_isi hv fun _ => kd_bool))) fun H1 e => ?_
    rw [whole_eq]
    exact k H1 e
def okSize : Kd → Bool
  | .int i => decide (1 ≤ i)
  | _ => false
def sp_check_wheels (K : PySem.W.Frag) (C : Cs) : Sp := fun vs H Q E => ∃ (v : V), vs = [v] ∧ ((∃ kd, Thg K H v kd ∧ kd.isList = false ∧ RetX C.BadWheels H E) ∨
  ∃ (a : Addr) (xs : List V) (ks : List Kd), v = .ref a ∧ SqL K H a xs ∧ Thgs K H xs ks ∧ xs.length ≤ 40000 ∧ (ks.all okSize = true → RetV .non H Q) ∧ (ks.all okSize = false → RetX C.BadWheels H E))
theorem ev_okSize {K : PySem.W.Frag} {H : Hp} {σ : L2.St} {te : TE} {v : V} {kd : Kd} (h : Thg K H v kd) (h1 : Ev te σ H (.bl kd.whole)) {tv : TE} (h2 : Ev tv σ H v) : Ev (tAndV te (tOp (rI0 fun i j => V.bl (decide (j ≤ i))) tv (tC (V.int 1)))) σ H (.bl (okSize kd)) := by
  cases h with
  | int i => exact ev_to (ev_andV h1 fun _ => ev_op h2 ev_c rv_I0) (by show V.bl (true && decide (1 ≤ i)) = V.bl (decide (1 ≤ i)); rw [Bool.true_and])
  | bl b => exact ev_andV (b := false) h1 fun q => nomatch q
  | non => exact ev_andV (b := false) h1 fun q => nomatch q
  | str x => exact ev_andV (b := false) h1 fun q => nomatch q
  | lst _ => exact ev_andV (b := false) h1 fun q => nomatch q
  | tup _ => exact ev_andV (b := false) h1 fun q => nomatch q
  | dct _ => exact ev_andV (b := false) h1 fun q => nomatch q
theorem all_map_id {α : Type} (f : α → Bool) (ks : List α) : (ks.map f).all id = ks.all f := by rw [List.all_map]; rfl
/-! ### is_setting, check_setting -/
def inR (w : Int) : Kd → Bool
  | .int i => decide (0 ≤ i) && decide (i < w)
  | _ => false
def setOk : List Int → List Kd → Bool
  | [], [] => true
  | w :: ws, k :: ks => inR w k && setOk ws ks
  | _, _ => false
theorem setOk_len : ∀ {ws : List Int} {ks : List Kd}, setOk ws ks = true → ks.length = ws.length
  | [], [], _ => rfl
  | w :: ws, k :: ks, h => by
    have := setOk_len (ws := ws) (ks := ks) (by
      have h' : (inR w k && setOk ws ks) = true := h
      rw [Bool.and_eq_true] at h'
      exact h'.2)
    simp [this]
  | [], _ :: _, h => nomatch h
  | _ :: _, [], h => nomatch h
theorem setOk_range : ∀ (ws : List Int) (ks : List Kd), ks.length = ws.length → ((List.range ws.length).map fun i => inR (ws.getD i 0) (ks.getD i .rest)).all id = setOk ws ks
  | [], [], _ => rfl
  | w :: ws, k :: ks, h => by
    have := setOk_range ws ks (by simpa using h)
    rw [List.length_cons, List.range_succ_eq_map, List.map_cons, List.map_map, List.all_cons]
    show (inR w k && _) = (inR w k && setOk ws ks)
    rw [← this]
    rfl
  | [], _ :: _, h => by simp at h
  | _ :: _, [], h => by simp at h
theorem setOk_ints : ∀ {ws ss : List Int}, setOk ws (ss.map Kd.int) = true ↔ InS ws ss
  | [], [] => ⟨fun _ => trivial, fun _ => rfl⟩
  | w :: ws, s :: ss => by
    show (((decide (0 ≤ s) && decide (s < w)) && setOk ws (ss.map Kd.int)) = true) ↔ ((0 ≤ s ∧ s < w) ∧ InS ws ss)
    rw [Bool.and_eq_true, Bool.and_eq_true, decide_eq_true_iff, decide_eq_true_iff, setOk_ints]
  | [], _ :: _ => ⟨fun h => (nomatch h), fun h => False.elim h⟩
  | _ :: _, [] => ⟨fun h => (nomatch h), fun h => False.elim h⟩
/-- whether v is a setting of ws, as is_setting tells -/
def SetV (K : PySem.W.Frag) (H : Hp) (ws : List Int) (v : V) (b : Bool) : Prop :=
  (∃ kd, Thg K H v kd ∧ kd.isList = false ∧ b = false) ∨ ∃ (a : Addr) (xs : List V) (ks : List Kd), v = .ref a ∧ SqL K H a xs ∧ Thgs K H xs ks ∧ xs.length ≤ 40000 ∧ b = setOk ws ks
theorem SetV.mono {K : PySem.W.Frag} {H H' : Hp} {ws : List Int} {v : V} {b : Bool} (e : Ex H H') (h : SetV K H ws v b) : SetV K H' ws v b := by
  rcases h with ⟨kd, hv, hk, hb⟩ | ⟨a, xs, ks, rfl, hS, hT, hl, hb⟩
  · exact .inl ⟨kd, hv.mono e, hk, hb⟩
  · exact .inr ⟨a, xs, ks, rfl, ex_l e hS, hT.mono e, hl, hb⟩
theorem SetV.ints {K : PySem.W.Frag} {H : Hp} {ws ss : List Int} {a : Addr} (h : SqL K H a (ss.map V.int)) (hl : ss.length ≤ 40000) : SetV K H ws (.ref a) (setOk ws (ss.map Kd.int)) :=
  .inr ⟨a, _, _, rfl, h, Thgs.ints ss, by rw [List.length_map]; exact hl, rfl⟩
theorem SetV.good {K : PySem.W.Frag} {H : Hp} {ws ss : List Int} {a : Addr} (h : SqL K H a (ss.map V.int)) (hl : ss.length ≤ 40000) (hi : InS ws ss) : SetV K H ws (.ref a) true :=
  setOk_ints.mpr hi ▸ SetV.ints h hl
def sp_is_setting (K : PySem.W.Frag) (_ : Cs) : Sp := fun vs H Q _ => ∃ (a : Addr) (ws : List Int) (v : V) (b : Bool), vs = [.ref a, v] ∧ SqL K H a (ws.map V.int) ∧ ws.length ≤ 40000 ∧ SetV K H ws v b ∧ RetV (.bl b) H Q
theorem spv_is_setting {K : PySem.W.Frag} {C : Cs} {H : Hp} {a : Addr} {ws : List Int} {v : V} {b : Bool} (h1 : SqL K H a (ws.map V.int)) (h2 : ws.length ≤ 40000) (h : SetV K H ws v b) : SpV (sp_is_setting K C) [.ref a, v] H (.bl b) :=
  fun H1 e Q q E => ⟨a, ws, v, b, rfl, ex_l e h1, h2, h.mono e, q⟩
theorem ev_inR {K : PySem.W.Frag} {H : Hp} {σ : L2.St} {te : TE} {v : V} {kd : Kd} {w : Int} (h : Thg K H v kd) (h1 : Ev te σ H (.bl kd.whole)) {tv tw : TE} (h2 : Ev tv σ H v) (h3 : Ev tw σ H (.int w)) :
    Ev (tAndV te (tChain (rI0 fun i j => V.bl (decide (i ≤ j))) (rI0 fun i j => V.bl (decide (i < j))) (tC (V.int 0)) tv tw)) σ H (.bl (inR w kd)) := by
  cases h with
  | int i => exact ev_to (ev_andV h1 fun _ => ev_chainI (f := fun i j => decide (i ≤ j)) (f' := fun i j => decide (i < j)) ev_c h2 fun _ => h3) (by show V.bl (true && (decide (0 ≤ i) && decide (i < w))) = V.bl (decide (0 ≤ i) && decide (i < w)); rw [Bool.true_and])
  | bl b => exact ev_andV (b := false) h1 fun q => nomatch q
  | non => exact ev_andV (b := false) h1 fun q => nomatch q
  | str x => exact ev_andV (b := false) h1 fun q => nomatch q
  | lst _ => exact ev_andV (b := false) h1 fun q => nomatch q
  | tup _ => exact ev_andV (b := false) h1 fun q => nomatch q
  | dct _ => exact ev_andV (b := false) h1 fun q => nomatch q
theorem ok_is_setting {P : Program} {w : World} {K : PySem.W.Frag} {mg : Str → Option Value} {base : Heap} {C : Cs} (T : Txt K mg C) : Cl P w K mg base CX0 2 "is_setting" ["wheels", "setting"] (sp_is_setting K C) := by
  have c_is_whole := ok_is_whole (P := P) (w := w) (base := base) T
  refine cl0 T.d_is_setting sc_is_setting (fun vs H Q E h => ?_) (fun f cdv A outer s H vs Q E hr h => ?_)
  · obtain ⟨a, ws, v, b, rfl, hW, hwl, hV, k⟩ := h
    rfl
  · obtain ⟨a, ws, v, b, rfl, hW, hwl, hV, k⟩ := h
    refine ⟨_, (pss_cons (ps_if (PW.pt (pw_or (pt_not (pt_val (pe_callB (call_isiK' (K := K) rfl) (by rfl) T.b_isinstance (by decide +kernel) (pa_cons (pv 1) (pa_cons (pe_bltn (by rfl) T.b_list (by decide +kernel) (v := .ty "list") rfl) pa_nil))) (by intro _; rfl))) (pw_or1 (pt_cmpR op_ne (pe_callB (call_lenK (K := K) rfl) (by rfl) T.b_len PySem.boot_len (pa_cons (pv 1) pa_nil)) (pe_callB (call_lenK (K := K) rfl) (by rfl) T.b_len PySem.boot_len (pa_cons (pv 0) pa_nil)) (nomark _))))) (pss_one (ps_ret pe_bl)) pss_nil)
    (pss_one (ps_ret (pe_callB (cr_allK (K := K) rfl rfl) (by rfl) T.b_all (by decide +kernel) (pa_cons (pe_lc (own := [("k", 2)]) (g := gName 2) (tt := tYes) rfl sc_is_setting.nd (pi_range1 (by rfl) T.b_range (pa_cons (pe_callB (call_lenK (K := K) rfl) (by rfl) T.b_len PySem.boot_len (pa_cons (pv 0) pa_nil)) pa_nil)) (blkOk_by (N := ["wheels", "setting", "k"]) (sc := defScope S_is_setting) (own := [("k", 2)]) (by decide +kernel)) (fun _ _ _ _ _ => (pg_name (i := 2) sc_is_setting.nd rfl (.inl rfl))) (fun _ _ _ _ _ => pts_nil) (fun _ _ _ _ _ => (pe_and (pe_cl c_is_whole (hr.mono (by decide)) (by rfl) pass0 (pa_cons (pe_ix (ix_listK (K := K) rfl) (pv 1) (pv 2) (fun _ _ => rfl)) pa_nil)) (pe_one (pe_chain op_le op_lt pe_int (pe_ix (ix_listK (K := K) rfl) (pv 1) (pv 2) (fun _ _ => rfl)) (pe_ix (ix_listK (K := K) rfl) (pv 0) (pv 2) (fun _ _ => rfl))))))) pa_nil))))), ?_⟩
    dsimp only [cxOf, Cx.nox, Cx.wish, L2.start, List.map_cons, List.map_nil, List.length_cons, List.length_nil, List.cons_append, List.nil_append]
    rcases hV with ⟨kd, hv, hk, rfl⟩ | ⟨c, xs, ks, rfl, hS, hT, hl, rfl⟩
    · refine q_when (b := (!kd.isList || false)) (et_or (et_not (et_B (ev_cb (ea_cons (ev_var rfl) (ea_cons ev_c ea_nil)) (rc_isi hv fun _ => kd_list)))) fun q => ?_) (fun _ H1 e => s_ret ev_c fun H2 e2 => k _ (e.trans e2)) (fun q => ?_)
      · rw [hk] at q; cases q
      · rw [hk] at q; cases q
    · refine q_when (b := (!true || !decide ((xs.length : Int) = (ws.length : Int)))) (et_or (et_not (et_B (ev_cb (ea_cons (ev_var rfl) (ea_cons ev_c ea_nil)) (rc_isi (Thg.lst hS) fun _ => kd_list)))) fun q => ?zz) (fun q H1 e => ?_) (fun q H1 e => ?_)
      case zz =>
        walk_at "et"
      · refine s_ret ev_c fun H2 e2 => ?_
        have hne : setOk ws ks = false := by
          cases h : setOk ws ks with
          | false => rfl
          | true =>
            have h1 := setOk_len h
            have h2 := hT.len
            rw [decide_eq_true (show (xs.length : Int) = (ws.length : Int) by omega)] at q
            cases q
        rw [hne] at k
        exact k _ (e.trans e2)
      · have hlen : ks.length = ws.length := by
          have h2 := hT.len
          by_cases h : (xs.length : Int) = (ws.length : Int)
          · omega
          · rw [decide_eq_false h] at q; cases q
        have hT1 := hT.mono e
        have hS1 := ex_l e hS
        have hW1 := ex_l e hW
        refine s_ret (v := .bl (setOk ws ks)) ?_ fun H2 e2 => k _ (e.trans e2)
        rw [← setOk_range ws ks hlen]
        refine ev_allN (el_range (n := ws.length) (by rw [List.length_map, List.length_map, List.length_range]) (by walk_at "ea") hwl (fun _ => rfl) fun i y H2 e2 hi hy => ?_)
        rw [List.map_map, List.getElem?_map, List.getElem?_range hi] at hy
        cases hy
        have hix : i < xs.length := by have := hT.len; omega
        have hx : xs[i]? = some xs[i] := List.getElem?_eq_getElem hix
        obtain ⟨kd, hk, ht⟩ := hT1.get hx
        have ek : ks.getD i .rest = kd := by rw [List.getD_eq_getElem?_getD, hk]; rfl
        show Ev _ _ _ (.bl (inR (ws.getD i 0) (ks.getD i .rest)))
        rw [ek]
        have hW2 := ex_l e2 hW1
        have ei : Ev (tOp (rIxL K) (tVar 1) (tVar 2)) ((wipe [some (V.ref a), some (V.ref c), none] [2]).set 2 (some (.int (i : Int)))) H2 xs[i] := ev_op (ev_var rfl) (ev_var rfl) (rv_ixL (ex_l e2 hS1) (atI_nat hx))
        exact ev_inR (ht.mono e2) (ev_call (ea_cons ei ea_nil) (spv_whole (ht.mono e2))) ei (by walk_at "ev")
def sp_check_setting (K : PySem.W.Frag) (C : Cs) : Sp := fun vs H Q E => ∃ (a : Addr) (ws : List Int) (v : V) (b : Bool), vs = [.ref a, v] ∧ SqL K H a (ws.map V.int) ∧ ws.length ≤ 40000 ∧ SetV K H ws v b ∧ (b = true → RetV .non H Q) ∧ (b = false → RetX C.BadSetting H E)
/-! ### counts -/
/-- wheels that the program's arithmetic bears -/
structure Sm (ws : List Int) : Prop where
  len : ws.length ≤ 200
  pos : ∀ w ∈ ws, 0 ≤ w
  lt : ∀ w ∈ ws, w < 2 ^ 250
theorem Sm.nat {ws : List Int} (h : Sm ws) {w : Int} (hw : w ∈ ws) : w.natAbs < 2 ^ 250 := by
  have h0 := h.pos w hw
  have h1 := h.lt w hw
  have e : w = ((w.natAbs : Nat) : Int) := by omega
  rw [e] at h1
  exact_mod_cast h1
theorem cnt_lt : ∀ {ws : List Int}, (∀ w ∈ ws, w.natAbs < 2 ^ 250) → (cnt ws).natAbs < 2 ^ (250 * ws.length + 1)
  | [], _ => by show (1 : Int).natAbs < 2 ^ 1; decide
  | w :: ws, h => by
    have h1 := h w List.mem_cons_self
    have h2 := cnt_lt (ws := ws) fun x hx => h x (List.mem_cons_of_mem _ hx)
    have := wide_lt h1 h2
    show (w * cnt ws).natAbs < 2 ^ (250 * (ws.length + 1) + 1)
    rw [show 250 * (ws.length + 1) + 1 = 250 + (250 * ws.length + 1) by omega]
    exact this
theorem Sm.mulX {ws : List Int} (h : Sm ws) {i : Nat} {w : Int} (hw : w ∈ ws) : CMulX (cnt (ws.take i)) w := by
  have hl : (ws.take i).length ≤ 200 := Nat.le_trans (List.length_take_le' i ws) h.len
  refine mulx_ok (cnt_lt (ws := ws.take i) fun x hx => h.nat (List.mem_of_mem_take hx)) (h.nat hw) ?_
  omega
theorem take_succ_of {α : Type} {l : List α} {i : Nat} {x : α} (h : l[i]? = some x) : l.take (i + 1) = l.take i ++ [x] := by
  rw [List.take_succ, h]
  rfl
theorem map_get {ws : List Int} {i : Nat} {x : V} (h : (ws.map V.int)[i]? = some x) : ∃ w, x = .int w ∧ ws[i]? = some w ∧ w ∈ ws := by
  rw [List.getElem?_map] at h
  cases e : ws[i]? with
  | none => rw [e] at h; cases h
  | some w =>
    rw [e] at h
    exact ⟨w, (Option.some.inj h).symm, rfl, List.mem_of_getElem? e⟩
def sp_count_of (K : PySem.W.Frag) (_ : Cs) : Sp := fun vs H Q _ => ∃ (a : Addr) (ws : List Int), vs = [.ref a] ∧ SqL K H a (ws.map V.int) ∧ Sm ws ∧ RetV (.int (cnt ws)) H Q
theorem spv_count_of {K : PySem.W.Frag} {C : Cs} {H : Hp} {a : Addr} {ws : List Int} (h1 : SqL K H a (ws.map V.int)) (h : Sm ws) : SpV (sp_count_of K C) [.ref a] H (.int (cnt ws)) :=
  fun H1 e Q q E => ⟨a, ws, rfl, ex_l e h1, h, q⟩
theorem ok_count_of {P : Program} {w : World} {K : PySem.W.Frag} {mg : Str → Option Value} {base : Heap} {C : Cs} (T : Txt K mg C) : Cl P w K mg base CX0 1 "count_of" ["wheels"] (sp_count_of K C) := by
  refine cl0 T.d_count_of sc_count_of (fun vs H Q E h => ?_) (fun f cdv A outer s H vs Q E hr h => ?_)
  · obtain ⟨a, ws, rfl, hW, hm, k⟩ := h
    rfl
  · obtain ⟨a, ws, rfl, hW, hm, k⟩ := h
    refine ⟨_, (pss_cons (ps_set (i := 1) sc_count_of.nd rfl (.inl rfl) pe_int)
    (pss_cons (ps_for PassesOwn.never rfl (pi_listK (K := K) rfl (pv 0)) (pg_name (i := 2) sc_count_of.nd rfl (.inl rfl))
    (pss_one (ps_aug (i := 1) sc_count_of.nd rfl (.inl rfl) (pv 2) ip_mulX)))
    (pss_one (ps_ret (pv 1))))), ?_⟩
    dsimp only [cxOf, Cx.nox, Cx.wish, L2.start, List.map_cons, List.map_nil, List.length_cons, List.length_nil, List.cons_append, List.nil_append]
    refine q_asg ev_c fun H1 e1 => ?_
    refine q_forLn (K := K) (a := a) (xs := ws.map V.int) (ev_var rfl) (ex_l e1 hW) (fun i σ' H' => ∃ v, σ' = [some (.ref a), some (.int (cnt (ws.take i))), v] ∧ Ex H H') (fun H2 e2 => ⟨_, rfl, e1.trans e2⟩) (fun i σ' H' _ ⟨_, _, e⟩ => ex_l e hW) ?_ ?_
    · rintro i x σ' H' hx ⟨v, rfl, e⟩
      obtain ⟨w, rfl, hw, hm'⟩ := map_get hx
      refine ⟨_, rfl, _, rfl, _, _, rfl, rfl, hm.mulX hm', ?_⟩
      refine ⟨some (.int w), ?_, e⟩
      rw [take_succ_of hw, cnt_snoc]
      rfl
    · rintro σ' H' ⟨v, rfl, e⟩
      refine s_ret (ev_var rfl) fun H2 e2 => ?_
      rw [List.length_map, List.take_length]
      exact k H2 (e.trans e2)
/-! ### check_number, settings -/
def numOk (m : Int) : Kd → Bool
  | .int i => decide (0 ≤ i) && decide (i < m)
  | _ => false
def sp_check_number (K : PySem.W.Frag) (C : Cs) : Sp := fun vs H Q E => ∃ (a : Addr) (ws : List Int) (v : V) (kd : Kd), vs = [.ref a, v] ∧ SqL K H a (ws.map V.int) ∧ Sm ws ∧ Thg K H v kd ∧ (numOk (cnt ws) kd = true → RetV .non H Q) ∧ (numOk (cnt ws) kd = false → RetX C.BadNumber H E)
/-- wheels that are asked at a door: bad ones are refused, with good ones it goes on -/
def Door (K : PySem.W.Frag) (C : Cs) (H : Hp) (v : V) (E : XK) (good : Addr → List Int → Prop) : Prop :=
  (∃ kd, Thg K H v kd ∧ kd.isList = false ∧ RetX C.BadWheels H E) ∨
  (∃ (a : Addr) (xs : List V) (ks : List Kd), v = .ref a ∧ SqL K H a xs ∧ Thgs K H xs ks ∧ xs.length ≤ 40000 ∧ ks.all okSize = false ∧ RetX C.BadWheels H E) ∨
  ∃ (a : Addr) (ws : List Int), v = .ref a ∧ SqL K H a (ws.map V.int) ∧ Pos ws ∧ ws.length ≤ 40000 ∧ good a ws
theorem okSize_ints : ∀ {ws : List Int}, Pos ws → (ws.map Kd.int).all okSize = true
  | [], _ => rfl
  | w :: ws, h => by
    show (decide (1 ≤ w) && (ws.map Kd.int).all okSize) = true
    rw [decide_eq_true h.head, okSize_ints h.tail]
    rfl
theorem Door.check {K : PySem.W.Frag} {C : Cs} {H : Hp} {v : V} {E : XK} {good : Addr → List Int → Prop} (h : Door K C H v E good) {Q : VK} (k : ∀ a ws, v = .ref a → SqL K H a (ws.map V.int) → Pos ws → ws.length ≤ 40000 → good a ws → ∀ H1, Ex H H1 → Q .non H1) :
    sp_check_wheels K C [v] H Q E := by
  refine ⟨v, rfl, ?_⟩
  rcases h with ⟨kd, h1, h2, h3⟩ | ⟨a, xs, ks, rfl, h1, h2, h3, h4, h5⟩ | ⟨a, ws, rfl, h1, h2, h3, h4⟩
  · exact .inl ⟨kd, h1, h2, h3⟩
  · exact .inr ⟨a, xs, ks, rfl, h1, h2, h3, fun q => (by rw [h4] at q; cases q), fun _ => h5⟩
  · exact .inr ⟨a, _, _, rfl, h1, Thgs.ints ws, by rw [List.length_map]; exact h3, fun _ => k a ws rfl h1 h2 h3 h4, fun q => by rw [okSize_ints h2] at q; cases q⟩
theorem Door.mono {K : PySem.W.Frag} {C : Cs} {H H' : Hp} {v : V} {E : XK} {good : Addr → List Int → Prop} (e : Ex H H') (h : Door K C H v E good) : Door K C H' v E good := by
  rcases h with ⟨kd, h1, h2, h3⟩ | ⟨a, xs, ks, rfl, h1, h2, h3, h4, h5⟩ | ⟨a, ws, rfl, h1, h2, h3, h4⟩
  · exact .inl ⟨kd, h1.mono e, h2, h3.go e⟩
  · exact .inr (.inl ⟨a, xs, ks, rfl, ex_l e h1, h2.mono e, h3, h4, h5.go e⟩)
  · exact .inr (.inr ⟨a, ws, rfl, ex_l e h1, h2, h3, h4⟩)
def sp_settings (K : PySem.W.Frag) (C : Cs) : Sp := fun vs H Q E => ∃ (v : V), vs = [v] ∧ Door K C H v E fun a ws => Sm ws ∧ RetV (.int (cnt ws)) H Q
theorem spv_settings {K : PySem.W.Frag} {C : Cs} {H : Hp} {a : Addr} {ws : List Int} (h1 : SqL K H a (ws.map V.int)) (h2 : Pos ws) (h : Sm ws) : SpV (sp_settings K C) [.ref a] H (.int (cnt ws)) :=
  fun H1 e Q q E => ⟨_, rfl, .inr (.inr ⟨a, ws, rfl, ex_l e h1, h2, Nat.le_trans h.len (by decide), h, q⟩)⟩
/-! ### setting_at -/
def dvd (ws : List Int) (n : Int) : Nat → Int
  | 0 => n
  | i + 1 => dvd ws n i / ws.getD i 1
theorem dvd_succ {ws : List Int} {n : Int} {i : Nat} {w : Int} (h : ws[i]? = some w) : dvd ws n (i + 1) = dvd ws n i / w := by
  show dvd ws n i / ws.getD i 1 = _
  rw [List.getD_eq_getElem?_getD, h]
  rfl
theorem dvd_cons (v : Int) (ws : List Int) (n : Int) : ∀ i : Nat, dvd (v :: ws) n (i + 1) = dvd ws (n / v) i
  | 0 => rfl
  | i + 1 => by
    show dvd (v :: ws) n (i + 1) / ws.getD i 1 = dvd ws (n / v) i / ws.getD i 1
    rw [dvd_cons v ws n i]
theorem setAt_get : ∀ {ws : List Int} {n : Int} {i : Nat} {w : Int}, ws[i]? = some w → (setAt ws n)[i]? = some (if dvd ws n i / w % 2 = 0 then dvd ws n i % w else w - 1 - dvd ws n i % w)
  | [], n, i, w, h => by simp at h
  | v :: ws, n, 0, w, h => by
    have e : v = w := Option.some.inj h
    subst e
    rfl
  | v :: ws, n, i + 1, w, h => by
    rw [dvd_cons]
    exact setAt_get (ws := ws) (n := n / v) (i := i) h
theorem divp_small {i j : Int} (h0 : 0 < j) (h1 : j < 2 ^ 250) : CDivP i j := by
  refine ⟨h0, ?_⟩
  have hn : j.natAbs < 2 ^ 250 := by
    have e : j = ((j.natAbs : Nat) : Int) := by omega
    rw [e] at h1
    exact_mod_cast h1
  have hl : j.natAbs.log2 < 250 := (Nat.log2_lt (by omega)).mpr hn
  show (decide ((if j == 0 then 0 else j.natAbs.log2 / 30 + 1) > 300) && decide ((if i == 0 then 0 else i.natAbs.log2 / 30 + 1) > (if j == 0 then 0 else j.natAbs.log2 / 30 + 1) + 150)) = false
  rw [if_neg (show ¬ (j == 0) = true by simpa using (show j ≠ 0 by omega)), decide_eq_false (by omega)]
  rfl
def sp_setting_at (K : PySem.W.Frag) (_ : Cs) : Sp := fun vs H Q _ => ∃ (a : Addr) (ws : List Int) (n : Int), vs = [.ref a, .int n] ∧ SqL K H a (ws.map V.int) ∧ Pos ws ∧ Sm ws ∧ RetL ((setAt ws n).map V.int) H Q
theorem spl_setting_at {K : PySem.W.Frag} {C : Cs} {H : Hp} {a : Addr} {ws : List Int} {n : Int} (h1 : SqL K H a (ws.map V.int)) (h2 : Pos ws) (h : Sm ws) : SpL (sp_setting_at K C) [.ref a, .int n] H ((setAt ws n).map V.int) :=
  fun H1 e Q q E => ⟨a, ws, n, rfl, ex_l e h1, h2, h, fun p H2 hp e2 h2 => q p H2 hp e2 h2⟩
/-! ### number_at -/
theorem numAt_drop {ws ss : List Int} {k : Nat} (h : k < ws.length) (hl : ss.length = ws.length) :
    numAt (ws.drop k) (ss.drop k) = numAt (ws.drop (k + 1)) (ss.drop (k + 1)) * ws.getD k 0 + (if numAt (ws.drop (k + 1)) (ss.drop (k + 1)) % 2 = 0 then ss.getD k 0 else ws.getD k 0 - 1 - ss.getD k 0) := by
  have h2 : k < ss.length := by omega
  rw [List.drop_eq_getElem_cons h, List.drop_eq_getElem_cons h2, List.getD_eq_getElem?_getD, List.getD_eq_getElem?_getD, List.getElem?_eq_getElem h, List.getElem?_eq_getElem h2]
  rfl
theorem InS.drop : ∀ {ws ss : List Int} (k : Nat), InS ws ss → InS (ws.drop k) (ss.drop k)
  | _, _, 0, h => h
  | [], [], _ + 1, _ => trivial
  | _ :: _, _ :: _, k + 1, h => InS.drop k h.2
  | [], _ :: _, _ + 1, h => False.elim h
  | _ :: _, [], _ + 1, h => False.elim h
theorem Sm.drop {ws : List Int} (h : Sm ws) (k : Nat) : Sm (ws.drop k) := ⟨by rw [List.length_drop]; have := h.len; omega, fun w hw => h.pos w (List.mem_of_mem_drop hw), fun w hw => h.lt w (List.mem_of_mem_drop hw)⟩
theorem num_lt {ws ss : List Int} (h : Sm ws) (hi : InS ws ss) : (numAt ws ss).natAbs < 2 ^ 50001 := by
  obtain ⟨a, b⟩ := num_bd hi
  have hc := cnt_lt (ws := ws) fun w hw => h.nat hw
  have hp : (2 : Nat) ^ (250 * ws.length + 1) ≤ 2 ^ 50001 := Nat.pow_le_pow_right (by omega) (by have := h.len; omega)
  omega
theorem getD_mem {ws : List Int} {k : Nat} (h : k < ws.length) : ws.getD k 0 ∈ ws := by
  rw [List.getD_eq_getElem?_getD, List.getElem?_eq_getElem h]
  exact List.getElem_mem h
def sp_number_at (K : PySem.W.Frag) (_ : Cs) : Sp := fun vs H Q _ => ∃ (a b : Addr) (ws ss : List Int), vs = [.ref a, .ref b] ∧ SqL K H a (ws.map V.int) ∧ SqL K H b (ss.map V.int) ∧ InS ws ss ∧ Sm ws ∧ RetV (.int (numAt ws ss)) H Q
theorem spv_number_at {K : PySem.W.Frag} {C : Cs} {H : Hp} {a b : Addr} {ws ss : List Int} (h1 : SqL K H a (ws.map V.int)) (h2 : SqL K H b (ss.map V.int)) (hi : InS ws ss) (h : Sm ws) : SpV (sp_number_at K C) [.ref a, .ref b] H (.int (numAt ws ss)) :=
  fun H1 e Q q E => ⟨a, b, ws, ss, rfl, ex_l e h1, ex_l e h2, hi, h, q⟩
/-! ### setting_of, number_of -/
theorem numOk_iff {m : Int} {kd : Kd} : numOk m kd = true ↔ ∃ i, kd = .int i ∧ 0 ≤ i ∧ i < m := by
  cases kd with
  | int i =>
    show (decide (0 ≤ i) && decide (i < m)) = true ↔ _
    rw [Bool.and_eq_true, decide_eq_true_iff, decide_eq_true_iff]
    exact ⟨fun h => ⟨i, rfl, h⟩, fun ⟨j, e, h⟩ => by cases e; exact h⟩
  | bool => exact ⟨fun h => (nomatch h), fun ⟨j, e, h⟩ => (nomatch e)⟩
  | list => exact ⟨fun h => (nomatch h), fun ⟨j, e, h⟩ => (nomatch e)⟩
  | str => exact ⟨fun h => (nomatch h), fun ⟨j, e, h⟩ => (nomatch e)⟩
  | tup => exact ⟨fun h => (nomatch h), fun ⟨j, e, h⟩ => (nomatch e)⟩
  | rest => exact ⟨fun h => (nomatch h), fun ⟨j, e, h⟩ => (nomatch e)⟩
theorem Thg.toInt {K : PySem.W.Frag} {H : Hp} {v : V} {i : Int} (h : Thg K H v (.int i)) : v = .int i := by
  cases h
  rfl
theorem setOk_get {K : PySem.W.Frag} {H : Hp} : ∀ {ws : List Int} {xs : List V} {ks : List Kd}, Thgs K H xs ks → setOk ws ks = true → ∃ ss : List Int, ks = ss.map Kd.int ∧ xs = ss.map V.int ∧ InS ws ss
  | [], _, _, .nil, _ => ⟨[], rfl, rfl, trivial⟩
  | [], _, _, .cons _ _, h => nomatch h
  | _ :: _, _, _, .nil, h => nomatch h
  | w :: ws, _, _, .cons (a := v) (b := kd) r t, h => by
    have h' : (inR w kd && setOk ws _) = true := h
    rw [Bool.and_eq_true] at h'
    obtain ⟨ss, rfl, rfl, hi⟩ := setOk_get t h'.2
    cases r with
    | int i =>
      have h1 : (decide (0 ≤ i) && decide (i < w)) = true := h'.1
      rw [Bool.and_eq_true, decide_eq_true_iff, decide_eq_true_iff] at h1
      exact ⟨i :: ss, rfl, rfl, h1, hi⟩
    | bl b => exact nomatch h'.1
    | non => exact nomatch h'.1
    | str x => exact nomatch h'.1
    | lst _ => exact nomatch h'.1
    | tup _ => exact nomatch h'.1
    | dct _ => exact nomatch h'.1
theorem SetV.get {K : PySem.W.Frag} {H : Hp} {ws : List Int} {v : V} (h : SetV K H ws v true) : ∃ (a : Addr) (ss : List Int), v = .ref a ∧ SqL K H a (ss.map V.int) ∧ InS ws ss := by
  rcases h with ⟨kd, hv, hk, hb⟩ | ⟨a, xs, ks, rfl, hS, hT, hl, hb⟩
  · cases hb
  · obtain ⟨ss, rfl, rfl, hi⟩ := setOk_get hT hb.symm
    exact ⟨a, ss, rfl, hS, hi⟩
def sp_setting_of (K : PySem.W.Frag) (C : Cs) : Sp := fun vs H Q E => ∃ (v n : V), vs = [v, n] ∧ Door K C H v E fun _ ws => Sm ws ∧ ∃ kd, Thg K H n kd ∧ (numOk (cnt ws) kd = false → RetX C.BadNumber H E) ∧
  ∀ i, kd = .int i → 0 ≤ i → i < cnt ws → RetL ((setAt ws i).map V.int) H Q
theorem spl_setting_of {K : PySem.W.Frag} {C : Cs} {H : Hp} {a : Addr} {ws : List Int} {n : Int} (h1 : SqL K H a (ws.map V.int)) (h2 : Pos ws) (h : Sm ws) (n0 : 0 ≤ n) (n1 : n < cnt ws) : SpL (sp_setting_of K C) [.ref a, .int n] H ((setAt ws n).map V.int) :=
  fun H1 e Q q E => ⟨_, _, rfl, .inr (.inr ⟨a, ws, rfl, ex_l e h1, h2, Nat.le_trans h.len (by decide), h, .int n, .int n, fun z => (by rw [numOk_iff.mpr ⟨n, rfl, n0, n1⟩] at z; cases z), fun i ei _ _ => by cases ei; exact fun p H2 hp e2 h2 => q p H2 hp e2 h2⟩)⟩
/-- what is asked as a setting of ws at a door: a bad one is refused, with a good one it goes on -/
def DoorS (K : PySem.W.Frag) (C : Cs) (H : Hp) (ws : List Int) (s : V) (E : XK) (good : Addr → List Int → Prop) : Prop :=
  (SetV K H ws s false ∧ RetX C.BadSetting H E) ∨ ∃ (c : Addr) (ss : List Int), s = .ref c ∧ SqL K H c (ss.map V.int) ∧ InS ws ss ∧ good c ss
theorem DoorS.mono {K : PySem.W.Frag} {C : Cs} {H H' : Hp} {ws : List Int} {s : V} {E : XK} {good : Addr → List Int → Prop} (e : Ex H H') (h : DoorS K C H ws s E good) : DoorS K C H' ws s E good := by
  rcases h with ⟨h1, h2⟩ | ⟨c, ss, rfl, h1, h2, h3⟩
  · exact .inl ⟨h1.mono e, h2.go e⟩
  · exact .inr ⟨c, ss, rfl, ex_l e h1, h2, h3⟩
theorem DoorS.check {K : PySem.W.Frag} {C : Cs} {H : Hp} {a : Addr} {ws : List Int} {s : V} {E : XK} {good : Addr → List Int → Prop} (hW : SqL K H a (ws.map V.int)) (hl : ws.length ≤ 40000) (h : DoorS K C H ws s E good) {Q : VK}
    (k : ∀ c ss, s = .ref c → SqL K H c (ss.map V.int) → InS ws ss → good c ss → ∀ H1, Ex H H1 → Q .non H1) : sp_check_setting K C [.ref a, s] H Q E := by
  rcases h with ⟨h1, h2⟩ | ⟨c, ss, rfl, h1, h2, h3⟩
  · exact ⟨a, ws, s, false, rfl, hW, hl, h1, fun q => (nomatch q), fun _ => h2⟩
  · exact ⟨a, ws, _, true, rfl, hW, hl, SetV.good h1 (by rw [h2.len]; exact hl) h2, fun _ => k c ss rfl h1 h2 h3, fun q => (nomatch q)⟩
def sp_number_of (K : PySem.W.Frag) (C : Cs) : Sp := fun vs H Q E => ∃ (v s : V), vs = [v, s] ∧ Door K C H v E fun _ ws => Sm ws ∧ DoorS K C H ws s E fun _ ss => RetV (.int (numAt ws ss)) H Q
theorem spv_number_of {K : PySem.W.Frag} {C : Cs} {H : Hp} {a b : Addr} {ws ss : List Int} (h1 : SqL K H a (ws.map V.int)) (h2 : Pos ws) (h : Sm ws) (h3 : SqL K H b (ss.map V.int)) (hi : InS ws ss) : SpV (sp_number_of K C) [.ref a, .ref b] H (.int (numAt ws ss)) :=
  fun H1 e Q q E => ⟨_, _, rfl, .inr (.inr ⟨a, ws, rfl, ex_l e h1, h2, Nat.le_trans h.len (by decide), h, .inr ⟨b, ss, rfl, ex_l e h3, hi, q⟩⟩)⟩
/-! ### the law's own draws -/
def primes : List Int := [1000003, 1000033, 1000037, 1000039, 1000081, 1000099, 1000117, 1000121, 1000133, 1000151, 1000159, 1000171, 1000183, 1000187, 1000193, 1000199]
theorem primes_len : primes.length = 16 := rfl
theorem primes_pos {i : Nat} (h : i < 16) : 0 < primes.getD i 0 := by
  have : ∀ i : Fin 16, 0 < primes.getD i.val 0 := by decide
  exact this ⟨i, h⟩
def drawI (c k m : Int) : Int := (c * 48271 + k * 69621) % (primes.getD (k % 16).toNat 0) % m
theorem draw_nn {c k m : Int} (h : 0 < m) : 0 ≤ drawI c k m := Int.emod_nonneg _ (by omega)
theorem draw_lt {c k m : Int} (h : 0 < m) : drawI c k m < m := Int.emod_lt_of_pos _ h
def sp_law_cell_at (K : PySem.W.Frag) (_ : Cs) : Sp := fun vs H Q _ => ∃ (a : Addr) (ns : List Int) (k : Int), vs = [.ref a, .int k] ∧ SqL K H a (ns.map V.int) ∧ 0 ≤ k ∧ RetV (.int (ns.getD k.toNat 0)) H Q
theorem spv_cell {K : PySem.W.Frag} {C : Cs} {H : Hp} {a : Addr} {ns : List Int} {k : Int} (h1 : SqL K H a (ns.map V.int)) (h : 0 ≤ k) : SpV (sp_law_cell_at K C) [.ref a, .int k] H (.int (ns.getD k.toNat 0)) :=
  fun H1 e Q q E => ⟨a, ns, k, rfl, ex_l e h1, h, q⟩
theorem ok_law_cell_at {P : Program} {w : World} {K : PySem.W.Frag} {mg : Str → Option Value} {base : Heap} {C : Cs} (T : Txt K mg C) : Cl P w K mg base CX0 1 "_law_cell_at" ["_law_script", "_law_k"] (sp_law_cell_at K C) := by
  refine cl0 T.d_law_cell_at sc_law_cell_at (fun vs H Q E h => ?_) (fun f cdv A outer s H vs Q E hr h => ?_)
  · obtain ⟨a, ns, k, rfl, hS, h0, kk⟩ := h
    rfl
  · obtain ⟨a, ns, k, rfl, hS, h0, kk⟩ := h
    refine ⟨_, (pss_cons (ps_if (pt_cmpR op_lt (pv 1) (pe_callB (call_lenK (K := K) rfl) (by rfl) T.b_len PySem.boot_len (pa_cons (pv 0) pa_nil)) (nomark _)) (pss_one (ps_ret (pe_ix (ix_listK (K := K) rfl) (pv 0) (pv 1) (fun _ _ => rfl)))) pss_nil)
    (pss_one (ps_ret pe_int))), ?_⟩
    dsimp only [cxOf, Cx.nox, Cx.wish, L2.start, List.map_cons, List.map_nil, List.length_cons, List.length_nil, List.cons_append, List.nil_append]
    refine q_when (b := decide (k < (ns.length : Int))) (by walk_at "et") (fun hb H1 e => ?_) (fun hb H1 e => ?_)
    · have hk := of_decide_eq_true hb
      have hS1 := ex_l e hS
      exact s_ret (by walk_at "ev") fun H2 e2 => kk _ (e.trans e2)
    · have hk := of_decide_eq_false hb
      rw [List.getD_eq_getElem?_getD, List.getElem?_eq_none (by omega)] at kk
      exact s_ret ev_c fun H2 e2 => kk _ (e.trans e2)
def sp_law_draw (K : PySem.W.Frag) (_ : Cs) : Sp := fun vs H Q _ => ∃ (c k m : Int), vs = [.int c, .int k, .int m] ∧ 0 < m ∧ RetV (.int (drawI c k m)) H Q
theorem spv_draw {K : PySem.W.Frag} {C : Cs} {H : Hp} {c k m : Int} (h : 0 < m) : SpV (sp_law_draw K C) [.int c, .int k, .int m] H (.int (drawI c k m)) :=
  fun H1 e Q q E => ⟨c, k, m, rfl, h, q⟩
theorem ok_law_draw {P : Program} {w : World} {K : PySem.W.Frag} {mg : Str → Option Value} {base : Heap} {C : Cs} (T : Txt K mg C) : Cl P w K mg base CX0 1 "_law_draw" ["_law_cell", "_law_k", "_law_many"] (sp_law_draw K C) := by
  refine cl0 T.d_law_draw sc_law_draw (fun vs H Q E h => ?_) (fun f cdv A outer s H vs Q E hr h => ?_)
  · obtain ⟨c, k, m, rfl, h0, kk⟩ := h
    rfl
  · obtain ⟨c, k, m, rfl, h0, kk⟩ := h
    refine ⟨_, (pss_cons (ps_set (i := 3) sc_law_draw.nd rfl (.inl rfl) (pe_tup (pa_cons pe_int (pa_cons pe_int (pa_cons pe_int (pa_cons pe_int (pa_cons pe_int (pa_cons pe_int (pa_cons pe_int (pa_cons pe_int (pa_cons pe_int (pa_cons pe_int (pa_cons pe_int (pa_cons pe_int (pa_cons pe_int (pa_cons pe_int (pa_cons pe_int (pa_cons pe_int pa_nil))))))))))))))))))
    (pss_one (ps_ret (pe_op op_mod (pe_op op_mod (pe_op op_add (pe_op op_mulA (pv 0) pe_int) (pe_op op_mulA (pv 1) pe_int)) (pe_ix (ix_tupK (K := K) rfl) (pv 3) (pe_op op_mod (pv 1) pe_int) (fun _ _ => rfl))) (pv 2))))), ?_⟩
    dsimp only [cxOf, Cx.nox, Cx.wish, L2.start, List.map_cons, List.map_nil, List.length_cons, List.length_nil, List.cons_append, List.nil_append]
    refine q_asgU (eu_tup (by walk_at "ea") (by show (16 : Nat) ≤ 100000; decide)) fun p H1 hp e1 h1 => ?_
    have h1' : SqT K H1 p (primes.map V.int) := st_of h1
    have k0 : 0 ≤ k % 16 := Int.emod_nonneg _ (by decide)
    have k1 : k % 16 < 16 := Int.emod_lt_of_pos _ (by decide)
    have k2 := primes_len
    have hpp : 0 < primes.getD (k % 16).toNat 0 := primes_pos (by omega)
    exact s_ret (v := .int (drawI c k m)) (by unfold drawI; walk_at "ev") fun H2 e2 => kk _ (e1.trans e2)
def menuI : List Int := [4, 2, 9, 40, 3, 1]
theorem menu_len : menuI.length = 6 := rfl
theorem menu_pos {i : Nat} (h : i < 6) : 0 < menuI.getD i 0 ∧ menuI.getD i 0 ≤ 40 := by
  have : ∀ i : Fin 6, 0 < menuI.getD i.val 0 ∧ menuI.getD i.val 0 ≤ 40 := by decide
  exact this ⟨i, h⟩
def kindI (s : List Int) : Int := drawI (s.getD 0 0) 6 6
/-- the size by its steps -/
def size0 (kind c k : Int) : Int := 1 + drawI c (k % 5 + 1) (menuI.getD kind.toNat 0)
def size1 (kind c k : Int) : Int := if kind = 2 then size0 kind c k / 2 * 2 + 1 else size0 kind c k
def size2 (kind c k : Int) : Int := if kind = 4 ∧ 2 < k then 1 else size1 kind c k
def sizeI (kind c k : Int) : Int := if kind = 5 then 1 + c / 7 % 10 ^ (59 : Int).toNat else size2 kind c k
theorem kind_bd (s : List Int) : 0 ≤ kindI s ∧ kindI s < 6 := ⟨draw_nn (by decide), draw_lt (by decide)⟩
theorem size_bd {kind c k : Int} (h0 : 0 ≤ kind) (h1 : kind < 6) : 1 ≤ sizeI kind c k ∧ sizeI kind c k ≤ 10 ^ 59 := by
  have hm := menu_pos (i := kind.toNat) (by omega)
  have a := draw_nn (c := c) (k := k % 5 + 1) hm.1
  have b := draw_lt (c := c) (k := k % 5 + 1) hm.1
  have z0 : 1 ≤ size0 kind c k ∧ size0 kind c k ≤ 40 := by unfold size0; omega
  have z1 : 1 ≤ size1 kind c k ∧ size1 kind c k ≤ 41 := by unfold size1; split <;> omega
  have z2 : 1 ≤ size2 kind c k ∧ size2 kind c k ≤ 41 := by unfold size2; split <;> omega
  have e : (10 : Int) ^ (59 : Int).toNat = 100000000000000000000000000000000000000000000000000000000000 := by decide
  have e2 : (10 : Int) ^ 59 = 100000000000000000000000000000000000000000000000000000000000 := by decide
  rw [e2]
  unfold sizeI
  rw [e]
  split
  · have c0 := Int.emod_nonneg (c / 7) (b := 100000000000000000000000000000000000000000000000000000000000) (by decide)
    have c1 := Int.emod_lt_of_pos (c / 7) (b := 100000000000000000000000000000000000000000000000000000000000) (by decide)
    omega
  · omega
def wheelsI (ns : List Int) : List Int := (List.range (ns.take 63).length).map fun i => sizeI (kindI (ns.take 63)) ((ns.take 63).getD i 0) (i : Int)
theorem wheels_len (ns : List Int) : (wheelsI ns).length = min 63 ns.length := by
  unfold wheelsI
  rw [List.length_map, List.length_range, List.length_take]
theorem wheels_bd {ns : List Int} {w : Int} (h : w ∈ wheelsI ns) : 1 ≤ w ∧ w ≤ 10 ^ 59 := by
  obtain ⟨i, _, rfl⟩ := List.mem_map.mp h
  exact size_bd (kind_bd _).1 (kind_bd _).2
theorem wheels_pos (ns : List Int) : Pos (wheelsI ns) := fun w h => (wheels_bd h).1
theorem lim59 : (10 : Int) ^ 59 < 2 ^ 250 := by decide
theorem wheels_sm (ns : List Int) : Sm (wheelsI ns) := ⟨by rw [wheels_len]; omega, fun w h => by have := (wheels_bd h).1; omega, fun w h => by have := (wheels_bd h).2; have := lim59; omega⟩
def sp_law_wheels (K : PySem.W.Frag) (_ : Cs) : Sp := fun vs H Q _ => ∃ (a : Addr) (ns : List Int), vs = [.ref a] ∧ SqL K H a (ns.map V.int) ∧ RetL ((wheelsI ns).map V.int) H Q
theorem spl_wheels {K : PySem.W.Frag} {C : Cs} {H : Hp} {a : Addr} {ns : List Int} (h1 : SqL K H a (ns.map V.int)) : SpL (sp_law_wheels K C) [.ref a] H ((wheelsI ns).map V.int) :=
  fun H1 e Q q E => ⟨a, ns, rfl, ex_l e h1, fun p H2 hp e2 h2 => q p H2 hp e2 h2⟩
theorem ok_law_wheels {P : Program} {w : World} {K : PySem.W.Frag} {mg : Str → Option Value} {base : Heap} {C : Cs} (T : Txt K mg C) : Cl P w K mg base CX0 2 "_law_wheels" ["_law_script"] (sp_law_wheels K C) := by
  have c_law_draw := ok_law_draw (P := P) (w := w) (base := base) T
  have c_law_cell_at := ok_law_cell_at (P := P) (w := w) (base := base) T
  refine cl0 T.d_law_wheels sc_law_wheels (fun vs H Q E h => ?_) (fun f cdv A outer s H vs Q E hr h => ?_)
  · obtain ⟨a, ns, rfl, hS, kk⟩ := h
    rfl
  · obtain ⟨a, ns, rfl, hS, kk⟩ := h
    refine ⟨_, (pss_cons (ps_set (i := 0) sc_law_wheels.nd rfl (.inl rfl) (pe_slice (sl_listK (K := K) rfl) (pv 0) po_none (po_some pe_int)))
    (pss_cons (ps_set (i := 1) sc_law_wheels.nd rfl (.inl rfl) (pe_cl c_law_draw (hr.mono (by decide)) (by rfl) pass0 (pa_cons (pe_cl c_law_cell_at (hr.mono (by decide)) (by rfl) pass0 (pa_cons (pv 0) (pa_cons pe_int pa_nil))) (pa_cons pe_int (pa_cons pe_int pa_nil)))))
    (pss_cons (ps_set (i := 2) sc_law_wheels.nd rfl (.inl rfl) (pe_lst pa_nil))
    (pss_cons (ps_for PassesOwn.never rfl (pi_range1 (by rfl) T.b_range (pa_cons (pe_callB (call_lenK (K := K) rfl) (by rfl) T.b_len PySem.boot_len (pa_cons (pv 0) pa_nil)) pa_nil)) (pg_name (i := 3) sc_law_wheels.nd rfl (.inl rfl))
    (pss_cons (ps_set (i := 4) sc_law_wheels.nd rfl (.inl rfl) (pe_op op_add pe_int (pe_cl c_law_draw (hr.mono (by decide)) (by rfl) pass0 (pa_cons (pe_ix (ix_listK (K := K) rfl) (pv 0) (pv 3) (fun _ _ => rfl)) (pa_cons (pe_op op_add (pe_op op_mod (pv 3) pe_int) pe_int) (pa_cons (pe_ix (ix_tupK (K := K) rfl) (pe_tup (pa_cons pe_int (pa_cons pe_int (pa_cons pe_int (pa_cons pe_int (pa_cons pe_int (pa_cons pe_int pa_nil))))))) (pv 1) (fun _ _ => rfl)) pa_nil))))))
    (pss_cons (ps_if (pt_cmpR op_eq (pv 1) pe_int (nomark _)) (pss_one (ps_set (i := 4) sc_law_wheels.nd rfl (.inl rfl) (pe_op op_add (pe_op op_mulA (pe_op op_fdiv (pv 4) pe_int) pe_int) pe_int))) pss_nil)
    (pss_cons (ps_if (PW.pt (pw_and (pt_cmpR op_eq (pv 1) pe_int (nomark _)) (pw_and1 (pt_cmpR op_gt (pv 3) pe_int (nomark _))))) (pss_one (ps_set (i := 4) sc_law_wheels.nd rfl (.inl rfl) pe_int)) pss_nil)
    (pss_cons (ps_if (pt_cmpR op_eq (pv 1) pe_int (nomark _)) (pss_one (ps_set (i := 4) sc_law_wheels.nd rfl (.inl rfl) (pe_op op_add pe_int (pe_op op_mod (pe_op op_fdiv (pe_ix (ix_listK (K := K) rfl) (pv 0) (pv 3) (fun _ _ => rfl)) pe_int) (pe_op op_pow pe_int pe_int))))) pss_nil)
    (pss_one (ps_expr (pe_bm PySem.F.plainAttrs_list PySem.F.slot_list_append PySem.F.type_list_append mt_append (pv 2) (pa_cons (pv 4) pa_nil)))))))))
    (pss_one (ps_ret (pv 2))))))), ?_⟩
    dsimp only [cxOf, Cx.nox, Cx.wish, L2.start, List.map_cons, List.map_nil, List.length_cons, List.length_nil, List.cons_append, List.nil_append]
    refine q_asgL (el_sl (ev_var rfl) eo_none (eo_some ev_c) hS) fun c H1 hc e1 h1 => ?_
    rw [show ((63 : Int)) = ((63 : Nat) : Int) from rfl, cut_to, ← List.map_take] at h1
    have hl : (ns.take 63).length ≤ 63 := List.length_take_le ..
    generalize hs : ns.take 63 = s at h1 hl
    have kb := kind_bd s
    refine q_asg (v := .int (kindI s)) (ev_call (ea_cons (ev_call (ea_cons (ev_var rfl) (ea_cons ev_c ea_nil)) (spv_cell (ns := s) (sq_of h1) (by decide))) (by walk_at "ea")) (spv_draw (m := 6) (by decide))) fun H2 e2 => ?_
    refine q_asgL (el_lst ea_nil (Nat.zero_le _)) fun l H3 hl3 e3 h3 => ?_
    have hS3 : SqL K H3 c (s.map V.int) := sq_of (e3 _ _ (e2 _ _ h1))
    have hn : Ex H H2 := e1.trans e2
    refine q_forR1 (n := (s.length : Int)) (by walk_at "ea") (by omega) (fun i σ' H' => ∃ v3 v4, σ' = [some (.ref c), some (.int (kindI s)), some (.ref l), v3, v4] ∧ Ex H2 H' ∧ H' l = some (.lst (((List.range i).map fun i => sizeI (kindI s) (s.getD i 0) (i : Int)).map V.int)))
      (fun H4 e4 => ⟨none, none, rfl, e3.trans e4, e4 _ _ h3⟩) (fun i σ' H' hi ⟨v3, v4, es, e, eo⟩ => ?_) (fun σ' H' ⟨v3, v4, es, e, eo⟩ => ?_)
    · subst es
      have hS' : SqL K H' c (s.map V.int) := sq_of (e _ _ (e2 _ _ h1))
      have m1 := menu_pos (i := (kindI s).toNat) (by omega)
      have m2 := menu_len
      refine q_asg (v := .int (size0 (kindI s) (s.getD i 0) (i : Int))) (ev_op ev_c (ev_call (ea_cons (by walk_at "ev") (ea_cons (by walk_at "ev") (ea_cons (ev_ixU (xs := menuI.map V.int) (i := kindI s) (eu_tup (by show EvA _ _ _ [.int 4, .int 2, .int 9, .int 40, .int 3, .int 1]; walk_at "ea") (by show (6 : Nat) ≤ 100000; decide)) (fun H1 e => ev_var rfl) (at_intZ (by omega) (by omega))) ea_nil))) (spv_draw m1.1)) rv_I0) fun H5 e5 => ?_
      refine q_ifI (c := kindI s = 2) (e0 := size0 (kindI s) (s.getD i 0) (i : Int)) (e1 := size0 (kindI s) (s.getD i 0) (i : Int) / 2 * 2 + 1) (by walk_at "et") rfl (fun _ => by walk_at "ev") fun H6 e6 => ?_
      refine q_ifI (c := kindI s = 4 ∧ 2 < (i : Int)) (e0 := size1 (kindI s) (s.getD i 0) (i : Int)) (e1 := 1) (et_tt (by walk_at "et") dec_and) rfl (fun _ => by walk_at "ev") fun H7 e7 => ?_
      have hS7 : SqL K H7 c (s.map V.int) := ex_l ((e5.trans e6).trans e7) hS'
      refine q_ifI (c := kindI s = 5) (e0 := size2 (kindI s) (s.getD i 0) (i : Int)) (e1 := 1 + s.getD i 0 / 7 % 10 ^ (59 : Int).toNat) (by walk_at "et") rfl (fun _ => by walk_at "ev") fun H8 e8 => ?_
      refine s_app (l := l) ((((e5.trans e6).trans e7).trans e8) _ _ eo) (ev_var rfl) (v := .int (sizeI (kindI s) (s.getD i 0) (i : Int))) (ev_var rfl) (by rw [range_map_len]; omega) fun H9 e9 => ?_
      refine ⟨some (.int (i : Int)), some (.int (sizeI (kindI s) (s.getD i 0) (i : Int))), rfl, Ex.mut (e.trans ((((e5.trans e6).trans e7).trans e8).trans e9)) hl3, ?_⟩
      rw [upd_same, range_map_succ]
    · subst es
      rw [Int.toNat_natCast] at eo
      refine s_ret (ev_var rfl) fun H4 e4 => kk l H4 (fresh_back hn hl3) ((hn.trans e).trans e4) ?_
      rw [e4 _ _ eo]
      unfold wheelsI
      rw [hs]
def farN (s : List Int) (by_ : Int) : Nat → Int
  | 0 => 0
  | i + 1 => farN s by_ i * 1000003 + s.getD i 0 / 11 + drawI (s.getD i 0) ((i : Int) % 3 + by_) 1000003
def farI (s : List Int) (by_ m : Int) : Int := farN s by_ s.length % m
theorem far_bd {s : List Int} {b m : Int} (h : 0 < m) : 0 ≤ farI s b m ∧ farI s b m < m := ⟨Int.emod_nonneg _ (by omega), Int.emod_lt_of_pos _ h⟩
def sp_law_far (K : PySem.W.Frag) (_ : Cs) : Sp := fun vs H Q _ => ∃ (a : Addr) (ns : List Int) (b m : Int), vs = [.ref a, .int b, .int m] ∧ SqL K H a (ns.map V.int) ∧ ns.length ≤ 1000 ∧ 0 < m ∧ RetV (.int (farI ns b m)) H Q
theorem spv_far {K : PySem.W.Frag} {C : Cs} {H : Hp} {a : Addr} {ns : List Int} {b m : Int} (h1 : SqL K H a (ns.map V.int)) (h2 : ns.length ≤ 1000) (h : 0 < m) : SpV (sp_law_far K C) [.ref a, .int b, .int m] H (.int (farI ns b m)) :=
  fun H1 e Q q E => ⟨a, ns, b, m, rfl, ex_l e h1, h2, h, q⟩
/-! ### settings drawn -/
def set0 (c w k b : Int) : Int := (c / 3 + drawI c (k % 4 + b) 1000003) % w
def set1 (kind c w k b : Int) : Int := if kind = 1 ∧ 0 < set0 c w k b % 3 then w - 1 else set0 c w k b
def set2 (kind c w k b : Int) : Int := if kind = 2 ∧ 0 < set1 kind c w k b % 3 then 0 else set1 kind c w k b
theorem set_bd {kind c w k b : Int} (h : 1 ≤ w) : 0 ≤ set2 kind c w k b ∧ set2 kind c w k b < w := by
  have z0 : 0 ≤ set0 c w k b ∧ set0 c w k b < w := ⟨Int.emod_nonneg _ (by omega), Int.emod_lt_of_pos _ (by omega)⟩
  have z1 : 0 ≤ set1 kind c w k b ∧ set1 kind c w k b < w := by unfold set1; split <;> omega
  unfold set2
  split <;> omega
def settingI (ns ws : List Int) (b : Int) : List Int := (List.range ws.length).map fun i => set2 (drawI (ns.getD 1 0) b 3) (ns.getD i 0) (ws.getD i 0) (i : Int) b
theorem inS_range : ∀ {ws : List Int} (f : Nat → Int), (∀ i, i < ws.length → 0 ≤ f i ∧ f i < ws.getD i 0) → InS ws ((List.range ws.length).map f)
  | [], _, _ => trivial
  | w :: ws, f, h => by
    rw [List.length_cons, List.range_succ_eq_map, List.map_cons, List.map_map]
    exact ⟨h 0 (by simp), inS_range (f ∘ Nat.succ) fun i hi => h (i + 1) (by simpa using hi)⟩
theorem setting_in {ns ws : List Int} {b : Int} (h : Pos ws) : InS ws (settingI ns ws b) := inS_range _ fun i hi => set_bd (h _ (getD_mem hi))
theorem setting_len (ns ws : List Int) (b : Int) : (settingI ns ws b).length = ws.length := by
  unfold settingI
  rw [List.length_map, List.length_range]
def sp_law_setting (K : PySem.W.Frag) (_ : Cs) : Sp := fun vs H Q _ => ∃ (a c : Addr) (ns ws : List Int) (b : Int), vs = [.ref a, .ref c, .int b] ∧ SqL K H a (ns.map V.int) ∧ SqL K H c (ws.map V.int) ∧ ws.length ≤ ns.length ∧ ws.length ≤ 1000 ∧ Pos ws ∧ RetL ((settingI ns ws b).map V.int) H Q
theorem spl_setting {K : PySem.W.Frag} {C : Cs} {H : Hp} {a c : Addr} {ns ws : List Int} {b : Int} (h1 : SqL K H a (ns.map V.int)) (h2 : SqL K H c (ws.map V.int)) (h3 : ws.length ≤ ns.length) (h4 : ws.length ≤ 1000) (h5 : Pos ws) : SpL (sp_law_setting K C) [.ref a, .ref c, .int b] H ((settingI ns ws b).map V.int) :=
  fun H1 e Q q E => ⟨a, c, ns, ws, b, rfl, ex_l e h1, ex_l e h2, h3, h4, h5, fun p H2 hp e2 h2 => q p H2 hp e2 h2⟩
theorem ok_law_setting {P : Program} {w : World} {K : PySem.W.Frag} {mg : Str → Option Value} {base : Heap} {C : Cs} (T : Txt K mg C) : Cl P w K mg base CX0 2 "_law_setting" ["_law_script", "_law_wheels_here", "_law_by"] (sp_law_setting K C) := by
  have c_law_draw := ok_law_draw (P := P) (w := w) (base := base) T
  have c_law_cell_at := ok_law_cell_at (P := P) (w := w) (base := base) T
  refine cl0 T.d_law_setting sc_law_setting (fun vs H Q E h => ?_) (fun f cdv A outer s H vs Q E hr h => ?_)
  · obtain ⟨a, c, ns, ws, b, rfl, hS, hW, hle, hl, hp, kk⟩ := h
    rfl
  · obtain ⟨a, c, ns, ws, b, rfl, hS, hW, hle, hl, hp, kk⟩ := h
    refine ⟨_, (pss_cons (ps_set (i := 3) sc_law_setting.nd rfl (.inl rfl) (pe_cl c_law_draw (hr.mono (by decide)) (by rfl) pass0 (pa_cons (pe_cl c_law_cell_at (hr.mono (by decide)) (by rfl) pass0 (pa_cons (pv 0) (pa_cons pe_int pa_nil))) (pa_cons (pv 2) (pa_cons pe_int pa_nil)))))
    (pss_cons (ps_set (i := 4) sc_law_setting.nd rfl (.inl rfl) (pe_lst pa_nil))
    (pss_cons (ps_for PassesOwn.never rfl (pi_enum (by rfl) T.b_enumerate (pa_cons (pv 1) pa_nil)) (pg_tupK (K := K) rfl rfl (pgs_cons (pg_name (i := 5) sc_law_setting.nd rfl (.inl rfl)) (pgs_cons (pg_name (i := 6) sc_law_setting.nd rfl (.inl rfl)) pgs_nil)))
    (pss_cons (ps_set (i := 7) sc_law_setting.nd rfl (.inl rfl) (pe_op op_mod (pe_op op_add (pe_op op_fdiv (pe_ix (ix_listK (K := K) rfl) (pv 0) (pv 5) (fun _ _ => rfl)) pe_int) (pe_cl c_law_draw (hr.mono (by decide)) (by rfl) pass0 (pa_cons (pe_ix (ix_listK (K := K) rfl) (pv 0) (pv 5) (fun _ _ => rfl)) (pa_cons (pe_op op_add (pe_op op_mod (pv 5) pe_int) (pv 2)) (pa_cons pe_int pa_nil))))) (pv 6)))
    (pss_cons (ps_if (PW.pt (pw_and (pt_cmpR op_eq (pv 3) pe_int (nomark _)) (pw_and1 (pt_cmpR op_gt (pe_op op_mod (pv 7) pe_int) pe_int (nomark _))))) (pss_one (ps_set (i := 7) sc_law_setting.nd rfl (.inl rfl) (pe_op op_sub (pv 6) pe_int))) pss_nil)
    (pss_cons (ps_if (PW.pt (pw_and (pt_cmpR op_eq (pv 3) pe_int (nomark _)) (pw_and1 (pt_cmpR op_gt (pe_op op_mod (pv 7) pe_int) pe_int (nomark _))))) (pss_one (ps_set (i := 7) sc_law_setting.nd rfl (.inl rfl) pe_int)) pss_nil)
    (pss_one (ps_expr (pe_bm PySem.F.plainAttrs_list PySem.F.slot_list_append PySem.F.type_list_append mt_append (pv 4) (pa_cons (pv 7) pa_nil))))))))
    (pss_one (ps_ret (pv 4)))))), ?_⟩
    dsimp only [cxOf, Cx.nox, Cx.wish, L2.start, List.map_cons, List.map_nil, List.length_cons, List.length_nil, List.cons_append, List.nil_append]
    refine q_asg (v := .int (drawI (ns.getD 1 0) b 3)) (ev_call (ea_cons (ev_call (ea_cons (ev_var rfl) (ea_cons ev_c ea_nil)) (spv_cell hS (by decide))) (by walk_at "ea")) (spv_draw (m := 3) (by decide))) fun H1 e1 => ?_
    unfold settingI at kk
    generalize drawI (ns.getD 1 0) b 3 = kd at kk
    refine q_asgL (el_lst ea_nil (Nat.zero_le _)) fun l H2 hl2 e2 h2 => ?_
    have hW2 := ex_l (e1.trans e2) hW
    refine q_forE (K := K) (a := c) (xs := ws.map V.int) (by walk_at "ea") hW2 (fun i σ' H' => ∃ v5 v6 v7, σ' = [some (.ref a), some (.ref c), some (.int b), some (.int kd), some (.ref l), v5, v6, v7] ∧ Ex H1 H' ∧ H' l = some (.lst (((List.range i).map fun i => set2 kd (ns.getD i 0) (ws.getD i 0) (i : Int) b).map V.int)))
      (fun H3 e3 => ⟨none, none, none, rfl, e2.trans e3, e3 _ _ h2⟩) (fun i σ' H' _ ⟨_, _, _, _, e, _⟩ => ex_l (e1.trans e) hW) (fun i x σ' H' H3 hx ⟨v5, v6, v7, es, e, eo⟩ e3 => ?_) (fun σ' H' ⟨v5, v6, v7, es, e, eo⟩ => ?_)
    · subst es
      obtain ⟨w, rfl, hw, hm⟩ := map_get hx
      have ew : ws.getD i 0 = w := by rw [List.getD_eq_getElem?_getD, hw]; rfl
      have hi := (List.getElem?_eq_some_iff.mp hw).1
      have w1 := hp w hm
      have hS3 := ex_l ((e1.trans e).trans e3) hS
      refine q_asg (v := .int (set0 (ns.getD i 0) w (i : Int) b)) (ev_op (ev_op (by walk_at "ev") (ev_call (ea_cons (by walk_at "ev") (ea_cons (by walk_at "ev") (ea_cons ev_c ea_nil))) (spv_draw (m := 1000003) (by decide))) rv_I0) (ev_var rfl) (rv_I (by omega))) fun H4 e4 => ?_
      refine q_ifI (c := kd = 1 ∧ 0 < set0 (ns.getD i 0) w (i : Int) b % 3) (e0 := set0 (ns.getD i 0) w (i : Int) b) (e1 := w - 1) (et_tt (by walk_at "et") dec_and) rfl (fun _ => by walk_at "ev") fun H5 e5 => ?_
      refine q_ifI (c := kd = 2 ∧ 0 < set1 kd (ns.getD i 0) w (i : Int) b % 3) (e0 := set1 kd (ns.getD i 0) w (i : Int) b) (e1 := 0) (et_tt (by walk_at "et") dec_and) rfl (fun _ => by walk_at "ev") fun H6 e6 => ?_
      refine s_app (l := l) ((((e3.trans e4).trans e5).trans e6) _ _ eo) (ev_var rfl) (v := .int (set2 kd (ns.getD i 0) w (i : Int) b)) (ev_var rfl) (by rw [range_map_len]; omega) fun H7 e7 => ?_
      refine ⟨some (.int (i : Int)), some (.int w), some (.int (set2 kd (ns.getD i 0) w (i : Int) b)), rfl, Ex.mut (e.trans ((((e3.trans e4).trans e5).trans e6).trans e7)) hl2, ?_⟩
      rw [upd_same, range_map_succ, ew]
    · subst es
      rw [List.length_map] at eo
      exact s_ret (ev_var rfl) fun H4 e4 => kk l H4 (fresh_back e1 hl2) ((e1.trans e).trans e4) (e4 _ _ eo)
/-! ### counts, settings, steps reckoned by the law -/
def sp_law_count (K : PySem.W.Frag) (_ : Cs) : Sp := fun vs H Q _ => ∃ (a : Addr) (ws : List Int), vs = [.ref a] ∧ SqL K H a (ws.map V.int) ∧ Sm ws ∧ RetV (.int (cnt ws)) H Q
theorem spv_law_count {K : PySem.W.Frag} {C : Cs} {H : Hp} {a : Addr} {ws : List Int} (h1 : SqL K H a (ws.map V.int)) (h : Sm ws) : SpV (sp_law_count K C) [.ref a] H (.int (cnt ws)) :=
  fun H1 e Q q E => ⟨a, ws, rfl, ex_l e h1, h, q⟩
theorem ok_law_count {P : Program} {w : World} {K : PySem.W.Frag} {mg : Str → Option Value} {base : Heap} {C : Cs} (T : Txt K mg C) : Cl P w K mg base CX0 1 "_law_count" ["_law_wheels_here"] (sp_law_count K C) := by
  refine cl0 T.d_law_count sc_law_count (fun vs H Q E h => ?_) (fun f cdv A outer s H vs Q E hr h => ?_)
  · obtain ⟨a, ws, rfl, hW, hm, k⟩ := h
    rfl
  · obtain ⟨a, ws, rfl, hW, hm, k⟩ := h
    refine ⟨_, (pss_cons (ps_set (i := 1) sc_law_count.nd rfl (.inl rfl) pe_int)
    (pss_cons (ps_for PassesOwn.never rfl (pi_listK (K := K) rfl (pv 0)) (pg_name (i := 2) sc_law_count.nd rfl (.inl rfl))
    (pss_one (ps_set (i := 1) sc_law_count.nd rfl (.inl rfl) (pe_op op_mulA (pv 1) (pv 2)))))
    (pss_one (ps_ret (pv 1))))), ?_⟩
    dsimp only [cxOf, Cx.nox, Cx.wish, L2.start, List.map_cons, List.map_nil, List.length_cons, List.length_nil, List.cons_append, List.nil_append]
    refine q_asg ev_c fun H1 e1 => ?_
    refine q_forLn (K := K) (a := a) (xs := ws.map V.int) (ev_var rfl) (ex_l e1 hW) (fun i σ' H' => ∃ v, σ' = [some (.ref a), some (.int (cnt (ws.take i))), v] ∧ Ex H H') (fun H2 e2 => ⟨_, rfl, e1.trans e2⟩) (fun i σ' H' _ ⟨_, _, e⟩ => ex_l e hW) ?_ ?_
    · rintro i x σ' H' hx ⟨v, rfl, e⟩
      obtain ⟨w, rfl, hw, hm'⟩ := map_get hx
      have hM : IntMulOk (cnt (ws.take i)) w := mulX (hm.mulX hm')
      refine s_asg (v := .int (cnt (ws.take i) * w)) (by walk_at "ev") fun H2 e2 => ⟨some (.int w), ?_, e.trans e2⟩
      rw [take_succ_of hw, cnt_snoc]
      rfl
    · rintro σ' H' ⟨v, rfl, e⟩
      refine s_ret (ev_var rfl) fun H2 e2 => ?_
      rw [List.length_map, List.take_length]
      exact k H2 (e.trans e2)
def sp_law_whole (K : PySem.W.Frag) (_ : Cs) : Sp := fun vs H Q _ => ∃ (v : V) (kd : Kd), vs = [v] ∧ Thg K H v kd ∧ RetV (.bl kd.whole) H Q
theorem spv_law_whole {K : PySem.W.Frag} {C : Cs} {H : Hp} {i : Int} : SpV (sp_law_whole K C) [.int i] H (.bl true) := fun H1 e Q q E => ⟨_, _, rfl, .int i, q⟩
def sp_law_step (K : PySem.W.Frag) (_ : Cs) : Sp := fun vs H Q _ => ∃ (a b : Addr) (xs ys : List Int), vs = [.ref a, .ref b] ∧ SqL K H a (xs.map V.int) ∧ SqL K H b (ys.map V.int) ∧ xs.length = ys.length ∧ xs.length ≤ 40000 ∧ RetV (.bl (decide (dist xs ys = 1))) H Q
theorem spv_step {K : PySem.W.Frag} {C : Cs} {H : Hp} {a b : Addr} {xs ys : List Int} (h1 : SqL K H a (xs.map V.int)) (h2 : SqL K H b (ys.map V.int)) (h3 : xs.length = ys.length) (h4 : xs.length ≤ 40000) : SpV (sp_law_step K C) [.ref a, .ref b] H (.bl (decide (dist xs ys = 1))) :=
  fun H1 e Q q E => ⟨a, b, xs, ys, rfl, ex_l e h1, ex_l e h2, h3, h4, q⟩
theorem ev_dist {K : PySem.W.Frag} {H : Hp} {σ : L2.St} {ta : TA} {te : TE} {j : Nat} {vs : List Nat} {xs ys : List Int} (h : EvA ta σ H [.int (xs.length : Int)]) (hl : xs.length = ys.length) (hz : xs.length ≤ 40000) (hw : ∀ x, wipe ((wipe σ vs).set j (some x)) vs = wipe σ vs)
    (he : ∀ (i : Nat) H1, Ex H H1 → i < xs.length → Ev te ((wipe σ vs).set j (some (.int (i : Int)))) H1 (.int (iabs (xs.getD i 0 - ys.getD i 0)))) :
    Ev (tCB (rSum K) (tCons (tLc (iRng1 ta) (gName j) tYes te vs) tNil)) σ H (.int (dist xs ys)) := by
  rw [← dist_sum xs ys hl]
  refine ev_sumN (el_range (n := xs.length) (by rw [List.length_map, List.length_map, List.length_range]) h hz hw fun i y H1 e hi hy => ?_)
  rw [List.map_map, List.getElem?_map, List.getElem?_range hi] at hy
  cases hy
  exact he i H1 e hi
def sp_law_is_setting (K : PySem.W.Frag) (_ : Cs) : Sp := fun vs H Q _ => ∃ (a b : Addr) (ws ss : List Int), vs = [.ref a, .ref b] ∧ SqL K H a (ws.map V.int) ∧ SqL K H b (ss.map V.int) ∧ ws.length ≤ 40000 ∧ ss.length ≤ 40000 ∧ RetV (.bl (setOk ws (ss.map Kd.int))) H Q
theorem spv_law_is_setting {K : PySem.W.Frag} {C : Cs} {H : Hp} {a b : Addr} {ws ss : List Int} (h1 : SqL K H a (ws.map V.int)) (h2 : SqL K H b (ss.map V.int)) (h3 : ws.length ≤ 40000) (h4 : ss.length ≤ 40000) : SpV (sp_law_is_setting K C) [.ref a, .ref b] H (.bl (setOk ws (ss.map Kd.int))) :=
  fun H1 e Q q E => ⟨a, b, ws, ss, rfl, ex_l e h1, ex_l e h2, h3, h4, q⟩
theorem any_false (n : Nat) : ((List.replicate n false)).any id = false := by
  induction n with
  | zero => rfl
  | succ n ih => rw [List.replicate_succ, List.any_cons, ih]; rfl
theorem ok_law_is_setting {P : Program} {w : World} {K : PySem.W.Frag} {mg : Str → Option Value} {base : Heap} {C : Cs} (T : Txt K mg C) : Cl P w K mg base CX0 1 "_law_is_setting" ["_law_wheels_here", "_law_found"] (sp_law_is_setting K C) := by
  refine cl0 T.d_law_is_setting sc_law_is_setting (fun vs H Q E h => ?_) (fun f cdv A outer s H vs Q E hr h => ?_)
  · obtain ⟨a, b, ws, ss, rfl, hW, hS, hwl, hsl, k⟩ := h
    rfl
  · obtain ⟨a, b, ws, ss, rfl, hW, hS, hwl, hsl, k⟩ := h
    refine ⟨_, (pss_cons (ps_if (PW.pt (pw_or (pt_not (pt_val (pe_callB (call_isiK' (K := K) rfl) (by rfl) T.b_isinstance (by decide +kernel) (pa_cons (pv 1) (pa_cons (pe_bltn (by rfl) T.b_list (by decide +kernel) (v := .ty "list") rfl) pa_nil))) (by intro _; rfl))) (pw_or1 (pt_cmpR op_ne (pe_callB (call_lenK (K := K) rfl) (by rfl) T.b_len PySem.boot_len (pa_cons (pv 1) pa_nil)) (pe_callB (call_lenK (K := K) rfl) (by rfl) T.b_len PySem.boot_len (pa_cons (pv 0) pa_nil)) (nomark _))))) (pss_one (ps_ret pe_bl)) pss_nil)
    (pss_cons (ps_if (pt_val (pe_callB (cr_anyK (K := K) rfl rfl) (by rfl) T.b_any (by decide +kernel) (pa_cons (pe_lc (own := [("_law_one", 2)]) (g := gName 2) (tt := tYes) rfl sc_law_is_setting.nd (pi_listK (K := K) rfl (pv 1)) (blkOk_by (N := ["_law_wheels_here", "_law_found", "_law_one", "_law_k"]) (sc := defScope S_law_is_setting) (own := [("_law_one", 2)]) (by decide +kernel)) (fun _ _ _ _ _ => (pg_name (i := 2) sc_law_is_setting.nd rfl (.inl rfl))) (fun _ _ _ _ _ => pts_nil) (fun _ _ _ _ _ => (pe_or (pe_callB (call_isiK' (K := K) rfl) (by rfl) T.b_isinstance (by decide +kernel) (pa_cons (pv 2) (pa_cons (pe_bltn (by rfl) T.b_bool (by decide +kernel) (v := .ty "bool") rfl) pa_nil))) (pe_one (pe_not (pe_callB (call_isiK' (K := K) rfl) (by rfl) T.b_isinstance (by decide +kernel) (pa_cons (pv 2) (pa_cons (pe_bltn (by rfl) T.b_int (by decide +kernel) (v := .ty "int") rfl) pa_nil)))))))) pa_nil)) (by intro _; rfl)) (pss_one (ps_ret pe_bl)) pss_nil)
    (pss_one (ps_ret (pe_callB (cr_allK (K := K) rfl rfl) (by rfl) T.b_all (by decide +kernel) (pa_cons (pe_lc (own := [("_law_k", 3)]) (g := gName 3) (tt := tYes) rfl sc_law_is_setting.nd (pi_range1 (by rfl) T.b_range (pa_cons (pe_callB (call_lenK (K := K) rfl) (by rfl) T.b_len PySem.boot_len (pa_cons (pv 0) pa_nil)) pa_nil)) (blkOk_by (N := ["_law_wheels_here", "_law_found", "_law_one", "_law_k"]) (sc := defScope S_law_is_setting) (own := [("_law_k", 3)]) (by decide +kernel)) (fun _ _ _ _ _ => (pg_name (i := 3) sc_law_is_setting.nd rfl (.inl rfl))) (fun _ _ _ _ _ => pts_nil) (fun _ _ _ _ _ => (pe_chain op_le op_lt pe_int (pe_ix (ix_listK (K := K) rfl) (pv 1) (pv 3) (fun _ _ => rfl)) (pe_ix (ix_listK (K := K) rfl) (pv 0) (pv 3) (fun _ _ => rfl))))) pa_nil)))))), ?_⟩
    dsimp only [cxOf, Cx.nox, Cx.wish, L2.start, List.map_cons, List.map_nil, List.length_cons, List.length_nil, List.cons_append, List.nil_append]
    refine q_when (b := (!true || !decide ((ss.length : Int) = (ws.length : Int)))) (et_or (et_not (et_B (ev_cb (ea_cons (ev_var rfl) (ea_cons ev_c ea_nil)) (rc_isi (Thg.lst hS) fun _ => kd_list)))) fun q => by walk_at "et") (fun q H1 e => ?_) (fun q H1 e => ?_)
    · refine s_ret ev_c fun H2 e2 => ?_
      have hne : setOk ws (ss.map Kd.int) = false := by
        cases h : setOk ws (ss.map Kd.int) with
        | false => rfl
        | true =>
          have h1 := setOk_len h
          rw [List.length_map] at h1
          rw [decide_eq_true (show (ss.length : Int) = (ws.length : Int) by omega)] at q
          cases q
      rw [hne] at k
      exact k _ (e.trans e2)
    · have hlen : ss.length = ws.length := by
        by_cases h : (ss.length : Int) = (ws.length : Int)
        · omega
        · rw [decide_eq_false h] at q; cases q
      have hS1 := ex_l e hS
      refine q_when (b := false) ?_ (fun q => nomatch q) (fun _ H2 e2 => ?_)
      · have ef := any_false ss.length
        refine et_tt (et_B (ev_anyN (bs := List.replicate ss.length false) (el_list (by rw [List.length_map, List.length_map, List.length_replicate]) (ev_var rfl) hS1 (by rw [List.length_map]; exact hsl) (fun _ => rfl) fun i x y H2 e2 hx hy => ?_))) ef
        obtain ⟨z, rfl, hz, _⟩ := map_get hx
        rw [List.map_replicate] at hy
        have ey : y = .bl false := (List.mem_replicate.mp (List.mem_of_getElem? hy)).2
        subst ey
        exact ev_orV (a := false) (b := false) (ev_cb (ea_cons (ev_var rfl) (ea_cons ev_c ea_nil)) (rc_isi (Thg.int z) fun _ => kd_bool)) fun _ => ev_notV (a := true) (ev_cb (ea_cons (ev_var rfl) (ea_cons ev_c ea_nil)) (rc_isi (Thg.int z) fun _ => kd_int))
      · have hW2 := ex_l (e.trans e2) hW
        have hS2 := ex_l (e.trans e2) hS
        refine s_ret (v := .bl (setOk ws (ss.map Kd.int))) ?_ fun H3 e3 => k _ ((e.trans e2).trans e3)
        rw [← setOk_range ws (ss.map Kd.int) (by rw [List.length_map]; exact hlen)]
        refine ev_allN (el_range (n := ws.length) (by rw [List.length_map, List.length_map, List.length_range]) (by walk_at "ea") hwl (fun _ => rfl) fun i y H3 e3 hi hy => ?_)
        rw [List.map_map, List.getElem?_map, List.getElem?_range hi] at hy
        cases hy
        have ek : (ss.map Kd.int).getD i .rest = .int (ss.getD i 0) := by
          have hi2 : i < ss.length := by omega
          rw [List.getD_eq_getElem?_getD, List.getD_eq_getElem?_getD, List.getElem?_map, List.getElem?_eq_getElem hi2]
          rfl
        show Ev _ _ _ (.bl (inR (ws.getD i 0) ((ss.map Kd.int).getD i .rest)))
        rw [ek]
        have hW3 := ex_l e3 hW2
        have hS3 := ex_l e3 hS2
        exact ev_to (ev_chainI (f := fun i j => decide (i ≤ j)) (f' := fun i j => decide (i < j)) (a := 0) (b := ss.getD i 0) (c := ws.getD i 0) ev_c (by walk_at "ev") fun _ => by walk_at "ev") rfl
/-! ### neighbours, near, apart -/
theorem cut_setV {ss : List Int} {k : Nat} (x : Int) (h : k < ss.length) : cutV (ss.map V.int) none (some (k : Int)) ++ [V.int x] ++ cutV (ss.map V.int) (some ((k : Int) + 1)) none = (ss.set k x).map V.int := by
  rw [cut_to, show ((k : Int) + 1) = ((k + 1 : Nat) : Int) from rfl, cut_from, ← set_cut x h, List.map_append, List.map_append, List.map_take, List.map_drop]
  rfl
/-- s[:k] + [x] + s[k + 1:] -/
theorem el_put {K : PySem.W.Frag} {H : Hp} {σ : L2.St} {t1 t2 t3 t4 te : TE} {p : Addr} {ss : List Int} {k : Nat} {x : Int} (hS : SqL K H p (ss.map V.int)) (hk : k < ss.length) (hl : ss.length ≤ 40000) (h1 : Ev t1 σ H (.ref p)) (h2 : Ev t2 σ H (.int (k : Int))) (hx : Ev te σ H (.int x)) (h3 : Ev t3 σ H (.ref p)) (h4 : Ev t4 σ H (.int ((k : Int) + 1))) :
    EvL (tOp (rCatQ K) (tOp (rCatQ K) (tSl (rSlL K) t1 tNoPart (tPart t2)) (tLst (tCons te tNil))) (tSl (rSlL K) t3 (tPart t4) tNoPart)) σ H ((ss.set k x).map V.int) := by
  rw [← cut_setV x hk]
  have l1 := cutV_length (ss.map V.int) none (some (k : Int))
  have l2 := cutV_length (ss.map V.int) (some ((k : Int) + 1)) none
  rw [List.length_map] at l1 l2
  exact el_catLL (el_catLL (el_sl h1 eo_none (eo_some h2) hS) (el_lst (ea_cons hx ea_nil) (by show 1 ≤ 100000; decide)) (by show _ + 1 ≤ 100000; omega)) (el_sl h3 (eo_some h4) eo_none hS) (by rw [List.length_append]; show _ + 1 + _ ≤ 100000; omega)
def sp_neighbours (K : PySem.W.Frag) (_ : Cs) : Sp := fun vs H Q _ => ∃ (a b : Addr) (ws ss : List Int), vs = [.ref a, .ref b] ∧ SqL K H a (ws.map V.int) ∧ SqL K H b (ss.map V.int) ∧ InS ws ss ∧ ws.length ≤ 1000 ∧ RetR K (sortL (nbs ws ss)) H Q
theorem spr_neighbours {K : PySem.W.Frag} {C : Cs} {H : Hp} {a b : Addr} {ws ss : List Int} (h1 : SqL K H a (ws.map V.int)) (h2 : SqL K H b (ss.map V.int)) (hi : InS ws ss) (hl : ws.length ≤ 1000) : SpR K (sp_neighbours K C) [.ref a, .ref b] H (sortL (nbs ws ss)) :=
  fun H1 e Q q E => ⟨a, b, ws, ss, rfl, ex_l e h1, ex_l e h2, hi, hl, q⟩
theorem ok_neighbours {P : Program} {w : World} {K : PySem.W.Frag} {mg : Str → Option Value} {base : Heap} {C : Cs} (T : Txt K mg C) : Cl P w K mg base CX0 1 "neighbours" ["wheels", "setting"] (sp_neighbours K C) := by
  refine cl0 T.d_neighbours sc_neighbours (fun vs H Q E h => ?_) (fun f cdv A outer s H vs Q E hr h => ?_)
  · obtain ⟨a, b, ws, ss, rfl, hW, hS, hi, hl, k⟩ := h
    rfl
  · obtain ⟨a, b, ws, ss, rfl, hW, hS, hi, hl, k⟩ := h
    refine ⟨_, (pss_cons (ps_set (i := 2) sc_neighbours.nd rfl (.inl rfl) (pe_lst pa_nil))
    (pss_cons (ps_for PassesOwn.never rfl (pi_enum (by rfl) T.b_enumerate (pa_cons (pv 1) pa_nil)) (pg_tupK (K := K) rfl rfl (pgs_cons (pg_name (i := 3) sc_neighbours.nd rfl (.inl rfl)) (pgs_cons (pg_name (i := 4) sc_neighbours.nd rfl (.inl rfl)) pgs_nil)))
    (pss_cons (ps_if (pt_cmpR op_gt (pv 4) pe_int (nomark _)) (pss_one (ps_expr (pe_bm PySem.F.plainAttrs_list PySem.F.slot_list_append PySem.F.type_list_append mt_append (pv 2) (pa_cons (pe_op (op_catK (K := K) rfl) (pe_op (op_catK (K := K) rfl) (pe_slice (sl_listK (K := K) rfl) (pv 1) po_none (po_some (pv 3))) (pe_lst (pa_cons (pe_op op_sub (pv 4) pe_int) pa_nil))) (pe_slice (sl_listK (K := K) rfl) (pv 1) (po_some (pe_op op_add (pv 3) pe_int)) po_none)) pa_nil)))) pss_nil)
    (pss_one (ps_if (pt_cmpR op_lt (pe_op op_add (pv 4) pe_int) (pe_ix (ix_listK (K := K) rfl) (pv 0) (pv 3) (fun _ _ => rfl)) (nomark _)) (pss_one (ps_expr (pe_bm PySem.F.plainAttrs_list PySem.F.slot_list_append PySem.F.type_list_append mt_append (pv 2) (pa_cons (pe_op (op_catK (K := K) rfl) (pe_op (op_catK (K := K) rfl) (pe_slice (sl_listK (K := K) rfl) (pv 1) po_none (po_some (pv 3))) (pe_lst (pa_cons (pe_op op_add (pv 4) pe_int) pa_nil))) (pe_slice (sl_listK (K := K) rfl) (pv 1) (po_some (pe_op op_add (pv 3) pe_int)) po_none)) pa_nil)))) pss_nil))))
    (pss_one (ps_ret (pe_callB (call_sortedK (K := K) rfl hr.units) (by rfl) T.b_sorted (by decide +kernel) (pa_cons (pv 2) pa_nil)))))), ?_⟩
    dsimp only [cxOf, Cx.nox, Cx.wish, L2.start, List.map_cons, List.map_nil, List.length_cons, List.length_nil, List.cons_append, List.nil_append]
    have hsl := hi.len
    refine q_asgL (el_lst ea_nil (Nat.zero_le _)) fun d H1 hd e1 h1 => ?_
    refine q_forE (K := K) (a := b) (xs := ss.map V.int) (by walk_at "ea") (ex_l e1 hS) (fun i σ' H' => ∃ v3 v4 xs, σ' = [some (.ref a), some (.ref b), some (.ref d), v3, v4] ∧ Ex H H' ∧ H' d = some (.lst xs) ∧ RowsA d H' xs (nbUp ws ss i))
      (fun H2 e2 => ⟨none, none, [], rfl, e1.trans e2, e2 _ _ h1, .nil⟩) (fun i σ' H' _ ⟨_, _, _, _, e, _⟩ => ex_l e hS) (fun i x σ' H' H2 hx ⟨v3, v4, xs, es, e, hxd, hr⟩ e2 => ?_) (fun σ' H' ⟨v3, v4, xs, es, e, hxd, hr⟩ => ?_)
    · subst es
      obtain ⟨s, rfl, hs, _⟩ := map_get hx
      have hik := (List.getElem?_eq_some_iff.mp hs).1
      have es : ss.getD i 0 = s := by rw [List.getD_eq_getElem?_getD, hs]; rfl
      have hS2 := ex_l (e.trans e2) hS
      have hW2 := ex_l (e.trans e2) hW
      have hll := hr.len
      have hnl := nbUp_len ws ss i
      refine q_ifApp (c := 0 < ss.getD i 0) (ns := ss.set i (ss.getD i 0 - 1)) (e2 _ _ hxd) (hr.mono e2) (by omega) (by rw [es]; walk_at "et") (ev_var rfl) (fun _ => el_put hS2 hik (by omega) (ev_var rfl) (ev_var rfl) (by rw [es]; walk_at "ev") (ev_var rfl) (by walk_at "ev")) fun xs1 H3 b3 h3 hr3 => ?_
      have e3 : Ex H H3 := b3.ex (e.trans e2) hd
      have hS3 := ex_l e3 hS
      have hW3 := ex_l e3 hW
      have hll3 := hr3.len
      rw [List.length_append] at hll3
      have h1l : (if 0 < ss.getD i 0 then [ss.set i (ss.getD i 0 - 1)] else []).length ≤ 1 := by split <;> simp
      have hiw : i < ws.length := by omega
      refine s_ifApp (c := ss.getD i 0 + 1 < ws.getD i 0) (ns := ss.set i (ss.getD i 0 + 1)) h3 hr3 (by omega) (by rw [es]; walk_at "et") (ev_var rfl) (fun _ => el_put hS3 hik (by omega) (ev_var rfl) (ev_var rfl) (by rw [es]; walk_at "ev") (ev_var rfl) (by walk_at "ev")) fun xs2 H4 b4 h4 hr4 => ?_
      refine ⟨some (.int (i : Int)), some (.int s), xs2, rfl, b4.ex e3 hd, h4, ?_⟩
      rw [List.append_assoc] at hr4
      exact hr4
    · subst es
      rw [List.length_map] at hr
      exact s_retR (er_sorted (ev_var rfl) (sq_of hxd) hr.rows) (k.mono e)
def sp_near (K : PySem.W.Frag) (C : Cs) : Sp := fun vs H Q E => ∃ (v s : V), vs = [v, s] ∧ Door K C H v E fun _ ws => ws.length ≤ 1000 ∧ DoorS K C H ws s E fun _ ss => RetR K (sortL (nbs ws ss)) H Q
theorem spr_near {K : PySem.W.Frag} {C : Cs} {H : Hp} {a b : Addr} {ws ss : List Int} (h1 : SqL K H a (ws.map V.int)) (h2 : Pos ws) (h3 : SqL K H b (ss.map V.int)) (hi : InS ws ss) (hl : ws.length ≤ 1000) : SpR K (sp_near K C) [.ref a, .ref b] H (sortL (nbs ws ss)) :=
  fun H1 e Q q E => ⟨_, _, rfl, .inr (.inr ⟨a, ws, rfl, ex_l e h1, h2, by omega, hl, .inr ⟨b, ss, rfl, ex_l e h3, hi, q⟩⟩)⟩
def sp_apart (K : PySem.W.Frag) (C : Cs) : Sp := fun vs H Q E => ∃ (v s t : V), vs = [v, s, t] ∧ Door K C H v E fun _ ws => DoorS K C H ws s E fun _ ss => DoorS K C H ws t E fun _ ts => RetV (.int (dist ss ts)) H Q
theorem spv_apart {K : PySem.W.Frag} {C : Cs} {H : Hp} {a b c : Addr} {ws ss ts : List Int} (h1 : SqL K H a (ws.map V.int)) (h2 : Pos ws) (hl : ws.length ≤ 1000) (h3 : SqL K H b (ss.map V.int)) (hi : InS ws ss) (h4 : SqL K H c (ts.map V.int)) (hi2 : InS ws ts) : SpV (sp_apart K C) [.ref a, .ref b, .ref c] H (.int (dist ss ts)) :=
  fun H1 e Q q E => ⟨_, _, _, rfl, .inr (.inr ⟨a, ws, rfl, ex_l e h1, h2, by omega, .inr ⟨b, ss, rfl, ex_l e h3, hi, .inr ⟨c, ts, rfl, ex_l e h4, hi2, q⟩⟩⟩)⟩
/-! ### answers -/
def turnN (ws : List Int) : Nat := ((List.range ws.length).filter fun i => decide (1 < ws.getD i 0)).length
theorem given_len_eq (n : Nat) (f : Nat → Bool) (w : Nat → V) : (given n f w).length = ((List.range n).filter f).length := by
  unfold given
  rw [List.length_map]
def sp_turning (K : PySem.W.Frag) (_ : Cs) : Sp := fun vs H Q _ => ∃ (a : Addr) (ws : List Int), vs = [.ref a] ∧ SqL K H a (ws.map V.int) ∧ ws.length ≤ 1000 ∧ RetL (given ws.length (fun i => decide (1 < ws.getD i 0)) fun i => .int (i : Int)) H Q
theorem spl_turning {K : PySem.W.Frag} {C : Cs} {H : Hp} {a : Addr} {ws : List Int} (h1 : SqL K H a (ws.map V.int)) (hl : ws.length ≤ 1000) : SpL (sp_turning K C) [.ref a] H (given ws.length (fun i => decide (1 < ws.getD i 0)) fun i => .int (i : Int)) :=
  fun H1 e Q q E => ⟨a, ws, rfl, ex_l e h1, hl, fun p H2 hp e2 h2 => q p H2 hp e2 h2⟩
theorem getD_of {ws : List Int} {i : Nat} {x : V} (h : (ws.map V.int)[i]? = some x) : x = .int (ws.getD i 0) := by
  obtain ⟨w, rfl, hw, _⟩ := map_get h
  rw [List.getD_eq_getElem?_getD, hw]
  rfl
theorem ok_turning {P : Program} {w : World} {K : PySem.W.Frag} {mg : Str → Option Value} {base : Heap} {C : Cs} (T : Txt K mg C) : Cl P w K mg base CX0 1 "turning" ["wheels"] (sp_turning K C) := by
  refine cl0 T.d_turning sc_turning (fun vs H Q E h => ?_) (fun f cdv A outer s H vs Q E hr h => ?_)
  · obtain ⟨a, ws, rfl, hW, hl, k⟩ := h
    rfl
  · obtain ⟨a, ws, rfl, hW, hl, k⟩ := h
    refine ⟨_, (pss_one (ps_ret (pe_lc (own := [("k", 1), ("size", 2)]) rfl sc_turning.nd (pi_enum (by rfl) T.b_enumerate (pa_cons (pv 0) pa_nil)) (blkOk_by (N := ["wheels", "k", "size"]) (sc := defScope S_turning) (own := [("k", 1), ("size", 2)]) (by decide +kernel)) (fun _ _ _ _ _ => (pg_tupK (K := K) (n := 2) rfl rfl (pgs_cons (pg_name (i := 1) sc_turning.nd rfl (.inl rfl)) (pgs_cons (pg_name (i := 2) sc_turning.nd rfl (.inl rfl)) pgs_nil)))) (fun _ _ _ _ _ => (pts_one (pt_cmpR op_gt (pv 2) pe_int (nomark _)))) (fun _ _ _ _ _ => (pv 1))))), ?_⟩
    dsimp only [cxOf, Cx.nox, Cx.wish, L2.start, List.map_cons, List.map_nil, List.length_cons, List.length_nil, List.cons_append, List.nil_append]
    have e := el_lcEnum (K := K) (σ := List.map some [V.ref a] ++ List.replicate 2 none) (H := H) (xs := ws.map V.int) (a := a) (ta := tCons (tVar 0) tNil) (t := tTest (tOp (rI0 fun i j => V.bl (decide (j < i))) (tVar 2) (tC (V.int 1)))) (te := tVar 1) (i := 1) (j := 2) (vs := [1, 2]) (fun i => decide (1 < ws.getD i 0)) (fun i => .int (i : Int)) (ea_cons (ev_var rfl) ea_nil) hW (by rw [List.length_map]; omega) (fun _ _ => rfl)
      (fun n x H1 e hx => by rw [getD_of hx]; walk_at "et") (fun n x H1 e hx _ => ev_var rfl)
    rw [List.length_map] at e
    exact s_retL e k
theorem ev_turnN {K : PySem.W.Frag} {C : Cs} {H : Hp} {σ : L2.St} {E : XK} {ta : TA} {a : Addr} {ws : List Int} (ha : EvA ta σ H [.ref a]) (h1 : SqL K H a (ws.map V.int)) (hl : ws.length ≤ 1000) :
    Ev (tCB (fun xs H Q => ∃ p ys, xs = [.ref p] ∧ (SqL K H p ys ∨ SqT K H p ys) ∧ Q (.int ys.length) H) (tCons (tCall (sp_turning K C) [] E ta) tNil)) σ H (.int (turnN ws : Int)) :=
  ev_cbN (el_call ha (spl_turning h1 hl)) fun p H1 hp e => rc_len (sq_of hp) (given_len_eq _ _ _)
def aroundB (ws : List Int) : Bool := decide (1 < (turnN ws : Int)) && decide (cnt ws % 2 = 0)
def oddB (ws : List Int) : Bool := decide (cnt ws % 2 = 1)
def deadB (ws ss : List Int) : Bool := setOk ws (ss.map Kd.int) && decide (((nbs ws ss).length : Int) < 2)
def sp_Around_shows (K : PySem.W.Frag) (_ : Cs) : Sp := fun vs H Q _ => ∃ (x : V) (a : Addr) (ws : List Int), vs = [x, .ref a] ∧ SqL K H a (ws.map V.int) ∧ Sm ws ∧ RetV (.bl (aroundB ws)) H Q
theorem spv_around_shows {K : PySem.W.Frag} {C : Cs} {H : Hp} {x : V} {a : Addr} {ws : List Int} (h1 : SqL K H a (ws.map V.int)) (hm : Sm ws) : SpV (sp_Around_shows K C) [x, .ref a] H (.bl (aroundB ws)) :=
  fun H1 e Q q E => ⟨x, a, ws, rfl, ex_l e h1, hm, q⟩
theorem ok_Around_shows {P : Program} {w : World} {K : PySem.W.Frag} {mg : Str → Option Value} {base : Heap} {C : Cs} (T : Txt K mg C) : MCl P w K mg base CX0 2 C.Around "shows" ["self", "wheels"] (sp_Around_shows K C) := by
  have c_count_of := ok_count_of (P := P) (w := w) (base := base) T
  have c_turning := ok_turning (P := P) (w := w) (base := base) T
  refine cm0 T.m_Around_shows sc_Around_shows (fun vs H Q E h => ?_) (fun f cdv A outer s H vs Q E hr h => ?_)
  · obtain ⟨x, a, ws, rfl, hW, hm, k⟩ := h
    rfl
  · obtain ⟨x, a, ws, rfl, hW, hm, k⟩ := h
    refine ⟨_, (pss_one (ps_ret (pe_and (pe_cmpR op_gt (pe_callB (call_lenK (K := K) rfl) (by rfl) T.b_len PySem.boot_len (pa_cons (pe_cl c_turning (hr.mono (by decide)) (by rfl) pass0 (pa_cons (pv 1) pa_nil)) pa_nil)) pe_int (nomark _)) (pe_one (pe_cmpR op_eq (pe_op op_mod (pe_cl c_count_of (hr.mono (by decide)) (by rfl) pass0 (pa_cons (pv 1) pa_nil)) pe_int) pe_int (nomark _)))))), ?_⟩
    dsimp only [cxOf, Cx.nox, Cx.wish, L2.start, List.map_cons, List.map_nil, List.length_cons, List.length_nil, List.cons_append, List.nil_append]
    have hl := hm.len
    refine s_ret (v := .bl (aroundB ws)) (ev_andV (ev_op (ev_turnN (ea_cons (ev_var rfl) ea_nil) hW (by omega)) ev_c rv_I0) fun _ => ev_op (ev_op (ev_call (ea_cons (ev_var rfl) ea_nil) (spv_count_of hW hm)) ev_c (rv_I (by decide))) ev_c rv_eqI) k
def sp_Odd_shows (K : PySem.W.Frag) (_ : Cs) : Sp := fun vs H Q _ => ∃ (x : V) (a : Addr) (ws : List Int), vs = [x, .ref a] ∧ SqL K H a (ws.map V.int) ∧ Sm ws ∧ RetV (.bl (oddB ws)) H Q
theorem spv_odd_shows {K : PySem.W.Frag} {C : Cs} {H : Hp} {x : V} {a : Addr} {ws : List Int} (h1 : SqL K H a (ws.map V.int)) (hm : Sm ws) : SpV (sp_Odd_shows K C) [x, .ref a] H (.bl (oddB ws)) :=
  fun H1 e Q q E => ⟨x, a, ws, rfl, ex_l e h1, hm, q⟩
theorem ok_Odd_shows {P : Program} {w : World} {K : PySem.W.Frag} {mg : Str → Option Value} {base : Heap} {C : Cs} (T : Txt K mg C) : MCl P w K mg base CX0 2 C.Odd "shows" ["self", "wheels"] (sp_Odd_shows K C) := by
  have c_count_of := ok_count_of (P := P) (w := w) (base := base) T
  refine cm0 T.m_Odd_shows sc_Odd_shows (fun vs H Q E h => ?_) (fun f cdv A outer s H vs Q E hr h => ?_)
  · obtain ⟨x, a, ws, rfl, hW, hm, k⟩ := h
    rfl
  · obtain ⟨x, a, ws, rfl, hW, hm, k⟩ := h
    refine ⟨_, (pss_one (ps_ret (pe_cmpR op_eq (pe_op op_mod (pe_cl c_count_of (hr.mono (by decide)) (by rfl) pass0 (pa_cons (pv 1) pa_nil)) pe_int) pe_int (nomark _)))), ?_⟩
    dsimp only [cxOf, Cx.nox, Cx.wish, L2.start, List.map_cons, List.map_nil, List.length_cons, List.length_nil, List.cons_append, List.nil_append]
    exact s_ret (v := .bl (oddB ws)) (ev_op (ev_op (ev_call (ea_cons (ev_var rfl) ea_nil) (spv_count_of hW hm)) ev_c (rv_I (by decide))) ev_c rv_eqI) k
/-- at x stands a Dead whose setting, the list at p, is ss -/
def DeadAt (C : Cs) (H : Hp) (x p : Addr) (ss : List Int) : Prop := ∃ dx, H x = some (.ins C.Dead dx [("setting", .ref p)]) ∧ H p = some (.lst (ss.map V.int))
theorem DeadAt.mono {C : Cs} {H H' : Hp} {x p : Addr} {ss : List Int} (e : Ex H H') (h : DeadAt C H x p ss) : DeadAt C H' x p ss := by
  obtain ⟨dx, h1, h2⟩ := h
  exact ⟨dx, e _ _ h1, e _ _ h2⟩
theorem look_setting {v : V} : List.lookup ("setting" : Str) [(("setting" : Str), v)] = some v := by simp [List.lookup]
theorem look_shows {v : V} : List.lookup ("shows" : Str) [(("setting" : Str), v)] = none := by
  have h : (("shows" : Str) == ("setting" : Str)) = false := by decide +kernel
  simp [List.lookup, h]
def sp_Dead_shows (K : PySem.W.Frag) (C : Cs) : Sp := fun vs H Q _ => ∃ (x a p : Addr) (ws ss : List Int), vs = [.ref x, .ref a] ∧ DeadAt C H x p ss ∧ SqL K H a (ws.map V.int) ∧ ws.length ≤ 1000 ∧ ss.length ≤ 1000 ∧ RetV (.bl (deadB ws ss)) H Q
theorem spv_dead_shows {K : PySem.W.Frag} {C : Cs} {H : Hp} {x a p : Addr} {ws ss : List Int} (h1 : DeadAt C H x p ss) (h2 : SqL K H a (ws.map V.int)) (hl : ws.length ≤ 1000) (hl2 : ss.length ≤ 1000) : SpV (sp_Dead_shows K C) [.ref x, .ref a] H (.bl (deadB ws ss)) :=
  fun H1 e Q q E => ⟨x, a, p, ws, ss, rfl, h1.mono e, ex_l e h2, hl, hl2, q⟩
theorem sortL_len' (nss : List (List Int)) : (sortL nss).length = nss.length := List.length_mergeSort _
theorem ok_Dead_shows {P : Program} {w : World} {K : PySem.W.Frag} {mg : Str → Option Value} {base : Heap} {C : Cs} (T : Txt K mg C) : MCl P w K mg base CX0 3 C.Dead "shows" ["self", "wheels"] (sp_Dead_shows K C) := by
  have c_neighbours := ok_neighbours (P := P) (w := w) (base := base) T
  have c_is_setting := ok_is_setting (P := P) (w := w) (base := base) T
  refine cm0 T.m_Dead_shows sc_Dead_shows (fun vs H Q E h => ?_) (fun f cdv A outer s H vs Q E hr h => ?_)
  · obtain ⟨x, a, p, ws, ss, rfl, hD, hW, hl, hl2, k⟩ := h
    rfl
  · obtain ⟨x, a, p, ws, ss, rfl, hD, hW, hl, hl2, k⟩ := h
    refine ⟨_, (pss_one (ps_ret (pe_and (pe_cl c_is_setting (hr.mono (by decide)) (by rfl) pass0 (pa_cons (pv 1) (pa_cons (pe_fldK (K := K) rfl (pv 0) rfl) pa_nil))) (pe_one (pe_cmpR op_lt (pe_callB (call_lenK (K := K) rfl) (by rfl) T.b_len PySem.boot_len (pa_cons (pe_cl c_neighbours (hr.mono (by decide)) (by rfl) pass0 (pa_cons (pv 1) (pa_cons (pe_fldK (K := K) rfl (pv 0) rfl) pa_nil))) pa_nil)) pe_int (nomark _)))))), ?_⟩
    dsimp only [cxOf, Cx.nox, Cx.wish, L2.start, List.map_cons, List.map_nil, List.length_cons, List.length_nil, List.cons_append, List.nil_append]
    obtain ⟨dx, hx, hp⟩ := hD
    have ef : Ev (tFld K (tVar 0) "setting") (List.map some [V.ref x, V.ref a] ++ List.replicate 0 none) H (.ref p) := ev_fld (ev_var rfl) hx T.c_Dead.cl T.n_setting look_setting
    refine s_ret (v := .bl (deadB ws ss)) (ev_andV (ev_call (ea_cons (ev_var rfl) (ea_cons ef ea_nil)) (spv_is_setting hW (by omega) (SetV.ints (sq_of hp) (by omega)))) fun hb => ?_) k
    have hi := setOk_ints.mp hb
    exact ev_to (ev_op (ev_lenR (er_call (ea_cons (ev_var rfl) (ea_cons ef ea_nil)) (spr_neighbours hW (sq_of hp) hi hl))) ev_c rv_I0) (by rw [sortL_len'])
def sp_Dead_init (K : PySem.W.Frag) (C : Cs) : Sp := fun vs H Q _ => ∃ (x dx a : Addr) (ss : List Int), vs = [.ref x, .ref a] ∧ H x = some (.ins C.Dead dx []) ∧ SqL K H a (ss.map V.int) ∧
  ∀ p H2, H p = none → But x H H2 → DeadAt C H2 x p ss → Q .non H2
theorem ok_Dead_init {P : Program} {w : World} {K : PySem.W.Frag} {mg : Str → Option Value} {base : Heap} {C : Cs} (T : Txt K mg C) : MCl P w K mg base CX0 1 C.Dead "__init__" ["self", "setting"] (sp_Dead_init K C) := by
  refine cm0 T.m_Dead_init sc_Dead_init (fun vs H Q E h => ?_) (fun f cdv A outer s H vs Q E hr h => ?_)
  · obtain ⟨x, dx, a, ss, rfl, hx, hS, k⟩ := h
    rfl
  · obtain ⟨x, dx, a, ss, rfl, hx, hS, k⟩ := h
    refine ⟨_, (pss_one (ps_fld (pv 0) (pe_callTy (call_listK (K := K) rfl) (by rfl) T.b_list (by decide +kernel) (pa_cons (pv 1) pa_nil)) rfl)), ?_⟩
    dsimp only [cxOf, Cx.nox, Cx.wish, L2.start, List.map_cons, List.map_nil, List.length_cons, List.length_nil, List.cons_append, List.nil_append]
    refine el_copy (ev_var rfl) hS H (Ex.refl H) _ fun p H1 hp e1 h1 => ?_
    have npx : p ≠ x := fun z => by
      rw [z, hx] at hp
      cases hp
    refine ⟨.ref x, rfl, x, C.Dead, dx, [], rfl, e1 _ _ hx, T.c_Dead.cl, T.n_setting, (by show 0 < 1000; decide), ?_⟩
    exact k p _ hp (But.upd e1) ⟨dx, upd_same, by rw [upd_ne npx]; exact h1⟩
/-- a new Dead -/
theorem mk_dead {K : PySem.W.Frag} {C : Cs} {H : Hp} {σ : L2.St} {E : XK} {te : TE} {a : Addr} {ss : List Int} {Q : VK} (ha : Ev te σ H (.ref a)) (hS : SqL K H a (ss.map V.int)) {H1 : Hp} (e : Ex H H1)
    (k : ∀ x p H2, H1 x = none → H1 p = none → x ≠ p → Ex H1 H2 → DeadAt C H2 x p ss → Q (.ref x) H2) : tMake C.Dead (sp_Dead_init K C) [] E (tCons te tNil) σ H1 Q :=
  ha H1 e _ fun H2 e2 x dx nx nd ne => by
    have e3 : Ex H2 (upd (upd H2 dx (.own x)) x (.ins C.Dead dx [])) := fun b o hb => by
      rw [upd_ne (ne_of_none hb nx), upd_ne (ne_of_none hb nd)]
      exact hb
    refine ⟨x, dx, a, ss, rfl, upd_same, ex_l ((e.trans e2).trans e3) hS, fun p H3 hp b3 hd => ⟨rfl, ?_⟩⟩
    have hp2 : H2 p = none := fresh_back e3 hp
    have nxp : x ≠ p := fun z => by
      rw [← z, upd_same] at hp
      cases hp
    exact k x p H3 (fresh_back e2 nx) (fresh_back e2 hp2) nxp (e2.trans (b3.ex e3 nx)) hd
/-- Dead(..).shows(..) of a new one -/
theorem ev_methD {K : PySem.W.Frag} {C : Cs} {H : Hp} {σ : L2.St} {E E' : XK} {te : TE} {ta' : TA} {a b : Addr} {ws ss : List Int} (ha : Ev te σ H (.ref a)) (hS : SqL K H a (ss.map V.int)) (hb : EvA ta' σ H [.ref b]) (hW : SqL K H b (ws.map V.int)) (hl : ws.length ≤ 1000) (hl2 : ss.length ≤ 1000) :
    Ev (tMeth C.Dead "shows" (sp_Dead_shows K C) [] E (tMake C.Dead (sp_Dead_init K C) [] E' (tCons te tNil)) ta') σ H (.bl (deadB ws ss)) := fun H1 e Q q =>
  mk_dead ha hS e fun x p H2 hx hp nxp e2 hd => by
    obtain ⟨dx, h1, h2⟩ := hd
    exact ⟨x, dx, _, rfl, h1, look_shows, hb H2 (e.trans e2) _ fun H3 e3 => spv_dead_shows ⟨dx, e3 _ _ h1, e3 _ _ h2⟩ (ex_l ((e.trans e2).trans e3) hW) hl hl2 H3 (Ex.refl _) Q (fun H4 e4 => q H4 ((e2.trans e3).trans e4)) E⟩
/-- Dead([..]).shows([..]), both new lists -/
theorem ev_methDL {K : PySem.W.Frag} {C : Cs} {H : Hp} {σ : L2.St} {E E' : XK} {te tb : TE} {ws ss : List Int} (ha : EvL te σ H (ss.map V.int)) (hb : EvL tb σ H (ws.map V.int)) (hl : ws.length ≤ 1000) (hl2 : ss.length ≤ 1000) :
    Ev (tMeth C.Dead "shows" (sp_Dead_shows K C) [] E (tMake C.Dead (sp_Dead_init K C) [] E' (tCons te tNil)) (tCons tb tNil)) σ H (.bl (deadB ws ss)) := fun H1 e Q q =>
  ha H1 e _ fun a H2 hn e2 h2 x dx nx nd ne => by
    have e3 : Ex H2 (upd (upd H2 dx (.own x)) x (.ins C.Dead dx [])) := fun b o hb => by
      rw [upd_ne (ne_of_none hb nx), upd_ne (ne_of_none hb nd)]
      exact hb
    refine ⟨x, dx, a, ss, rfl, upd_same, sq_of (e3 _ _ h2), fun p H3 hp b3 hd => ⟨rfl, ?_⟩⟩
    obtain ⟨dx, h3, h4⟩ := hd
    have e23 := b3.ex e3 nx
    exact ⟨x, dx, _, rfl, h3, look_shows, hb H3 ((e.trans e2).trans e23) _ fun b H4 hnb e4 hb4 => spv_dead_shows ⟨dx, e4 _ _ h3, e4 _ _ h4⟩ (sq_of hb4) hl hl2 H4 (Ex.refl _) Q (fun H5 e5 => q H5 (((e2.trans e23).trans e4).trans e5)) E⟩
theorem q_mkDead {K : PySem.W.Frag} {C : Cs} {H : Hp} {σ : L2.St} {E : XK} {te : TE} {tz : TS} {D : Ends} {i : Nat} {a : Addr} {ss : List Int} (ha : Ev te σ H (.ref a)) (hS : SqL K H a (ss.map V.int))
    (k : ∀ x p H2, H x = none → H p = none → x ≠ p → Ex H H2 → DeadAt C H2 x p ss → tz D (σ.set i (some (.ref x))) H2) : tSeq (tAsg (tMake C.Dead (sp_Dead_init K C) [] E (tCons te tNil)) (gName i)) tz D σ H := by
  show tMake C.Dead (sp_Dead_init K C) [] E (tCons te tNil) σ H (fun v H1 => gName i v σ H1 fun σ' H2 => tz D σ' H2)
  exact mk_dead (C := C) (Q := fun v H1 => gName i v σ H1 fun σ' H2 => tz D σ' H2) ha hS (Ex.refl H) k
def sp_law_says (K : PySem.W.Frag) (_ : Cs) : Sp := fun vs H Q _ => ∃ (a b : Bool), vs = [.bl a, .bl b] ∧ RetV (.bl (decide (a = b))) H Q
theorem spv_says {K : PySem.W.Frag} {C : Cs} {H : Hp} {a b : Bool} : SpV (sp_law_says K C) [.bl a, .bl b] H (.bl (decide (a = b))) := fun H1 e Q q E => ⟨a, b, rfl, q⟩
theorem ok_law_says {P : Program} {w : World} {K : PySem.W.Frag} {mg : Str → Option Value} {base : Heap} {C : Cs} (T : Txt K mg C) : Cl P w K mg base CX0 1 "_law_says" ["_law_said", "_law_due"] (sp_law_says K C) := by
  refine cl0 T.d_law_says sc_law_says (fun vs H Q E h => ?_) (fun f cdv A outer s H vs Q E hr h => ?_)
  · obtain ⟨a, b, rfl, k⟩ := h
    rfl
  · obtain ⟨a, b, rfl, k⟩ := h
    refine ⟨_, (pss_one (ps_ret (pe_and (pe_callB (call_isiK' (K := K) rfl) (by rfl) T.b_isinstance (by decide +kernel) (pa_cons (pv 0) (pa_cons (pe_bltn (by rfl) T.b_bool (by decide +kernel) (v := .ty "bool") rfl) pa_nil))) (pe_one (pe_cmpR op_eq (pv 0) (pv 1) (nomark _)))))), ?_⟩
    dsimp only [cxOf, Cx.nox, Cx.wish, L2.start, List.map_cons, List.map_nil, List.length_cons, List.length_nil, List.cons_append, List.nil_append]
    refine s_ret (v := .bl (true && decide (a = b))) (ev_andV (ev_cb (ea_cons (ev_var rfl) (ea_cons ev_c ea_nil)) (rc_isi (Thg.bl a) fun _ => kd_bool)) fun _ => ev_op (ev_var rfl) (ev_var rfl) rv_eqB) fun H1 e => ?_
    rw [Bool.true_and]
    exact k H1 e
/-! ### how many neighbours a setting has -/
def wayI (s w : Int) : Int := (if decide (0 < s) then 1 else 0) + (if decide (s + 1 < w) then 1 else 0)
theorem way_len (ws ss : List Int) (k : Nat) : ((nbAt ws ss k).length : Int) = wayI (ss.getD k 0) (ws.getD k 0) := by
  unfold nbAt wayI
  generalize ss.set k (ss.getD k 0 - 1) = l1
  generalize ss.set k (ss.getD k 0 + 1) = l2
  generalize ss.getD k 0 = s
  generalize ws.getD k 0 = w
  by_cases c1 : 0 < s <;> by_cases c2 : s + 1 < w <;> simp [c1, c2]
theorem ways_sum (ws ss : List Int) : ∀ n : Nat, ((List.range n).map fun k => wayI (ss.getD k 0) (ws.getD k 0)).sum = ((nbUp ws ss n).length : Int)
  | 0 => rfl
  | n + 1 => by
    rw [List.range_succ, List.map_append, List.sum_append, ways_sum ws ss n]
    show _ + ([wayI (ss.getD n 0) (ws.getD n 0)] : List Int).sum = ((nbUp ws ss n ++ nbAt ws ss n).length : Int)
    rw [List.length_append, List.sum_cons, List.sum_nil, ← way_len]
    omega
theorem rv_gtI {i j : Int} {H : Hp} : RV (rI0 fun i j => V.bl (decide (j < i))) (.int i) (.int j) H (.bl (decide (j < i))) := rv_I0
/-- sum([int(number > 0) + int(number + 1 < size) for number, size in zip(setting, wheels)]) -/
theorem ev_ways {K : PySem.W.Frag} {H : Hp} {σ : L2.St} {ta : TA} {te : TE} {i j : Nat} {vs : List Nat} {a b : Addr} {ws ss : List Int} (h : EvA ta σ H [.ref b, .ref a]) (hS : SqL K H b (ss.map V.int)) (hW : SqL K H a (ws.map V.int)) (hl : ss.length = ws.length) (hz : ss.length ≤ 1000)
    (hw : ∀ x y, wipe (((wipe σ vs).set i (some x)).set j (some y)) vs = wipe σ vs) (he : ∀ (s w : Int) H1, Ev te (((wipe σ vs).set i (some (.int s))).set j (some (.int w))) H1 (.int (wayI s w))) :
    Ev (tCB (rSum K) (tCons (tLc (iZip K ta) (gTup K 2 (gCons (gName i) (gCons (gName j) gNil))) tYes te vs) tNil)) σ H (.int ((nbs ws ss).length : Int)) := by
  have e := el_lcZip (K := K) (t := tYes) (te := te) (fun _ => true) (fun n => .int (wayI (ss.getD n 0) (ws.getD n 0))) h hS hW (by rw [List.length_map, List.length_map, hl]) (by rw [List.length_map]; omega) hw (fun n x y H1 _ _ _ => et_yes) (fun n x y H1 _ hx hy _ => by
    rw [getD_of hx, getD_of hy]
    exact he _ _ H1)
  rw [given_all, List.length_map] at e
  have e2 : (List.range ss.length).map (fun n => V.int (wayI (ss.getD n 0) (ws.getD n 0))) = ((List.range ss.length).map fun n => wayI (ss.getD n 0) (ws.getD n 0)).map V.int := by rw [List.map_map]; rfl
  rw [e2] at e
  have := ev_sumN (K := K) e
  rw [ways_sum] at this
  exact this
def sp_law_dead_right (K : PySem.W.Frag) (_ : Cs) : Sp := fun vs H Q _ => ∃ (a b : Addr) (ws ss : List Int), vs = [.ref a, .ref b] ∧ SqL K H a (ws.map V.int) ∧ SqL K H b (ss.map V.int) ∧ ws.length ≤ 1000 ∧ ss.length ≤ 1000 ∧ RetV (.bl true) H Q
theorem spv_dead_right {K : PySem.W.Frag} {C : Cs} {H : Hp} {a b : Addr} {ws ss : List Int} (h1 : SqL K H a (ws.map V.int)) (h2 : SqL K H b (ss.map V.int)) (hl : ws.length ≤ 1000) (hl2 : ss.length ≤ 1000) : SpV (sp_law_dead_right K C) [.ref a, .ref b] H (.bl true) :=
  fun H1 e Q q E => ⟨a, b, ws, ss, rfl, ex_l e h1, ex_l e h2, hl, hl2, q⟩
theorem ok_law_dead_right {P : Program} {w : World} {K : PySem.W.Frag} {mg : Str → Option Value} {base : Heap} {C : Cs} (T : Txt K mg C) : Cl P w K mg base CX0 4 "_law_dead_right" ["_law_wheels_here", "_law_setting_here"] (sp_law_dead_right K C) := by
  have c_Dead_init := ok_Dead_init (P := P) (w := w) (base := base) T
  have c_law_is_setting := ok_law_is_setting (P := P) (w := w) (base := base) T
  have c_law_says := ok_law_says (P := P) (w := w) (base := base) T
  have c_Dead_shows := ok_Dead_shows (P := P) (w := w) (base := base) T
  refine cl0 T.d_law_dead_right sc_law_dead_right (fun vs H Q E h => ?_) (fun f cdv A outer s H vs Q E hr h => ?_)
  · obtain ⟨a, b, ws, ss, rfl, hW, hS, hl, hl2, k⟩ := h
    rfl
  · obtain ⟨a, b, ws, ss, rfl, hW, hS, hl, hl2, k⟩ := h
    refine ⟨_, (pss_cons (ps_set (i := 2) sc_law_dead_right.nd rfl (.inl rfl) (pe_callTy (call_listK (K := K) rfl) (by rfl) T.b_list (by decide +kernel) (pa_cons (pv 1) pa_nil)))
    (pss_cons (ps_set (i := 3) sc_law_dead_right.nd rfl (.inl rfl) (pe_mki T.c_Dead c_Dead_init (hr.mono (by decide)) (by rfl) pass0 (pa_cons (pv 2) pa_nil)))
    (pss_cons (ps_expr (pe_bm PySem.F.plainAttrs_list PySem.F.slot_list_append PySem.F.type_list_append mt_append (pv 2) (pa_cons pe_int pa_nil)))
    (pss_cons (ps_set (i := 4) sc_law_dead_right.nd rfl (.inl rfl) (pe_cl c_law_is_setting (hr.mono (by decide)) (by rfl) pass0 (pa_cons (pv 0) (pa_cons (pv 1) pa_nil))))
    (pss_cons (ps_if (pt_val (pv 4) (by intro _; rfl)) (pss_one (ps_set (i := 4) sc_law_dead_right.nd rfl (.inl rfl) (pe_cmpR op_lt (pe_callB (cr_sumK (K := K) rfl rfl) (by rfl) T.b_sum (by decide +kernel) (pa_cons (pe_lc (own := [("_law_number", 5), ("_law_size", 6)]) (tt := tYes) rfl sc_law_dead_right.nd (pi_zip (by rfl) T.b_zip (pa_cons (pv 1) (pa_cons (pv 0) pa_nil))) (blkOk_by (N := ["_law_wheels_here", "_law_setting_here", "_law_handed", "_law_answer", "_law_due", "_law_number", "_law_size"]) (sc := defScope S_law_dead_right) (own := [("_law_number", 5), ("_law_size", 6)]) (by decide +kernel)) (fun _ _ _ _ _ => (pg_tupK (K := K) (n := 2) rfl rfl (pgs_cons (pg_name (i := 5) sc_law_dead_right.nd rfl (.inl rfl)) (pgs_cons (pg_name (i := 6) sc_law_dead_right.nd rfl (.inl rfl)) pgs_nil)))) (fun _ _ _ _ _ => pts_nil) (fun _ _ _ _ _ => (pe_op op_add (pe_callTy call_int1 (by rfl) T.b_int (by decide +kernel) (pa_cons (pe_cmpR op_gt (pv 5) pe_int (nomark _)) pa_nil)) (pe_callTy call_int1 (by rfl) T.b_int (by decide +kernel) (pa_cons (pe_cmpR op_lt (pe_op op_add (pv 5) pe_int) (pv 6) (nomark _)) pa_nil))))) pa_nil)) pe_int (nomark _)))) pss_nil)
    (pss_one (ps_ret (pe_and (pe_cmpR (op_eqDK (K := K) rfl hr.units) (pe_fldK (K := K) rfl (pv 3) rfl) (pv 1) (nomark _)) (pe_one (pe_cl c_law_says (hr.mono (by decide)) (by rfl) pass0 (pa_cons (pe_mcl c_Dead_shows T.c_Dead.cl (hr.mono (by decide)) pass0 (pv 3) (pa_cons (pv 0) pa_nil)) (pa_cons (pv 4) pa_nil)))))))))))), ?_⟩
    dsimp only [cxOf, Cx.nox, Cx.wish, L2.start, List.map_cons, List.map_nil, List.length_cons, List.length_nil, List.cons_append, List.nil_append]
    refine q_asgL (el_copy (ev_var rfl) hS) fun h H1 hh e1 h1 => ?_
    refine q_mkDead (ev_var rfl) (sq_of h1) fun x p H2 hx hp nxp e2 hd => ?_
    have hh2 := e2 _ _ h1
    have nhx : x ≠ h := fun z => by
      rw [z, h1] at hx
      cases hx
    have nhp : p ≠ h := fun z => by
      rw [z, h1] at hp
      cases hp
    refine q_app (l := h) hh2 (ev_var rfl) ev_c (by rw [List.length_map]; omega) fun H3 e3 => ?_
    have e03 : Ex H (upd H3 h (.lst (ss.map V.int ++ [.int 0]))) := Ex.mut ((e1.trans e2).trans e3) hh
    have hd3 : DeadAt C (upd H3 h (.lst (ss.map V.int ++ [.int 0]))) x p ss := by
      obtain ⟨dx, g1, g2⟩ := hd
      exact ⟨dx, by rw [upd_ne nhx]; exact e3 _ _ g1, by rw [upd_ne nhp]; exact e3 _ _ g2⟩
    generalize upd H3 h (.lst (ss.map V.int ++ [.int 0])) = H4 at e03 hd3
    have hW4 := ex_l e03 hW
    have hS4 := ex_l e03 hS
    refine q_asg (v := .bl (setOk ws (ss.map Kd.int))) (ev_call (ea_cons (ev_var rfl) (ea_cons (ev_var rfl) ea_nil)) (spv_law_is_setting hW4 hS4 (by omega) (by omega))) fun H5 e5 => ?_
    have hW5 := ex_l e5 hW4
    have hS5 := ex_l e5 hS4
    refine q_ifAsg (b := setOk ws (ss.map Kd.int)) (v := .bl (deadB ws ss)) (et_B (ev_var rfl)) (fun hb => ?_) (fun hb => ?_) fun H6 e6 => ?_
    · have hi := setOk_ints.mp hb
      refine ev_to (ev_op (ev_ways (ea_cons (ev_var rfl) (ea_cons (ev_var rfl) ea_nil)) hS5 hW5 hi.len hl2 (fun _ _ => rfl) fun s w H6 => ev_op (ev_intB (by walk_at "ev")) (ev_intB (by walk_at "ev")) rv_I0) ev_c rv_I0) ?_
      unfold deadB
      rw [hb, Bool.true_and]
    · unfold deadB
      rw [hb]
      rfl
    have e46 := e5.trans e6
    have hd6 := hd3.mono e46
    have hW6 := ex_l e46 hW4
    have hS6 := ex_l e46 hS4
    obtain ⟨dx, g1, g2⟩ := id hd6
    refine s_ret (v := .bl (decide (ss = ss) && decide (deadB ws ss = deadB ws ss))) (ev_andV (ev_op (ev_fld (ev_var rfl) g1 T.c_Dead.cl T.n_setting look_setting) (ev_var rfl) (rv_eqDI (sq_of g2) hS6)) fun _ => ev_call (ea_cons (ev_meth (ev_var rfl) g1 look_shows (ea_cons (ev_var rfl) ea_nil) (spv_dead_shows hd6 hW6 hl hl2)) (ea_cons (ev_var rfl) ea_nil)) spv_says) fun H7 e7 => ?_
    rw [decide_eq_true rfl, decide_eq_true rfl]
    exact k H7 ((e03.trans e46).trans e7)
theorem rev_map (ws : List Int) : (ws.map V.int).reverse = ws.reverse.map V.int := (List.map_reverse).symm
theorem Sm.take {ws : List Int} (h : Sm ws) (n : Nat) : Sm (ws.take n) := ⟨by have := h.len; have := List.length_take_le' n ws; omega, fun w hw => h.pos w (List.mem_of_mem_take hw), fun w hw => h.lt w (List.mem_of_mem_take hw)⟩
theorem Sm.append {ws vs : List Int} (h : Sm ws) (h2 : Sm vs) (hl : ws.length + vs.length ≤ 200) : Sm (ws ++ vs) := ⟨by rw [List.length_append]; exact hl, fun w hw => (List.mem_append.mp hw).elim (h.pos w) (h2.pos w), fun w hw => (List.mem_append.mp hw).elim (h.lt w) (h2.lt w)⟩
theorem Sm.cons {w : Int} {ws : List Int} (h0 : 0 ≤ w) (h1 : w < 2 ^ 250) (h : Sm ws) (hl : ws.length + 1 ≤ 200) : Sm (w :: ws) := ⟨by rw [List.length_cons]; exact hl, fun v hv => (List.mem_cons.mp hv).elim (fun e => e ▸ h0) (h.pos v), fun v hv => (List.mem_cons.mp hv).elim (fun e => e ▸ h1) (h.lt v)⟩
theorem Sm.ones {n : Nat} (h : n ≤ 200) : Sm (List.replicate n 1) := ⟨by rw [List.length_replicate]; exact h, fun w hw => by rw [(List.mem_replicate.mp hw).2]; decide, fun w hw => by rw [(List.mem_replicate.mp hw).2]; decide⟩
theorem Pos.append {ws vs : List Int} (h : Pos ws) (h2 : Pos vs) : Pos (ws ++ vs) := fun w hw => (List.mem_append.mp hw).elim (h w) (h2 w)
theorem el_head {K : PySem.W.Frag} {H : Hp} {σ : L2.St} {te : TE} {b : Addr} {ws : List Int} {n : Nat} (h : SqL K H b (ws.map V.int)) (he : Ev te σ H (.ref b)) : EvL (tSl (rSlL K) te tNoPart (tPart (tC (.int (n : Int))))) σ H ((ws.take n).map V.int) := by
  have := el_sl he eo_none (eo_some (i := (n : Int)) (te := tC (.int (n : Int))) ev_c) h
  rw [cut_to, ← List.map_take] at this
  exact this
theorem el_tail {K : PySem.W.Frag} {H : Hp} {σ : L2.St} {te : TE} {b : Addr} {ws : List Int} {n : Nat} (h : SqL K H b (ws.map V.int)) (he : Ev te σ H (.ref b)) : EvL (tSl (rSlL K) te (tPart (tC (.int (n : Int)))) tNoPart) σ H ((ws.drop n).map V.int) := by
  have := el_sl he (eo_some (i := (n : Int)) (te := tC (.int (n : Int))) ev_c) eo_none h
  rw [cut_from, ← List.map_drop] at this
  exact this
def sp_law (K : PySem.W.Frag) (_ : Cs) : Sp := fun vs H Q _ => ∃ (a : Addr) (ns : List Int), vs = [.ref a] ∧ SqL K H a (ns.map V.int) ∧ ns.length ≤ 63 ∧ ∀ H', Q (.bl true) H'
theorem ok_law {P : Program} {w : World} {K : PySem.W.Frag} {mg : Str → Option Value} {base : Heap} {C : Cs} {fa : Addr} {fd : FuncData} (F : Fun K "law" "law" S_law fa fd) (T : Txt K mg C) : FnOk P w K mg base CX0 5 fa fd ["_law_script"] (sp_law K C) := by
  have c_law_wheels := ok_law_wheels (P := P) (w := w) (base := base) T
  have c_law_count := ok_law_count (P := P) (w := w) (base := base) T
  have c_law_says := ok_law_says (P := P) (w := w) (base := base) T
  have c_Around_shows := ok_Around_shows (P := P) (w := w) (base := base) T
  have c_Odd_shows := ok_Odd_shows (P := P) (w := w) (base := base) T
  have c_law_setting := ok_law_setting (P := P) (w := w) (base := base) T
  have c_law_dead_right := ok_law_dead_right (P := P) (w := w) (base := base) T
  have c_Dead_init := ok_Dead_init (P := P) (w := w) (base := base) T
  have c_Dead_shows := ok_Dead_shows (P := P) (w := w) (base := base) T
  refine F.ok sc_law (fun vs H Q E h => ?_) (fun cdv A outer s H vs Q E hr h => ?_)
  · obtain ⟨a, ns, rfl, hS, hl, k⟩ := h
    rfl
  · obtain ⟨a, ns, rfl, hS, hl, k⟩ := h
    refine ⟨_, (pss_cons (ps_set (i := 1) sc_law.nd rfl (.inl rfl) (pe_cl c_law_wheels (hr.mono (by decide)) (by rfl) pass0 (pa_cons (pv 0) pa_nil)))
    (pss_cons (ps_setLc (i := 2) (own := [("_law_size", 10)]) (g := gName 10) (tt := tYes) rfl sc_law.nd rfl rfl (sw_true rfl rfl rfl (by decide +kernel)) (pi_listK (K := K) rfl (pv 1)) (blkOk_by (N := ["_law_script", "_law_wheels_here", "_law_ends", "_law_some", "_law_whole_here", "_law_turned", "_law_noughts", "_law_drawn", "_law_setting_here", "_law_number", "_law_size"]) (sc := defScope S_law) (own := [("_law_size", 10)]) (by decide +kernel)) (fun _ _ _ _ _ => (pg_name (i := 10) sc_law.nd rfl (.inl rfl))) (fun _ _ _ _ _ => pts_nil) (fun _ _ _ _ _ => (pe_op op_sub (pv 10) pe_int)))
    (pss_cons (ps_for PassesOwn.never rfl (pi_tupK (K := K) rfl (pe_tup (pa_cons (pv 1) (pa_cons (pe_slice (sl_listK (K := K) rfl) (pv 1) po_none (po_some pe_int)) (pa_cons (pe_op (op_catK (K := K) rfl) (pe_op op_rep (pe_lst (pa_cons pe_int pa_nil)) (pe_callB (call_lenK (K := K) rfl) (by rfl) T.b_len PySem.boot_len (pa_cons (pv 1) pa_nil))) (pe_slice (sl_listK (K := K) rfl) (pv 1) po_none (po_some pe_int))) (pa_cons (pe_slice (sl_listK (K := K) rfl) (pv 1) po_none (po_some pe_int)) (pa_cons (pe_op (op_catK (K := K) rfl) (pe_lst (pa_cons pe_int pa_nil)) (pe_op op_rep (pe_lst (pa_cons pe_int pa_nil)) (pe_callB (call_lenK (K := K) rfl) (by rfl) T.b_len PySem.boot_len (pa_cons (pv 1) pa_nil)))) pa_nil))))))) (pg_name (i := 3) sc_law.nd rfl (.inl rfl))
    (pss_cons (ps_par rfl sc_law.nd (i := 4) (j := 5) rfl rfl (by decide) rfl rfl (pa_cons (pe_cl c_law_count (hr.mono (by decide)) (by rfl) pass0 (pa_cons (pv 3) pa_nil)) (pa_cons (pe_callB (call_lenK (K := K) rfl) (by rfl) T.b_len PySem.boot_len (pa_cons (pe_lc (own := [("_law_size", 10)]) (g := gName 10) rfl sc_law.nd (pi_listK (K := K) rfl (pv 3)) (blkOk_by (N := ["_law_script", "_law_wheels_here", "_law_ends", "_law_some", "_law_whole_here", "_law_turned", "_law_noughts", "_law_drawn", "_law_setting_here", "_law_number", "_law_size"]) (sc := defScope S_law) (own := [("_law_size", 10)]) (by decide +kernel)) (fun _ _ _ _ _ => (pg_name (i := 10) sc_law.nd rfl (.inl rfl))) (fun _ _ _ _ _ => (pts_one (pt_cmpR op_gt (pv 10) pe_int (nomark _)))) (fun _ _ _ _ _ => (pv 10))) pa_nil)) pa_nil)) (by rfl))
    (pss_cons (ps_if (pt_not (pt_val (pe_cl c_law_says (hr.mono (by decide)) (by rfl) pass0 (pa_cons (pe_mcl c_Around_shows T.c_Around.cl (hr.mono (by decide)) pass0 (pe_mko T.c_Around T.i_Around (by rfl)) (pa_cons (pv 3) pa_nil)) (pa_cons (pe_and (pe_cmpR op_eq (pe_op op_mod (pv 4) pe_int) pe_int (nomark _)) (pe_one (pe_cmpR op_gt (pv 5) pe_int (nomark _)))) pa_nil))) (by intro _; rfl))) (pss_one (ps_ret pe_bl)) pss_nil)
    (pss_cons (ps_if (pt_not (pt_val (pe_cl c_law_says (hr.mono (by decide)) (by rfl) pass0 (pa_cons (pe_mcl c_Odd_shows T.c_Odd.cl (hr.mono (by decide)) pass0 (pe_mko T.c_Odd T.i_Odd (by rfl)) (pa_cons (pv 3) pa_nil)) (pa_cons (pe_cmpR op_eq (pe_op op_mod (pv 4) pe_int) pe_int (nomark _)) pa_nil))) (by intro _; rfl))) (pss_one (ps_ret pe_bl)) pss_nil)
    (pss_cons (ps_set (i := 6) sc_law.nd rfl (.inl rfl) (pe_op op_rep (pe_lst (pa_cons pe_int pa_nil)) (pe_callB (call_lenK (K := K) rfl) (by rfl) T.b_len PySem.boot_len (pa_cons (pv 3) pa_nil))))
    (pss_cons (ps_set (i := 7) sc_law.nd rfl (.inl rfl) (pe_cl c_law_setting (hr.mono (by decide)) (by rfl) pass0 (pa_cons (pe_op (op_catK (K := K) rfl) (pe_op (op_catK (K := K) rfl) (pv 0) (pv 0)) (pe_lst (pa_cons pe_int pa_nil))) (pa_cons (pv 3) (pa_cons pe_int pa_nil)))))
    (pss_cons (ps_for PassesOwn.never rfl (pi_tupK (K := K) rfl (pe_tup (pa_cons (pv 6) (pa_cons (pe_lc (own := [("_law_size", 10)]) (g := gName 10) (tt := tYes) rfl sc_law.nd (pi_listK (K := K) rfl (pv 3)) (blkOk_by (N := ["_law_script", "_law_wheels_here", "_law_ends", "_law_some", "_law_whole_here", "_law_turned", "_law_noughts", "_law_drawn", "_law_setting_here", "_law_number", "_law_size"]) (sc := defScope S_law) (own := [("_law_size", 10)]) (by decide +kernel)) (fun _ _ _ _ _ => (pg_name (i := 10) sc_law.nd rfl (.inl rfl))) (fun _ _ _ _ _ => pts_nil) (fun _ _ _ _ _ => (pe_op op_sub (pv 10) pe_int))) (pa_cons (pv 7) (pa_cons (pe_op (op_catK (K := K) rfl) (pv 6) (pe_lst (pa_cons pe_int pa_nil))) (pa_cons (pe_slice (sl_listK (K := K) rfl) (pv 6) (po_some pe_int) po_none) (pa_cons (pe_revL (pv 7)) pa_nil)))))))) (pg_name (i := 8) sc_law.nd rfl (.inl rfl))
    (pss_one (ps_if (pt_not (pt_val (pe_cl c_law_dead_right (hr.mono (by decide)) (by rfl) pass0 (pa_cons (pv 3) (pa_cons (pv 8) pa_nil))) (by intro _; rfl))) (pss_one (ps_ret pe_bl)) pss_nil)))
    (pss_one (ps_for PassesOwn.never rfl (pi_tupK (K := K) rfl (pe_tup (pa_cons (pe_un un_neg pe_int) (pa_cons (pe_ifExp (pt_cmpR (op_neDK (K := K) rfl hr.units) (pv 3) (pe_lst pa_nil) (nomark _)) (pe_ix (ix_listK (K := K) rfl) (pv 3) pe_int (fun _ _ => rfl)) pe_int) (pa_cons pe_int pa_nil))))) (pg_name (i := 9) sc_law.nd rfl (.inl rfl))
    (pss_one (ps_if (pt_not (pt_val (pe_cl c_law_dead_right (hr.mono (by decide)) (by rfl) pass0 (pa_cons (pv 3) (pa_cons (pe_op (op_catK (K := K) rfl) (pe_lst (pa_cons (pv 9) pa_nil)) (pe_slice (sl_listK (K := K) rfl) (pv 6) (po_some pe_int) po_none)) pa_nil))) (by intro _; rfl))) (pss_one (ps_ret pe_bl)) pss_nil)))))))))))
    (pss_cons (ps_if (PW.pt (pw_or (pt_not (pt_val (pe_cl c_law_says (hr.mono (by decide)) (by rfl) pass0 (pa_cons (pe_mcl c_Dead_shows T.c_Dead.cl (hr.mono (by decide)) pass0 (pe_mki T.c_Dead c_Dead_init (hr.mono (by decide)) (by rfl) pass0 (pa_cons (pe_lst (pa_cons pe_int pa_nil)) pa_nil)) (pa_cons (pe_lst (pa_cons pe_int pa_nil)) pa_nil)) (pa_cons pe_bl pa_nil))) (by intro _; rfl))) (pw_or1 (pt_not (pt_val (pe_cl c_law_says (hr.mono (by decide)) (by rfl) pass0 (pa_cons (pe_mcl c_Dead_shows T.c_Dead.cl (hr.mono (by decide)) pass0 (pe_mki T.c_Dead c_Dead_init (hr.mono (by decide)) (by rfl) pass0 (pa_cons (pe_lst (pa_cons pe_int pa_nil)) pa_nil)) (pa_cons (pe_lst (pa_cons pe_int pa_nil)) pa_nil)) (pa_cons pe_bl pa_nil))) (by intro _; rfl)))))) (pss_one (ps_ret pe_bl)) pss_nil)
    (pss_one (ps_ret (pe_cl c_law_dead_right (hr.mono (by decide)) (by rfl) pass0 (pa_cons (pv 1) (pa_cons (pv 2) pa_nil))))))))), ?_⟩
    dsimp only [cxOf, Cx.nox, Cx.wish, L2.start, List.map_cons, List.map_nil, List.length_cons, List.length_nil, List.cons_append, List.nil_append]
    have hp := wheels_pos ns
    have hm := wheels_sm ns
    have hwl : (wheelsI ns).length ≤ ns.length := by rw [wheels_len]; omega
    have hW := fun C : Cs => spl_wheels (C := C) hS
    generalize wheelsI ns = ws at hp hm hwl hW
    refine q_asgL (xs := ws.map V.int) (el_call (ea_cons (ev_var rfl) ea_nil) (hW C)) fun b H1 hb e1 h1 => ?_
    have hW1 : SqL K H1 b (ws.map V.int) := sq_of h1
    -- the ends
    refine q_asgL (xs := (ws.map fun w => w - 1).map V.int) (el_list (by rw [List.length_map, List.length_map, List.length_map]) (ev_var rfl) hW1 (by rw [List.length_map]; omega) (fun _ => rfl) fun i x y H2 e2 hx hy => ?_) fun b2 H2 hb2 e2 h2 => ?_
    · obtain ⟨w, rfl, hw, _⟩ := map_get hx
      rw [List.map_map, List.getElem?_map, hw] at hy
      cases hy
      exact ev_op (ev_var rfl) ev_c rv_I0
    have hW2 := ex_l e2 hW1
    have hS2 := ex_l (e1.trans e2) hS
    have hp1 : Pos (ws.take 1) := hp.take 1
    have hm1 : Sm (ws.take 1) := hm.take 1
    have hone : Sm (List.replicate ws.length 1) := Sm.ones (by have := hm.len; omega)
    have hpo : Pos (List.replicate ws.length 1) := fun w hw => by rw [(List.mem_replicate.mp hw).2]; decide
    have hlw := hm.len
    have et1 : (ws.take 1).length ≤ 1 := List.length_take_le ..
    have hrp : ∀ {H' : Hp} {σ : L2.St} {te : TE}, SqL K H' b (ws.map V.int) → Ev te σ H' (.ref b) → EvL (tOp rRep (tLst (tCons (tC (V.int 1)) tNil)) (tCB (fun xs H Q => ∃ p ys, xs = [V.ref p] ∧ (SqL K H p ys ∨ SqT K H p ys) ∧ Q (V.int ys.length) H) (tCons te tNil))) σ H' ((List.replicate ws.length 1).map V.int) := fun {H'} {σ} {te} h he => by
      rw [← map_rep]
      exact el_rep (el_lst (ea_cons ev_c ea_nil) (by show 1 ≤ 100000; decide)) (ev_lenI he h) (by omega)
    refine q_forTR (nss := [ws, ws.take 1, List.replicate ws.length 1 ++ ws.take 1, ws.take 2, 3 :: List.replicate ws.length 1])
      (ear_consS (ev_var rfl) hW2 (ear_consL (el_head (n := 1) hW2 (ev_var rfl)) (ear_consL (by rw [List.map_append]; exact el_catLL (hrp hW2 (ev_var rfl)) (el_head (n := 1) hW2 (ev_var rfl)) (by rw [List.length_map, List.length_map, List.length_replicate]; omega)) (ear_consL (el_head (n := 2) hW2 (ev_var rfl)) (ear_consL (by show EvL _ _ _ ([V.int 3] ++ (List.replicate ws.length 1).map V.int); exact el_catLL (el_lst (ea_cons ev_c ea_nil) (by show 1 ≤ 100000; decide)) (hrp hW2 (ev_var rfl)) (by rw [List.length_map, List.length_replicate]; show 1 + _ ≤ 100000; omega)) ear_nil))))) (by show 5 ≤ 1000; decide) fun tp xs H3 htp e3 h3 hr3 => ?_
    refine ⟨fun i σ' H' => ∃ v3 v4 v5 v6 v7 v8 v9, σ' = [some (.ref a), some (.ref b), some (.ref b2), v3, v4, v5, v6, v7, v8, v9, none] ∧ Ex H3 H', ⟨none, none, none, none, none, none, none, rfl, Ex.refl _⟩, fun i σ' H' ⟨_, _, _, _, _, _, _, _, e⟩ => e, ?_, ?_⟩
    · rintro i c some_ σ' H4 hi hC ⟨v3, v4, v5, v6, v7, v8, v9, rfl, e4⟩
      have hgood : Pos some_ ∧ Sm some_ ∧ some_.length ≤ ns.length + 1 := by
        match i, hi with
        | 0, hi => cases hi; exact ⟨hp, hm, by omega⟩
        | 1, hi => cases hi; exact ⟨hp1, hm1, by omega⟩
        | 2, hi => cases hi; exact ⟨hpo.append hp1, hone.append hm1 (by rw [List.length_replicate]; omega), by rw [List.length_append, List.length_replicate]; omega⟩
        | 3, hi => cases hi; exact ⟨hp.take 2, hm.take 2, by have : (ws.take 2).length ≤ ws.length := List.length_take_le' 2 ws; omega⟩
        | 4, hi => cases hi; exact ⟨fun w hw => by rcases List.mem_cons.mp hw with e | e; { rw [e]; decide }; { exact hpo w e }, Sm.cons (by decide) (by decide) hone (by rw [List.length_replicate]; omega), by rw [List.length_cons, List.length_replicate]; omega⟩
        | _ + 5, hi => simp at hi
      obtain ⟨gp, gm, gl⟩ := hgood
      have gl2 := gm.len
      have e34 := e3.trans e4
      have hS4 := ex_l e34 hS2
      clear hr3 h3 hi
      -- the count, how many turn
      have et : EvL (tLc (iList K (tVar 3)) (gName 10) (tTest (tOp (rI0 fun i j => V.bl (decide (j < i))) (tVar 10) (tC (V.int 1)))) (tVar 10) [10]) [some (.ref a), some (.ref b), some (.ref b2), some (.ref c), v4, v5, v6, v7, v8, v9, none] H4 (given some_.length (fun i => decide (1 < some_.getD i 0)) fun i => .int (some_.getD i 0)) := by
        have e := el_lcL (K := K) (xs := some_.map V.int) (tl := tVar 3) (j := 10) (vs := [10]) (σ := [some (.ref a), some (.ref b), some (.ref b2), some (.ref c), v4, v5, v6, v7, v8, v9, none]) (H := H4) (t := tTest (tOp (rI0 fun i j => V.bl (decide (j < i))) (tVar 10) (tC (V.int 1)))) (te := tVar 10) (fun i => decide (1 < some_.getD i 0)) (fun i => .int (some_.getD i 0)) (ev_var rfl) hC (by rw [List.length_map]; omega) (fun _ => rfl) (fun i x H5 _ hx => by rw [getD_of hx]; walk_at "et") (fun i x H5 _ hx _ => by rw [getD_of hx]; exact ev_var rfl)
        rw [List.length_map] at e
        exact e
      refine q_par (v := .int (cnt some_)) (w := .int (turnN some_ : Int)) (ea_cons (ev_call (ea_cons (ev_var rfl) ea_nil) (spv_law_count hC gm)) (ea_cons (ev_cbN et fun p H5 hp5 e5 => rc_len (sq_of hp5) (given_len_eq _ _ _)) ea_nil)) fun H5 e5 => ?_
      have hC5 := ex_l e5 hC
      refine q_when (b := !(decide (aroundB some_ = (decide (cnt some_ % 2 = 0) && decide (1 < (turnN some_ : Int)))))) (et_not (et_B (ev_call (ea_cons (ev_methO (ea_cons (ev_var rfl) ea_nil) fun p dx H6 e6 h6 => spv_around_shows (ex_l e6 hC5) gm) (ea_cons (by walk_at "ev") ea_nil)) spv_says))) (fun q => by
        unfold aroundB at q
        rw [Bool.and_comm, decide_eq_true rfl] at q
        cases q) (fun _ H6 e6 => ?_)
      have hC6 := ex_l e6 hC5
      refine q_when (b := !(decide (oddB some_ = decide (cnt some_ % 2 = 1)))) (et_not (et_B (ev_call (ea_cons (ev_methO (ea_cons (ev_var rfl) ea_nil) fun p dx H7 e7 h7 => spv_odd_shows (ex_l e7 hC6) gm) (ea_cons (by walk_at "ev") ea_nil)) spv_says))) (fun q => by
        unfold oddB at q
        rw [decide_eq_true rfl] at q
        cases q) (fun _ H7 e7 => ?_)
      have hC7 := ex_l e7 hC6
      have e47 := (e5.trans e6).trans e7
      have hS7 := ex_l e47 hS4
      refine q_asgL (xs := (List.replicate some_.length 0).map V.int) (by rw [← map_rep]; exact el_rep (el_lst (ea_cons ev_c ea_nil) (by show 1 ≤ 100000; decide)) (ev_lenI (ev_var rfl) hC7) (by omega)) fun nz H8 hnz e8 h8 => ?_
      have hC8 := ex_l e8 hC7
      have hS8 := ex_l e8 hS7
      refine q_asgL (xs := (settingI (ns ++ ns ++ [1]) some_ 3).map V.int) (el_callL3 (xs := (ns ++ ns ++ [1]).map V.int) (by rw [List.map_append, List.map_append]; exact el_catLL (el_catSS (ev_var rfl) hS8 (ev_var rfl) hS8 (by rw [List.length_map]; omega)) (el_lst (ea_cons ev_c ea_nil) (by show 1 ≤ 100000; decide)) (by rw [List.length_append, List.length_map]; show _ + 1 ≤ 100000; omega)) (ev_var rfl) ev_c fun p H9 h9 e9 => spl_setting (sq_of h9) (ex_l e9 hC8) (by rw [List.length_append, List.length_append]; show _ ≤ _ + 1; omega) (by omega) gp) fun dr H9 hdr e9 h9 => ?_
      have hdl := setting_len (ns ++ ns ++ [1]) some_ 3
      generalize settingI (ns ++ ns ++ [1]) some_ 3 = drawn at h9 hdl
      have hC9 := ex_l e9 hC8
      have hn9 := e9 _ _ h8
      have hnl : (List.replicate some_.length (0 : Int)).length = some_.length := List.length_replicate
      generalize List.replicate some_.length (0 : Int) = nought at hn9 hnl
      -- settings of all kinds
      refine q_forTR (nss := [nought, some_.map fun w => w - 1, drawn, nought ++ [0], nought.drop 1, drawn.reverse])
        (ear_consS (ev_var rfl) (sq_of hn9) (ear_consL (el_list (by rw [List.length_map, List.length_map, List.length_map]) (ev_var rfl) hC9 (by rw [List.length_map]; omega) (fun _ => rfl) fun i x y H10 e10 hx hy => by
            obtain ⟨w, rfl, hw, _⟩ := map_get hx
            rw [List.map_map, List.getElem?_map, hw] at hy
            cases hy
            exact ev_op (ev_var rfl) ev_c rv_I0) (ear_consS (ev_var rfl) (sq_of h9) (ear_consL (by rw [List.map_append]; exact el_catSL (ev_var rfl) (sq_of hn9) (el_lst (ea_cons ev_c ea_nil) (by show 1 ≤ 100000; decide)) (by rw [List.length_map]; show _ + 1 ≤ 100000; omega)) (ear_consL (el_tail (n := 1) (sq_of hn9) (ev_var rfl)) (ear_consL (by rw [← rev_map]; exact el_rev (ev_var rfl) (sq_of h9)) ear_nil)))))) (by show 6 ≤ 1000; decide) fun tp2 xs2 H10 htp2 e10 h10 hr10 => ?_
      refine ⟨fun i σ' H' => ∃ v8, σ' = [some (.ref a), some (.ref b), some (.ref b2), some (.ref c), some (.int (cnt some_)), some (.int (turnN some_ : Int)), some (.ref nz), some (.ref dr), v8, v9, none] ∧ Ex H10 H', ⟨_, rfl, Ex.refl _⟩, fun i σ' H' ⟨_, _, e⟩ => e, ?_, ?_⟩
      · rintro i f ss σ' H11 hi hF ⟨v8, rfl, e11⟩
        have hss : ss.length ≤ 1000 := by
          match i, hi with
          | 0, hi => cases hi; omega
          | 1, hi => cases hi; rw [List.length_map]; omega
          | 2, hi => cases hi; omega
          | 3, hi => cases hi; rw [List.length_append]; show _ + 1 ≤ 1000; omega
          | 4, hi => cases hi; rw [List.length_drop]; omega
          | 5, hi => cases hi; rw [List.length_reverse]; omega
          | _ + 6, hi => simp at hi
        exact s_when (b := !true) (et_not (et_B (ev_call (ea_cons (ev_var rfl) (ea_cons (ev_var rfl) ea_nil)) (spv_dead_right (ex_l (e10.trans e11) hC9) hF (by omega) hss)))) (fun q => nomatch q) (fun _ H12 e12 => ⟨some (.ref f), rfl, e11.trans e12⟩)
      rintro σ' H11 ⟨v8, rfl, e11⟩
      have hC11 := ex_l (e10.trans e11) hC9
      have hn11 := (e10.trans e11) _ _ hn9
      clear hr10 h10
      -- a number set ahead
      refine s_forU (xs := [.int (-1), .int (if some_ = [] then 5 else some_.getD 0 0), .int 1]) (eu_tup (ea_cons (ev_un ev_c ru_neg) (ea_cons (ev_if (b := !decide (some_ = [])) (et_test (ev_opSL (ev_var rfl) (el_lst ea_nil (Nat.zero_le _)) fun q H12 h12 e12 => rv_neDI (ms := []) (ex_l e12 hC11) (sq_of h12))) (fun hb => ?_) (fun hb => ?_)) (ea_cons ev_c ea_nil))) (by show 3 ≤ 100000; decide)) fun tp3 H12 htp3 e12 h12 => ?_
      · have hne : ¬ some_ = [] := fun z => by rw [decide_eq_true z] at hb; cases hb
        have hpos : 0 < some_.length := List.length_pos_iff.mpr hne
        rw [if_neg hne]
        exact ev_op (ev_var rfl) ev_c (rv_ixZ hC11 (by decide) (by omega))
      · have he : some_ = [] := by
          by_cases z : some_ = []
          · exact z
          · rw [decide_eq_false z] at hb; cases hb
        rw [if_pos he]
        exact ev_c
      refine ⟨fun i σ' H' => ∃ v9, σ' = [some (.ref a), some (.ref b), some (.ref b2), some (.ref c), some (.int (cnt some_)), some (.int (turnN some_ : Int)), some (.ref nz), some (.ref dr), v8, v9, none] ∧ Ex H12 H', ⟨_, rfl, Ex.refl _⟩, fun i σ' H' ⟨_, _, e⟩ => e _ _ h12, ?_, ?_⟩
      · rintro i x σ' H13 hx ⟨v9, rfl, e13⟩
        obtain ⟨z, rfl⟩ : ∃ z : Int, x = .int z := by
          match i, hx with
          | 0, hx => cases hx; exact ⟨_, rfl⟩
          | 1, hx => cases hx; exact ⟨_, rfl⟩
          | 2, hx => cases hx; exact ⟨_, rfl⟩
          | _ + 3, hx => simp at hx
        have hC13 := ex_l (e12.trans e13) hC11
        have hn13 := (e12.trans e13) _ _ hn11
        refine s_when (b := !true) (et_not (et_B (ev_callSL (ys := (z :: nought.drop 1).map V.int) (ev_var rfl) (by
          show EvL _ _ _ ([V.int z] ++ (nought.drop 1).map V.int)
          exact el_catLL (el_lst (ea_cons (ev_var rfl) ea_nil) (by show 1 ≤ 100000; decide)) (el_tail (n := 1) (sq_of hn13) (ev_var rfl)) (by rw [List.length_map, List.length_drop]; show 1 + _ ≤ 100000; omega)) fun q H14 h14 e14 => spv_dead_right (ex_l e14 hC13) (sq_of h14) (by omega) (by rw [List.length_cons, List.length_drop]; omega)))) (fun q => nomatch q) (fun _ H14 e14 => ⟨some (.int z), rfl, e13.trans e14⟩)
      · rintro σ' H13 ⟨v9, rfl, e13⟩
        exact ⟨some (.ref c), some (.int (cnt some_)), some (.int (turnN some_ : Int)), some (.ref nz), some (.ref dr), v8, v9, rfl, (((((e4.trans e47).trans e8).trans e9).trans (e10.trans e11)).trans e12).trans e13⟩
    rintro σ' H4 ⟨v3, v4, v5, v6, v7, v8, v9, rfl, e4⟩
    have hW4 := ex_l (e3.trans e4) hW2
    have hb4 := (e3.trans e4) _ _ h2
    have d1 : deadB [3] [1] = false := by decide +kernel
    have d2 : deadB [3] [2] = true := by decide +kernel
    refine q_when (b := (!(decide (deadB [3] [1] = false)) || !(decide (deadB [3] [2] = true)))) (et_or (et_not (et_B (ev_call (ea_cons (ev_methDL (ws := [3]) (ss := [1]) (el_lst (ea_cons ev_c ea_nil) (by show 1 ≤ 100000; decide)) (el_lst (ea_cons ev_c ea_nil) (by show 1 ≤ 100000; decide)) (by decide) (by decide)) (ea_cons ev_c ea_nil)) spv_says))) fun _ => et_not (et_B (ev_call (ea_cons (ev_methDL (ws := [3]) (ss := [2]) (el_lst (ea_cons ev_c ea_nil) (by show 1 ≤ 100000; decide)) (el_lst (ea_cons ev_c ea_nil) (by show 1 ≤ 100000; decide)) (by decide) (by decide)) (ea_cons ev_c ea_nil)) spv_says)))
      (fun q => by rw [d1, d2] at q; simp at q) (fun _ H5 e5 => ?_)
    exact s_ret (ev_call (ea_cons (ev_var rfl) (ea_cons (ev_var rfl) ea_nil)) (spv_dead_right (ex_l e5 hW4) (sq_of (e5 _ _ hb4)) (by omega) (by rw [List.length_map]; omega))) fun H6 e6 => k H6
section
/-! ### what the top has written; the law's own head -/
theorem all_mk {l : PySem.W.OpenLaw} {w : World} {K : PySem.W.Frag} {h : Heap} {mg : Str → Option Value} {fa : Addr} (X : K.In h) (G : h.Ns mainGlobals mg) (hfa : mg "law" = some (.ref fa))
    {f0 : Addr} {od0 an0 : Option Addr} {sl0 : Array (Option Value)} {oc0 kV0 dc0 pm0 cd0 ct0 : Value}
    {f1 : Addr} {od1 an1 : Option Addr} {sl1 : Array (Option Value)} {oc1 kV1 dc1 pm1 cd1 ct1 : Value}
    {f2 : Addr} {od2 an2 : Option Addr} {sl2 : Array (Option Value)} {oc2 kV2 dc2 pm2 cd2 ct2 : Value}
    {f3 : Addr} {od3 an3 : Option Addr} {sl3 : Array (Option Value)} {oc3 kV3 dc3 pm3 cd3 ct3 : Value}
    {f4 : Addr} {od4 an4 : Option Addr} {sl4 : Array (Option Value)} {oc4 kV4 dc4 pm4 cd4 ct4 : Value}
    {f5 : Addr} {od5 an5 : Option Addr} {sl5 : Array (Option Value)} {oc5 kV5 dc5 pm5 cd5 ct5 : Value}
    {f6 : Addr} {od6 an6 : Option Addr} {sl6 : Array (Option Value)} {oc6 kV6 dc6 pm6 cd6 ct6 : Value}
    {f7 : Addr} {od7 an7 : Option Addr} {sl7 : Array (Option Value)} {oc7 kV7 dc7 pm7 cd7 ct7 : Value}
    {f8 : Addr} {od8 an8 : Option Addr} {sl8 : Array (Option Value)} {oc8 kV8 dc8 pm8 cd8 ct8 : Value}
    {f9 : Addr} {od9 an9 : Option Addr} {sl9 : Array (Option Value)} {oc9 kV9 dc9 pm9 cd9 ct9 : Value}
    {f10 : Addr} {od10 an10 : Option Addr} {sl10 : Array (Option Value)} {oc10 kV10 dc10 pm10 cd10 ct10 : Value}
    {f11 : Addr} {od11 an11 : Option Addr} {sl11 : Array (Option Value)} {oc11 kV11 dc11 pm11 cd11 ct11 : Value}
    {f12 : Addr} {od12 an12 : Option Addr} {sl12 : Array (Option Value)} {oc12 kV12 dc12 pm12 cd12 ct12 : Value}
    {f13 : Addr} {od13 an13 : Option Addr} {sl13 : Array (Option Value)} {oc13 kV13 dc13 pm13 cd13 ct13 : Value}
    {CAround : Addr}
    {CDead : Addr}
    {COdd : Addr}
    {f100 : Addr} {od100 an100 : Option Addr} {sl100 : Array (Option Value)} {oc100 kV100 dc100 pm100 cd100 ct100 : Value}
    {f101 : Addr} {od101 an101 : Option Addr} {sl101 : Array (Option Value)} {oc101 kV101 dc101 pm101 cd101 ct101 : Value}
    {f102 : Addr} {od102 an102 : Option Addr} {sl102 : Array (Option Value)} {oc102 kV102 dc102 pm102 cd102 ct102 : Value}
    {f103 : Addr} {od103 an103 : Option Addr} {sl103 : Array (Option Value)} {oc103 kV103 dc103 pm103 cd103 ct103 : Value}
    (a0 : PySem.W.nsIn K mainGlobals "is_whole" = some (some (.ref f0))) (l0 : K.lookup f0 = some ⟨oc0, od0, .func (PySem.W.fnOf "is_whole" "is_whole" (defArgs S_is_whole) (defBody S_is_whole) (defScope S_is_whole) .none kV0 dc0 pm0 an0 cd0 ct0), sl0⟩) (c0 : PySem.W.codeIn K cd0 "is_whole" = true) (k0 : PySem.W.keepIn K (.ref f0) = true)
    (a1 : PySem.W.nsIn K mainGlobals "is_setting" = some (some (.ref f1))) (l1 : K.lookup f1 = some ⟨oc1, od1, .func (PySem.W.fnOf "is_setting" "is_setting" (defArgs S_is_setting) (defBody S_is_setting) (defScope S_is_setting) .none kV1 dc1 pm1 an1 cd1 ct1), sl1⟩) (c1 : PySem.W.codeIn K cd1 "is_setting" = true) (k1 : PySem.W.keepIn K (.ref f1) = true)
    (a2 : PySem.W.nsIn K mainGlobals "count_of" = some (some (.ref f2))) (l2 : K.lookup f2 = some ⟨oc2, od2, .func (PySem.W.fnOf "count_of" "count_of" (defArgs S_count_of) (defBody S_count_of) (defScope S_count_of) .none kV2 dc2 pm2 an2 cd2 ct2), sl2⟩) (c2 : PySem.W.codeIn K cd2 "count_of" = true) (k2 : PySem.W.keepIn K (.ref f2) = true)
    (a3 : PySem.W.nsIn K mainGlobals "neighbours" = some (some (.ref f3))) (l3 : K.lookup f3 = some ⟨oc3, od3, .func (PySem.W.fnOf "neighbours" "neighbours" (defArgs S_neighbours) (defBody S_neighbours) (defScope S_neighbours) .none kV3 dc3 pm3 an3 cd3 ct3), sl3⟩) (c3 : PySem.W.codeIn K cd3 "neighbours" = true) (k3 : PySem.W.keepIn K (.ref f3) = true)
    (a4 : PySem.W.nsIn K mainGlobals "turning" = some (some (.ref f4))) (l4 : K.lookup f4 = some ⟨oc4, od4, .func (PySem.W.fnOf "turning" "turning" (defArgs S_turning) (defBody S_turning) (defScope S_turning) .none kV4 dc4 pm4 an4 cd4 ct4), sl4⟩) (c4 : PySem.W.codeIn K cd4 "turning" = true) (k4 : PySem.W.keepIn K (.ref f4) = true)
    (a5 : PySem.W.nsIn K mainGlobals "_law_cell_at" = some (some (.ref f5))) (l5 : K.lookup f5 = some ⟨oc5, od5, .func (PySem.W.fnOf "_law_cell_at" "_law_cell_at" (defArgs S_law_cell_at) (defBody S_law_cell_at) (defScope S_law_cell_at) .none kV5 dc5 pm5 an5 cd5 ct5), sl5⟩) (c5 : PySem.W.codeIn K cd5 "_law_cell_at" = true) (k5 : PySem.W.keepIn K (.ref f5) = true)
    (a6 : PySem.W.nsIn K mainGlobals "_law_draw" = some (some (.ref f6))) (l6 : K.lookup f6 = some ⟨oc6, od6, .func (PySem.W.fnOf "_law_draw" "_law_draw" (defArgs S_law_draw) (defBody S_law_draw) (defScope S_law_draw) .none kV6 dc6 pm6 an6 cd6 ct6), sl6⟩) (c6 : PySem.W.codeIn K cd6 "_law_draw" = true) (k6 : PySem.W.keepIn K (.ref f6) = true)
    (a7 : PySem.W.nsIn K mainGlobals "_law_wheels" = some (some (.ref f7))) (l7 : K.lookup f7 = some ⟨oc7, od7, .func (PySem.W.fnOf "_law_wheels" "_law_wheels" (defArgs S_law_wheels) (defBody S_law_wheels) (defScope S_law_wheels) .none kV7 dc7 pm7 an7 cd7 ct7), sl7⟩) (c7 : PySem.W.codeIn K cd7 "_law_wheels" = true) (k7 : PySem.W.keepIn K (.ref f7) = true)
    (a8 : PySem.W.nsIn K mainGlobals "_law_setting" = some (some (.ref f8))) (l8 : K.lookup f8 = some ⟨oc8, od8, .func (PySem.W.fnOf "_law_setting" "_law_setting" (defArgs S_law_setting) (defBody S_law_setting) (defScope S_law_setting) .none kV8 dc8 pm8 an8 cd8 ct8), sl8⟩) (c8 : PySem.W.codeIn K cd8 "_law_setting" = true) (k8 : PySem.W.keepIn K (.ref f8) = true)
    (a9 : PySem.W.nsIn K mainGlobals "_law_count" = some (some (.ref f9))) (l9 : K.lookup f9 = some ⟨oc9, od9, .func (PySem.W.fnOf "_law_count" "_law_count" (defArgs S_law_count) (defBody S_law_count) (defScope S_law_count) .none kV9 dc9 pm9 an9 cd9 ct9), sl9⟩) (c9 : PySem.W.codeIn K cd9 "_law_count" = true) (k9 : PySem.W.keepIn K (.ref f9) = true)
    (a10 : PySem.W.nsIn K mainGlobals "_law_is_setting" = some (some (.ref f10))) (l10 : K.lookup f10 = some ⟨oc10, od10, .func (PySem.W.fnOf "_law_is_setting" "_law_is_setting" (defArgs S_law_is_setting) (defBody S_law_is_setting) (defScope S_law_is_setting) .none kV10 dc10 pm10 an10 cd10 ct10), sl10⟩) (c10 : PySem.W.codeIn K cd10 "_law_is_setting" = true) (k10 : PySem.W.keepIn K (.ref f10) = true)
    (a11 : PySem.W.nsIn K mainGlobals "_law_says" = some (some (.ref f11))) (l11 : K.lookup f11 = some ⟨oc11, od11, .func (PySem.W.fnOf "_law_says" "_law_says" (defArgs S_law_says) (defBody S_law_says) (defScope S_law_says) .none kV11 dc11 pm11 an11 cd11 ct11), sl11⟩) (c11 : PySem.W.codeIn K cd11 "_law_says" = true) (k11 : PySem.W.keepIn K (.ref f11) = true)
    (a12 : PySem.W.nsIn K mainGlobals "_law_dead_right" = some (some (.ref f12))) (l12 : K.lookup f12 = some ⟨oc12, od12, .func (PySem.W.fnOf "_law_dead_right" "_law_dead_right" (defArgs S_law_dead_right) (defBody S_law_dead_right) (defScope S_law_dead_right) .none kV12 dc12 pm12 an12 cd12 ct12), sl12⟩) (c12 : PySem.W.codeIn K cd12 "_law_dead_right" = true) (k12 : PySem.W.keepIn K (.ref f12) = true)
    (a13 : PySem.W.nsIn K mainGlobals "law" = some (some (.ref f13))) (l13 : K.lookup f13 = some ⟨oc13, od13, .func (PySem.W.fnOf "law" "law" (defArgs S_law) (defBody S_law) (defScope S_law) .none kV13 dc13 pm13 an13 cd13 ct13), sl13⟩) (c13 : PySem.W.codeIn K cd13 "law" = true) (k13 : PySem.W.keepIn K (.ref f13) = true)
    (gAround : PySem.W.nsIn K mainGlobals "Around" = some (some (.ref CAround))) (pgAround : PySem.W.plainGet K CAround Str.empty = true) (hdAround : PySem.W.hasDictIn K CAround = true) (poAround : PySem.W.plainOver K CAround = true) (saAround : PySem.W.findIn K (.ref CAround) "__setattr__" = some (some (.builtin "object.__setattr__"))) (mkAround : PySem.W.makesIn K CAround = true) (kcAround : PySem.W.keepIn K (.ref CAround) = true)
    (gDead : PySem.W.nsIn K mainGlobals "Dead" = some (some (.ref CDead))) (pgDead : PySem.W.plainGet K CDead Str.empty = true) (hdDead : PySem.W.hasDictIn K CDead = true) (poDead : PySem.W.plainOver K CDead = true) (saDead : PySem.W.findIn K (.ref CDead) "__setattr__" = some (some (.builtin "object.__setattr__"))) (mkDead : PySem.W.makesIn K CDead = true) (kcDead : PySem.W.keepIn K (.ref CDead) = true)
    (gOdd : PySem.W.nsIn K mainGlobals "Odd" = some (some (.ref COdd))) (pgOdd : PySem.W.plainGet K COdd Str.empty = true) (hdOdd : PySem.W.hasDictIn K COdd = true) (poOdd : PySem.W.plainOver K COdd = true) (saOdd : PySem.W.findIn K (.ref COdd) "__setattr__" = some (some (.builtin "object.__setattr__"))) (mkOdd : PySem.W.makesIn K COdd = true) (kcOdd : PySem.W.keepIn K (.ref COdd) = true)
    (inAround : PySem.W.findIn K (.ref CAround) "__init__" = some (some (.builtin "object.__init__")))
    (inOdd : PySem.W.findIn K (.ref COdd) "__init__" = some (some (.builtin "object.__init__")))
    (a100 : PySem.W.findIn K (.ref CAround) "shows" = some (some (.ref f100))) (i100 : PySem.W.isFn K (.ref f100) = true) (l100 : K.lookup f100 = some ⟨oc100, od100, .func (PySem.W.fnOf "shows" "Around.shows" (defArgs S_Around_shows) (defBody S_Around_shows) (defScope S_Around_shows) .none kV100 dc100 pm100 an100 cd100 ct100), sl100⟩) (c100 : PySem.W.codeIn K cd100 "Around.shows" = true) (k100 : PySem.W.keepIn K (.ref f100) = true)
    (a101 : PySem.W.findIn K (.ref CDead) "__init__" = some (some (.ref f101))) (i101 : PySem.W.isFn K (.ref f101) = true) (l101 : K.lookup f101 = some ⟨oc101, od101, .func (PySem.W.fnOf "__init__" "Dead.__init__" (defArgs S_Dead_init) (defBody S_Dead_init) (defScope S_Dead_init) .none kV101 dc101 pm101 an101 cd101 ct101), sl101⟩) (c101 : PySem.W.codeIn K cd101 "Dead.__init__" = true) (k101 : PySem.W.keepIn K (.ref f101) = true)
    (a102 : PySem.W.findIn K (.ref CDead) "shows" = some (some (.ref f102))) (i102 : PySem.W.isFn K (.ref f102) = true) (l102 : K.lookup f102 = some ⟨oc102, od102, .func (PySem.W.fnOf "shows" "Dead.shows" (defArgs S_Dead_shows) (defBody S_Dead_shows) (defScope S_Dead_shows) .none kV102 dc102 pm102 an102 cd102 ct102), sl102⟩) (c102 : PySem.W.codeIn K cd102 "Dead.shows" = true) (k102 : PySem.W.keepIn K (.ref f102) = true)
    (a103 : PySem.W.findIn K (.ref COdd) "shows" = some (some (.ref f103))) (i103 : PySem.W.isFn K (.ref f103) = true) (l103 : K.lookup f103 = some ⟨oc103, od103, .func (PySem.W.fnOf "shows" "Odd.shows" (defArgs S_Odd_shows) (defBody S_Odd_shows) (defScope S_Odd_shows) .none kV103 dc103 pm103 an103 cd103 ct103), sl103⟩) (c103 : PySem.W.codeIn K cd103 "Odd.shows" = true) (k103 : PySem.W.keepIn K (.ref f103) = true)
    (nasetting : PySem.W.findIn K (.ref CDead) "setting" = some none)
    (zall : PySem.W.nsIn K mainGlobals "all" = some none)
    (zany : PySem.W.nsIn K mainGlobals "any" = some none)
    (zbool : PySem.W.nsIn K mainGlobals "bool" = some none)
    (zenumerate : PySem.W.nsIn K mainGlobals "enumerate" = some none)
    (zint : PySem.W.nsIn K mainGlobals "int" = some none)
    (zisinstance : PySem.W.nsIn K mainGlobals "isinstance" = some none)
    (zlen : PySem.W.nsIn K mainGlobals "len" = some none)
    (zlist : PySem.W.nsIn K mainGlobals "list" = some none)
    (zrange : PySem.W.nsIn K mainGlobals "range" = some none)
    (zsorted : PySem.W.nsIn K mainGlobals "sorted" = some none)
    (zsum : PySem.W.nsIn K mainGlobals "sum" = some none)
    (zzip : PySem.W.nsIn K mainGlobals "zip" = some none)
    : ∃ fd : FuncData, (∀ (s : Shared) (v : Value), BindsTo s fd ⟨[v], []⟩ [("_law_script", v)]) ∧ ∀ base : Heap, K.In base → base.Ns mainGlobals mg → FnOk l.prog w K mg base CX0 5 fa fd ["_law_script"] (sp_law K ⟨0, 0, 0, 0, 0, 0, 0, 0, 0, 0⟩) := by
  have e := hfa.symm.trans (PySem.W.mg_of X G a13)
  cases e
  have T : Txt K mg ⟨0, 0, 0, 0, 0, 0, 0, CAround, CDead, COdd⟩ := {
    d_is_whole := ⟨_, _, fun_mk (st := S_is_whole) l0 c0 k0, PySem.W.mg_of X G a0, (fun_mk (st := S_is_whole) l0 c0 k0).binds (ps := ["thing"]) fun _ _ _ _ _ _ us hl => match us, hl with | [_], _ => rfl⟩
    d_is_setting := ⟨_, _, fun_mk (st := S_is_setting) l1 c1 k1, PySem.W.mg_of X G a1, (fun_mk (st := S_is_setting) l1 c1 k1).binds (ps := ["wheels", "setting"]) fun _ _ _ _ _ _ us hl => match us, hl with | [_, _], _ => rfl⟩
    d_count_of := ⟨_, _, fun_mk (st := S_count_of) l2 c2 k2, PySem.W.mg_of X G a2, (fun_mk (st := S_count_of) l2 c2 k2).binds (ps := ["wheels"]) fun _ _ _ _ _ _ us hl => match us, hl with | [_], _ => rfl⟩
    d_neighbours := ⟨_, _, fun_mk (st := S_neighbours) l3 c3 k3, PySem.W.mg_of X G a3, (fun_mk (st := S_neighbours) l3 c3 k3).binds (ps := ["wheels", "setting"]) fun _ _ _ _ _ _ us hl => match us, hl with | [_, _], _ => rfl⟩
    d_turning := ⟨_, _, fun_mk (st := S_turning) l4 c4 k4, PySem.W.mg_of X G a4, (fun_mk (st := S_turning) l4 c4 k4).binds (ps := ["wheels"]) fun _ _ _ _ _ _ us hl => match us, hl with | [_], _ => rfl⟩
    d_law_cell_at := ⟨_, _, fun_mk (st := S_law_cell_at) l5 c5 k5, PySem.W.mg_of X G a5, (fun_mk (st := S_law_cell_at) l5 c5 k5).binds (ps := ["_law_script", "_law_k"]) fun _ _ _ _ _ _ us hl => match us, hl with | [_, _], _ => rfl⟩
    d_law_draw := ⟨_, _, fun_mk (st := S_law_draw) l6 c6 k6, PySem.W.mg_of X G a6, (fun_mk (st := S_law_draw) l6 c6 k6).binds (ps := ["_law_cell", "_law_k", "_law_many"]) fun _ _ _ _ _ _ us hl => match us, hl with | [_, _, _], _ => rfl⟩
    d_law_wheels := ⟨_, _, fun_mk (st := S_law_wheels) l7 c7 k7, PySem.W.mg_of X G a7, (fun_mk (st := S_law_wheels) l7 c7 k7).binds (ps := ["_law_script"]) fun _ _ _ _ _ _ us hl => match us, hl with | [_], _ => rfl⟩
    d_law_setting := ⟨_, _, fun_mk (st := S_law_setting) l8 c8 k8, PySem.W.mg_of X G a8, (fun_mk (st := S_law_setting) l8 c8 k8).binds (ps := ["_law_script", "_law_wheels_here", "_law_by"]) fun _ _ _ _ _ _ us hl => match us, hl with | [_, _, _], _ => rfl⟩
    d_law_count := ⟨_, _, fun_mk (st := S_law_count) l9 c9 k9, PySem.W.mg_of X G a9, (fun_mk (st := S_law_count) l9 c9 k9).binds (ps := ["_law_wheels_here"]) fun _ _ _ _ _ _ us hl => match us, hl with | [_], _ => rfl⟩
    d_law_is_setting := ⟨_, _, fun_mk (st := S_law_is_setting) l10 c10 k10, PySem.W.mg_of X G a10, (fun_mk (st := S_law_is_setting) l10 c10 k10).binds (ps := ["_law_wheels_here", "_law_found"]) fun _ _ _ _ _ _ us hl => match us, hl with | [_, _], _ => rfl⟩
    d_law_says := ⟨_, _, fun_mk (st := S_law_says) l11 c11 k11, PySem.W.mg_of X G a11, (fun_mk (st := S_law_says) l11 c11 k11).binds (ps := ["_law_said", "_law_due"]) fun _ _ _ _ _ _ us hl => match us, hl with | [_, _], _ => rfl⟩
    d_law_dead_right := ⟨_, _, fun_mk (st := S_law_dead_right) l12 c12 k12, PySem.W.mg_of X G a12, (fun_mk (st := S_law_dead_right) l12 c12 k12).binds (ps := ["_law_wheels_here", "_law_setting_here"]) fun _ _ _ _ _ _ us hl => match us, hl with | [_, _], _ => rfl⟩
    d_law := ⟨_, _, fun_mk (st := S_law) l13 c13 k13, PySem.W.mg_of X G a13, (fun_mk (st := S_law) l13 c13 k13).binds (ps := ["_law_script"]) fun _ _ _ _ _ _ us hl => match us, hl with | [_], _ => rfl⟩
    b_all := PySem.W.mg_none_of X G zall
    b_any := PySem.W.mg_none_of X G zany
    b_bool := PySem.W.mg_none_of X G zbool
    b_enumerate := PySem.W.mg_none_of X G zenumerate
    b_int := PySem.W.mg_none_of X G zint
    b_isinstance := PySem.W.mg_none_of X G zisinstance
    b_len := PySem.W.mg_none_of X G zlen
    b_list := PySem.W.mg_none_of X G zlist
    b_range := PySem.W.mg_none_of X G zrange
    b_sorted := PySem.W.mg_none_of X G zsorted
    b_sum := PySem.W.mg_none_of X G zsum
    b_zip := PySem.W.mg_none_of X G zzip
    c_Around := ⟨PySem.W.mg_of X G gAround, ⟨pgAround, hdAround, poAround, saAround⟩, mkAround, kcAround⟩
    c_Dead := ⟨PySem.W.mg_of X G gDead, ⟨pgDead, hdDead, poDead, saDead⟩, mkDead, kcDead⟩
    c_Odd := ⟨PySem.W.mg_of X G gOdd, ⟨pgOdd, hdOdd, poOdd, saOdd⟩, mkOdd, kcOdd⟩
    i_Around := inAround
    i_Odd := inOdd
    m_Around_shows := ⟨_, _, fun_mk (st := S_Around_shows) l100 c100 k100, ⟨a100, i100, k100⟩, (fun_mk (st := S_Around_shows) l100 c100 k100).binds (ps := ["self", "wheels"]) fun _ _ _ _ _ _ us hl => match us, hl with | [_, _], _ => rfl⟩
    m_Dead_init := ⟨_, _, fun_mk (st := S_Dead_init) l101 c101 k101, ⟨a101, i101, k101⟩, (fun_mk (st := S_Dead_init) l101 c101 k101).binds (ps := ["self", "setting"]) fun _ _ _ _ _ _ us hl => match us, hl with | [_, _], _ => rfl⟩
    m_Dead_shows := ⟨_, _, fun_mk (st := S_Dead_shows) l102 c102 k102, ⟨a102, i102, k102⟩, (fun_mk (st := S_Dead_shows) l102 c102 k102).binds (ps := ["self", "wheels"]) fun _ _ _ _ _ _ us hl => match us, hl with | [_, _], _ => rfl⟩
    m_Odd_shows := ⟨_, _, fun_mk (st := S_Odd_shows) l103 c103 k103, ⟨a103, i103, k103⟩, (fun_mk (st := S_Odd_shows) l103 c103 k103).binds (ps := ["self", "wheels"]) fun _ _ _ _ _ _ us hl => match us, hl with | [_, _], _ => rfl⟩
    n_setting := nasetting
  }
  refine ⟨PySem.W.fnOf "law" "law" (defArgs S_law) (defBody S_law) (defScope S_law) .none kV13 dc13 pm13 an13 cd13 ct13, fun s v => .of_eq rfl, fun base _ _ => ?_⟩
  have z := ok_law (P := l.prog) (w := w) (base := base) (fun_mk (st := S_law) l13 c13 k13) T
  exact z
end
end WW
open PySem PySem.W PyProof.Rows
set_option maxHeartbeats 0 in
theorem PySem.Challenge.cw_wheelways_k04_answers_by_hand_holds : PySem.Challenge.rw_wheelways_k04_answers_by_hand.Holds := by
  w_on; o_law; k_head; (case hw => w_witness2)
  k_fill
  refine L2.walk_of (l := PySem.Challenge.rw_wheelways_k04_answers_by_hand) (n := 63) (k := 5) (x := "_law_script") (CX := fun _ => L2.CX0) (sp := fun w => WW.sp_law _ ⟨0, 0, 0, 0, 0, 0, 0, 0, 0, 0⟩) rfl (by decide) rfl ⟨rfl, by decide, by decide⟩ (fun w h Y => PySem.W.kIn_of Y) ?F (fun _ _ a ns hl _ hS => ⟨a, ns, rfl, hS, hl, fun _ => rfl⟩) (fun _ _ _ _ _ h => h)
  case F =>
    intro w mg fa h KX G hmg
    refine' WW.all_mk KX G hmg ?a0 ?l0 ?c0 ?k0 ?a1 ?l1 ?c1 ?k1 ?a2 ?l2 ?c2 ?k2 ?a3 ?l3 ?c3 ?k3 ?a4 ?l4 ?c4 ?k4 ?a5 ?l5 ?c5 ?k5 ?a6 ?l6 ?c6 ?k6 ?a7 ?l7 ?c7 ?k7 ?a8 ?l8 ?c8 ?k8 ?a9 ?l9 ?c9 ?k9 ?a10 ?l10 ?c10 ?k10 ?a11 ?l11 ?c11 ?k11 ?a12 ?l12 ?c12 ?k12 ?a13 ?l13 ?c13 ?k13 ?gAround ?pgAround ?hdAround ?poAround ?saAround ?mkAround ?kcAround ?gDead ?pgDead ?hdDead ?poDead ?saDead ?mkDead ?kcDead ?gOdd ?pgOdd ?hdOdd ?poOdd ?saOdd ?mkOdd ?kcOdd ?inAround ?inOdd ?a100 ?i100 ?l100 ?c100 ?k100 ?a101 ?i101 ?l101 ?c101 ?k101 ?a102 ?i102 ?l102 ?c102 ?k102 ?a103 ?i103 ?l103 ?c103 ?k103 ?nasetting ?zall ?zany ?zbool ?zenumerate ?zint ?zisinstance ?zlen ?zlist ?zrange ?zsorted ?zsum ?zzip
    (case a0 => k_is); (case l0 => k_is); (case c0 => k_is); (case k0 => k_is); (case a1 => k_is); (case l1 => k_is); (case c1 => k_is); (case k1 => k_is); (case a2 => k_is); (case l2 => k_is); (case c2 => k_is); (case k2 => k_is); (case a3 => k_is); (case l3 => k_is); (case c3 => k_is); (case k3 => k_is); (case a4 => k_is); (case l4 => k_is); (case c4 => k_is); (case k4 => k_is); (case a5 => k_is); (case l5 => k_is); (case c5 => k_is); (case k5 => k_is); (case a6 => k_is); (case l6 => k_is); (case c6 => k_is); (case k6 => k_is); (case a7 => k_is); (case l7 => k_is); (case c7 => k_is); (case k7 => k_is); (case a8 => k_is); (case l8 => k_is); (case c8 => k_is); (case k8 => k_is); (case a9 => k_is); (case l9 => k_is); (case c9 => k_is); (case k9 => k_is); (case a10 => k_is); (case l10 => k_is); (case c10 => k_is); (case k10 => k_is); (case a11 => k_is); (case l11 => k_is); (case c11 => k_is); (case k11 => k_is); (case a12 => k_is); (case l12 => k_is); (case c12 => k_is); (case k12 => k_is); (case a13 => k_is); (case l13 => k_is); (case c13 => k_is); (case k13 => k_is); (case gAround => k_is); (case pgAround => k_is); (case hdAround => k_is); (case poAround => k_is); (case saAround => k_is); (case mkAround => k_is); (case kcAround => k_is); (case gDead => k_is); (case pgDead => k_is); (case hdDead => k_is); (case poDead => k_is); (case saDead => k_is); (case mkDead => k_is); (case kcDead => k_is); (case gOdd => k_is); (case pgOdd => k_is); (case hdOdd => k_is); (case poOdd => k_is); (case saOdd => k_is); (case mkOdd => k_is); (case kcOdd => k_is); (case inAround => k_is); (case inOdd => k_is); (case a100 => k_is); (case i100 => k_is); (case l100 => k_is); (case c100 => k_is); (case k100 => k_is); (case a101 => k_is); (case i101 => k_is); (case l101 => k_is); (case c101 => k_is); (case k101 => k_is); (case a102 => k_is); (case i102 => k_is); (case l102 => k_is); (case c102 => k_is); (case k102 => k_is); (case a103 => k_is); (case i103 => k_is); (case l103 => k_is); (case c103 => k_is); (case k103 => k_is); (case nasetting => k_is); (case zall => k_is); (case zany => k_is); (case zbool => k_is); (case zenumerate => k_is); (case zint => k_is); (case zisinstance => k_is); (case zlen => k_is); (case zlist => k_is); (case zrange => k_is); (case zsorted => k_is); (case zsum => k_is); (case zzip => k_is)
