import PyProof.Rows.All
import Wide.All
import OpenK.AllK
import Wide.FinOn
import PyProof.EqAt
import PyProof.EqKinds
import PyProof.TupleCall
import PyProof.LongRange
import KE.IntBitsLaws
import HandS.ForMost
import HandS.IsInst
import HandS.EndBits
import HandS.TupLe
import HandS.Style
import HandS.SortInts
import HandS.Conv
import HandS.Codes
import HandS.TryOnly
import HandS.TupLen
import HandS.Flow
import HandS.More
import HandS.SetFor
import PySem.Challenge.RW_pairthrees_k01_whole_thirds
set_option Elab.async false
set_option linter.all false
set_option maxRecDepth 100000
set_option maxHeartbeats 4000000
namespace G66
open PySem PySem.Spec PyProof.Rows L2
/-! sizes of ints -/
def Bt (n : Nat) (x : Int) : Prop := Builtin.Int.intBits x ≤ n
theorem Bt.mono {m n : Nat} {x : Int} (h : Bt m x) (k : m ≤ n) : Bt n x := Nat.le_trans h k
theorem Bt.iff {n : Nat} {x : Int} : Bt n x ↔ x.natAbs < 2 ^ n := intBits_le_iff
theorem Bt.add {n : Nat} {x y : Int} (hx : Bt n x) (hy : Bt n y) : Bt (n + 1) (x + y) := by
  have e := intBits_add_le hx hy
  rw [Nat.max_self] at e
  exact e
theorem Bt.sub {n : Nat} {x y : Int} (hx : Bt n x) (hy : Bt n y) : Bt (n + 1) (x - y) := by
  have e := intBits_sub_le hx hy
  rw [Nat.max_self] at e
  exact e
theorem Bt.mul {m n : Nat} {x y : Int} (hx : Bt m x) (hy : Bt n y) : Bt (m + n) (x * y) := intBits_mul_le hx hy
theorem Bt.le {n : Nat} {x y : Int} (h0 : 0 ≤ x) (h : x ≤ y) (hy : Bt n y) : Bt n x := intBits_le_of_natAbs (by omega) hy
theorem Bt.abs {n : Nat} {x y : Int} (h : x.natAbs ≤ y.natAbs) (hy : Bt n y) : Bt n x := intBits_le_of_natAbs h hy
theorem natAbs_ediv {x y : Int} (h : 0 < y) : (x / y).natAbs ≤ x.natAbs := by
  rw [← Int.fdiv_eq_ediv_of_nonneg x (by omega)]
  exact natAbs_fdiv_le x y
theorem Bt.div {n : Nat} {x y : Int} (hx : Bt n x) (h : 0 < y) : Bt n (x / y) := intBits_le_of_natAbs (natAbs_ediv h) hx
theorem Bt.mod {n : Nat} {x y : Int} (hy : Bt n y) (h : 0 < y) : Bt n (x % y) := Bt.le (Int.emod_nonneg _ (by omega)) (Int.le_of_lt (Int.emod_lt_of_pos _ h)) hy
theorem Bt.small {x : Int} (h : x.natAbs < 18446744073709551616) : Bt 64 x := Bt.iff.mpr h
theorem Bt.big {x : Int} (h : Bt 4000 x) : Bt 4010 (16 * x) := (Bt.mul (Bt.iff.mpr (by decide) : Bt 5 16) h).mono (by decide)
theorem Bt.log {n : Nat} {x : Int} (h : Bt n x) : x.natAbs.log2 ≤ n := by
  unfold Bt Builtin.Int.intBits at h
  split at h
  · rename_i e
    have : x = 0 := by simpa using e
    subst this
    exact Nat.zero_le _
  · omega
def CMulB (i j : Int) : Prop := ∃ m n, Bt m i ∧ Bt n j ∧ m + n ≤ 134217728
def CDivB (_ j : Int) : Prop := 0 < j ∧ Bt 8000 j
section
variable {X : Cx}
theorem op_mulB : OpR X (binaryOp .Mult) (rI CMulB fun i j => .int (i * j)) := opI fun _ _ _ _ _ _ _ ⟨_, _, h1, h2, h3⟩ q => mul_int q (IntMulOk.of_le h1 h2 h3)
theorem op_fdivB : OpR X (binaryOp .FloorDiv) (rI CDivB fun i j => .int (i / j)) := opI fun i j _ _ _ _ _ hc q => by
  obtain ⟨h1, h2⟩ := hc
  have e : i.fdiv j = i / j := Int.fdiv_eq_ediv_of_nonneg i (by omega)
  refine floordiv_int (by omega) (by rw [e]; exact q) (.inl (PyProof.noPylong_of_log2 ?_))
  exact Nat.lt_of_le_of_lt h2.log (by decide)
theorem op_eqI : OpR X (compareOp .Eq) (rI0 fun i j => .bl (decide (i = j))) := opB0 fun i j _ _ _ _ _ q => eq_int (by rw [show (i == j) = decide (i = j) from rfl]; exact q)
theorem op_neI : OpR X (compareOp .NotEq) (rI0 fun i j => .bl (!decide (i = j))) := opB0 fun i j _ _ _ _ _ q => ne_int (by rw [show (i != j) = !decide (i = j) from rfl]; exact q)
theorem call_min2I (hc : X.calm = true) : CallR X (.builtin "min") (fun xs H Q => ∃ i j, xs = [.int i, .int j] ∧ Q (.int (min i j)) H) := by
  intro pins s σ H xs us Q I r h
  obtain ⟨i, j, e, q⟩ := h
  refine call_min2 hc pins s σ H xs us Q I r ⟨i, j, e, ?_⟩
  rw [show (if j < i then j else i) = min i j by split <;> omega]
  exact q
theorem call_max2I (hc : X.calm = true) : CallR X (.builtin "max") (fun xs H Q => ∃ i j, xs = [.int i, .int j] ∧ Q (.int (max i j)) H) := by
  intro pins s σ H xs us Q I r h
  obtain ⟨i, j, e, q⟩ := h
  refine call_max2 hc pins s σ H xs us Q I r ⟨i, j, e, ?_⟩
  rw [show (if j > i then j else i) = max i j by split <;> omega]
  exact q
/-! two readings of one thing -/
theorem pe_either {e : Expr} {t u : TE} (a : PE X e t) (b : PE X e u) : PE X e (fun σ H Q => t σ H Q ∨ u σ H Q) :=
  ⟨fun pins s σ H Q I h => h.elim (fun h => a.run pins s σ H Q I h) fun h => b.run pins s σ H Q I h⟩
theorem pt_either {e : Expr} {t u : TT} (a : PT X e t) (b : PT X e u) : PT X e (fun σ H Q => t σ H Q ∨ u σ H Q) :=
  ⟨fun pins s σ H Q I h => h.elim (fun h => a.run pins s σ H Q I h) fun h => b.run pins s σ H Q I h⟩
/-! C() where no class above has an __init__ of its own -/
structure MkO (K : PySem.W.Frag) (C : Addr) : Prop where
  makes : PySem.W.makesIn K C = true
  init : PySem.W.findIn K (.ref C) "__init__" = some (some (.builtin "object.__init__"))
  kp : PySem.W.keepIn K (.ref C) = true
def tMakeO (C : Addr) : TE := fun _ H Q => ∀ x dx, H x = none → H dx = none → dx ≠ x → Q (.ref x) (upd (upd H dx (.own x)) x (.ins C dx []))
theorem pe_makeO {C : Addr} {x : PySem.Str} {p pos : Pos} (M : MkO X.K C) (hg : Gl X x) (hm : X.mg x = some (.ref C)) (hdb : (x == ("__debug__" : PySem.Str)) = false := by decide) : PE X (.Call (.Name x p) [] [] pos) (tMakeO C) := by
  constructor
  intro pins s σ H Q I h
  refine wpAny_Call_Name_kw (ld_glob I hg hm ?_ hdb)
  refine PySem.W.callWith_K0 I.kIn M.kp ?_
  have q := h (s.heap.objs.size + 1) s.heap.objs.size (I.hok.fresh (Nat.le_succ _)) (I.hok.fresh (Nat.le_refl _)) (Nat.ne_of_lt (Nat.lt_succ_self _))
  have J := Inv.made (C := C) I
  have Y := PySem.W.makes_of (M := model X.prog X.w) I.kIn M.makes
  obtain ⟨hh, g, d, t, os⟩ := s
  refine wpAny_call (make_map0 I.kIn M.makes M.init (fun self => PySem.W.Looks.of_pure (PySem.W.oi_bind self)) ?_)
  have old : ∀ b o, hh.get? b = some o → ((hh.push PySem.W.emptyDict).push (PySem.W.instObj C hh.objs.size)).get? b = some o := fun b o e => Heap.get?_push_of_some _ (Heap.get?_push_of_some _ e)
  have there : ((hh.push PySem.W.emptyDict).push (PySem.W.instObj C hh.objs.size)).get? (hh.objs.size + 1) = some (PySem.W.instObj C hh.objs.size) := by heap_get
  have t1 : PySem.W.Looks (model X.prog X.w) ((hh.push PySem.W.emptyDict).push (PySem.W.instObj C hh.objs.size)) (typeOf (.ref (hh.objs.size + 1))) (.ref C) := (PySem.W.Looks.ld there).andThen .now
  have t2 : PySem.W.Looks (model X.prog X.w) ((hh.push PySem.W.emptyDict).push (PySem.W.instObj C hh.objs.size)) (isInstance (.ref (hh.objs.size + 1)) (.type "object")) true := t1.andThen (Y.top.keeps old)
  refine codeAny_call_builtin PySem.W.oi_plain PySem.W.entry_oi (@PySem.W.check_slot (model X.prog X.w) _ _ _ "object.__init__" "object" "__init__" (.ref (hh.objs.size + 1)) [] [] _ PySem.W.oi_kind PySem.W.oi_split t2 (PySem.W.oi_args _) ?_)
  rw [PySem.W.oi_run]
  refine wpAny_pure (And.intro rfl ?_)
  exact ⟨.ref (hh.objs.size + 1), _, J, rfl, q⟩
/-! a op1 b op2 c op3 d -/
def tChain3 (r1 r2 r3 : R2) (ta tb tc td : TE) : TE := fun σ H Q => ta σ H fun x H1 => tb σ H1 fun y H2 => r1 x y H2 fun z H3 => ∃ k, z = .bl k ∧
  (if k = true then tc σ H3 fun u H4 => r2 y u H4 fun z' H5 => ∃ k', z' = .bl k' ∧ (if k' = true then td σ H5 fun v H6 => r3 u v H6 Q else Q (.bl false) H5) else Q (.bl false) H3)
section
variable {a b c d : Expr} {ta tb tc td : TE} {pos : Pos} {o1 o2 o3 : CmpOp} {r1 r2 r3 : R2}
theorem pe_chain3 (h1 : OpR X (compareOp o1) r1) (h2 : OpR X (compareOp o2) r2) (h3 : OpR X (compareOp o3) r3) (ha : PE X a ta) (hb : PE X b tb) (hc : PE X c tc) (hd : PE X d td)
    (hm : lastMarks [o1, o2, o3] [b, c, d] = false := by with_unfolding_all rfl) : PE X (.Compare a [o1, o2, o3] [b, c, d] pos) (tChain3 r1 r2 r3 ta tb tc td) := by
  constructor
  intro pins s σ H Q I h
  refine Compare_chain (thn (ha.run pins s σ H _ I h) fun v s1 ⟨x, H1, I1, rx, q1⟩ => chain_link (thn (hb.run pins s1 σ H1 _ I1 q1) fun u s2 ⟨y, H2, I2, ry, q2⟩ =>
    thn (h1 pins s2 σ H2 x y v u _ I2 rx ry q2) fun e s3 ⟨z, H3, I3, rz, k, ez, q3⟩ => ?_)) hm
  subst ez; cases rz
  refine wpAny_truthy_bool ?_
  cases k with
  | false => exact ite_ff ⟨.bl false, H3, I3, rfl, q3⟩
  | true =>
    refine ite_tt (chain_link (thn (hc.run pins s3 σ H3 _ I3 q3) fun u2 s4 ⟨y2, H4, I4, ry2, q4⟩ => thn (h2 pins s4 σ H4 y y2 u u2 _ I4 ry ry2 q4) fun e' s5 ⟨z', H5, I5, rz', k', ez', q5⟩ => ?_))
    subst ez'; cases rz'
    refine wpAny_truthy_bool ?_
    cases k' with
    | false => exact ite_ff ⟨.bl false, H5, I5, rfl, q5⟩
    | true => exact ite_tt (chain_last (thn (hd.run pins s5 σ H5 _ I5 q5) fun u3 s6 ⟨y3, H6, I6, ry3, q6⟩ => h3 pins s6 σ H6 y2 y3 u2 u3 Q I6 ry2 ry3 q6))
theorem pt_chain3 (h1 : OpR X (compareOp o1) r1) (h2 : OpR X (compareOp o2) r2) (h3 : OpR X (compareOp o3) r3) (ha : PE X a ta) (hb : PE X b tb) (hc : PE X c tc) (hd : PE X d td)
    (hm : lastMarks [o1, o2, o3] [b, c, d] = false := by with_unfolding_all rfl) : PT X (.Compare a [o1, o2, o3] [b, c, d] pos) (tTest (tChain3 r1 r2 r3 ta tb tc td)) := by
  constructor
  intro pins s σ H Q I h
  refine isTrue_chain (thn (ha.run pins s σ H _ I h) fun v s1 ⟨x, H1, I1, rx, q1⟩ => test_link (thn (hb.run pins s1 σ H1 _ I1 q1) fun u s2 ⟨y, H2, I2, ry, q2⟩ =>
    thn (h1 pins s2 σ H2 x y v u _ I2 rx ry q2) fun e s3 ⟨z, H3, I3, rz, k, ez, q3⟩ => ?_)) hm
  subst ez; cases rz
  refine wpAny_truthy_bool ?_
  cases k with
  | false =>
    obtain ⟨_, e1, q'⟩ := q3
    cases e1
    exact ite_ff ⟨H3, I3, q'⟩
  | true =>
    refine ite_tt (test_link (thn (hc.run pins s3 σ H3 _ I3 q3) fun u2 s4 ⟨y2, H4, I4, ry2, q4⟩ => thn (h2 pins s4 σ H4 y y2 u u2 _ I4 ry ry2 q4) fun e' s5 ⟨z', H5, I5, rz', k', ez', q5⟩ => ?_))
    subst ez'; cases rz'
    refine wpAny_truthy_bool ?_
    cases k' with
    | false =>
      obtain ⟨_, e1, q'⟩ := q5
      cases e1
      exact ite_ff ⟨H5, I5, q'⟩
    | true =>
      refine ite_tt (test_last (thn (hd.run pins s5 σ H5 _ I5 q5) fun u3 s6 ⟨y3, H6, I6, ry3, q6⟩ => thn (h3 pins s6 σ H6 y2 y3 u2 u3 _ I6 ry2 ry3 q6) fun e6 s7 ⟨z7, H7, I7, r7, k7, e7, q7⟩ => ?_))
      subst e7; cases r7
      exact wpAny_truthy_bool ⟨H7, I7, q7⟩
end
end
/-! range(a, b) of any size -/
theorem turn_long {P : Program} {w : World} {K : PySem.W.Frag} {tg : Expr} (it : Addr) (lo : Int) (n : Nat) : Turn P w K tg (Itr lo n) [it] it (fun i h => IsLongIter h it (lo + (i : Nat) * 1) ((n : Int) - (i : Nat)) 1) where
  mem := List.mem_singleton.mpr rfl
  obj := by
    intro i h st b hb
    cases List.mem_singleton.mp hb
    exact ⟨_, st, fun v z => by cases (show Data.fields _ = Data.cell v from z)⟩
  keep := fun i h h' st k => k it (List.mem_singleton.mpr rfl) _ st
  item := by
    intro X e1 e2 e3 hc i pins s σ H E I hf st hg
    subst e1 e2 e3
    obtain ⟨f0, f1, f2, f3, f4, f5⟩ := hf it (List.mem_singleton.mpr rfl)
    refine (Walks.longrange (prog := X.prog) (w := X.w) (I.ok.hd hc) it lo 1 n).item i s _ _ hg st fun v h' tk hv st' kk => ?_
    obtain ⟨t, rfl⟩ := hv
    have J : Inv X pins σ H { s with heap := h', toks := tk } := I.turned (fun b o hb e => kk b o (fun z => hb (List.mem_singleton.mp z)) e) f0 f1 f3 f4 f5
    refine ⟨_, rfl, go_of (s := { s with heap := h', toks := tk }) (n := "longrange_iterator") st' rfl rfl (by decide) ?_⟩
    refine ⟨.int (lo + i), H, J, ⟨t, by rw [Int.mul_one]⟩, ⟨rfl, rfl⟩, st', fun b hb => (hf b hb).1⟩
  done := by
    intro X e1 e2 e3 hc i pins s σ H E I hf st hg
    subst e1 e2 e3
    obtain ⟨f0, f1, f2, f3, f4, f5⟩ := hf it (List.mem_singleton.mpr rfl)
    have hg' : n ≤ i := hg
    exact wpAny_pyNext_long_end (I.ok.hd hc) st (by omega) fun h' eb => ⟨rfl, I.turned (t' := s.toks) (fun b o hb e => eb b o hb e) f0 f1 f3 f4 f5⟩
  self := fun _ _ _ _ _ st h => wpAny_pyIter_longiter st h
section
variable {X : Cx} {tg : Expr}
theorem range_any {pins : List (Addr × Obj)} {σ : L2.St} {H : Hp} {s : Shared} {R : It → Hp → Prop} {E : Value → Shared → Prop} {lo hi : Int} {t u v : Tok} {tk : Nat} (I : Inv X pins σ H s)
    (q : R (Itr lo (hi - lo).toNat) H) : wpAny (model X.prog X.w) X.A (pyIter (.ref s.heap.objs.size)) (PIE X pins σ tg R) E { s with heap := s.heap.push { cls := .type "range", data := .fields #[.int lo t, .int hi u, .int 1 v] }, toks := tk } := by
  have J : Inv X pins σ H { s with heap := s.heap.push { cls := .type "range", data := .fields #[.int lo t, .int hi u, .int 1 v] }, toks := tk } := I.kept fun b o e => Heap.get?_push_of_some _ e
  have e1 : lo + ((0 : Nat) : Int) * 1 = lo := by simp
  have e2 : (((hi - lo).toNat : Nat) : Int) - ((0 : Nat) : Int) = Builtin.Range.rangeSize lo hi 1 := by
    rw [rangeSize_one]
    split <;> omega
  cases hs : Builtin.Range.small lo hi 1 with
  | true =>
    refine wpAny_pyIter_range (IsRange.new ..) hs ?_
    refine ⟨_, [(s.heap.push { cls := .type "range", data := .fields #[.int lo t, .int hi u, .int 1 v] }).objs.size], _, _, H, rfl, J.kept (t' := tk) fun b o e => Heap.get?_push_of_some _ e, turn_range _ lo (hi - lo).toNat, ?_, fun b hb => ?_, q⟩
    · show IsRangeIter _ _ (lo + ((0 : Nat) : Int) * 1) ((((hi - lo).toNat : Nat) : Int) - ((0 : Nat) : Int)) 1
      rw [e1, e2]
      exact Heap.get?_push_size _ rfl
    · cases List.mem_singleton.mp hb
      exact J.fpOk (Nat.le_refl _) (J.hok.fresh (Nat.le_refl _))
  | false =>
    refine wpAny_pyIter_longrange (IsRange.new ..) hs ?_
    refine ⟨_, [(s.heap.push { cls := .type "range", data := .fields #[.int lo t, .int hi u, .int 1 v] }).objs.size], _, _, H, rfl, J.kept (t' := tk) fun b o e => Heap.get?_push_of_some _ e, turn_long _ lo (hi - lo).toNat, ?_, fun b hb => ?_, q⟩
    · show IsLongIter _ _ (lo + ((0 : Nat) : Int) * 1) ((((hi - lo).toNat : Nat) : Int) - ((0 : Nat) : Int)) 1
      rw [e1, e2]
      exact Heap.get?_push_size _ rfl
    · cases List.mem_singleton.mp hb
      exact J.fpOk (Nat.le_refl _) (J.hok.fresh (Nat.le_refl _))
def iRngA (ta : TA) : TI := fun σ H R => ta σ H fun vs H1 => ∃ i j : Int, vs = [.int i, .int j] ∧ R (Itr i (j - i).toNat) H1
theorem pi_rangeA {a b : Expr} {ta : TA} {p pos : Pos} (hg : Gl X "range") (hm : X.mg "range" = none) (ha : PA X [a, b] ta) (hs : starEach [a, b] X.env = [(false, eval a X.env), (false, eval b X.env)] := by rfl) (hs2 : starEach [b] X.env = [(false, eval b X.env)] := by rfl) :
    PI X tg (.Call (.Name "range" p) [a, b] [] pos) (iRngA ta) := by
  constructor
  intro pins s σ H R I h
  refine Call_ (ld_blt I hg hm boot_range (PyProof.Rows.callWith_type1 (thn (ha.run pos pins s σ H _ I h) fun us s1 ⟨vs, H1, I1, r1, q1⟩ => ?_) (by rw [hs, hs2]) (by rw [hs2]; rfl)))
  obtain ⟨i, j, e, q⟩ := q1
  subst e
  obtain ⟨u1, u2, rfl, ra, rb⟩ := Vals.two r1
  obtain ⟨t, rfl⟩ := ra
  obtain ⟨t', rfl⟩ := rb
  exact call_range_2 (range_any I1 q)
end

/-! defs by name -/
structure Dfn (K : PySem.W.Frag) (mg : PySem.Str → Option Value) (x : PySem.Str) (st : Stmt) : Prop where
  ex : ∃ f fd, Fun K x x st f fd ∧ mg x = some (.ref f)
structure Df (P : Program) (w : World) (K : PySem.W.Frag) (mg : PySem.Str → Option Value) (base : Heap) (CX : CXT) (k : Nat) (x : PySem.Str) (ps : List PySem.Str) (sp : Sp) : Prop where
  ex : ∃ f fd, FnOk P w K mg base CX k f fd ps sp ∧ mg x = some (.ref f) ∧ PySem.W.keepIn K (.ref f) = true ∧ Binds K fd ps []
section
variable {P : Program} {w : World} {K : PySem.W.Frag} {mg : PySem.Str → Option Value} {base : Heap}
theorem Dfn.ok {x : PySem.Str} {st : Stmt} {N ps : List PySem.Str} {k : Nat} {sp : Sp} (F : Dfn K mg x st) (S : FnScope N ps (defScope st))
    (hb : ∀ (kV doc pm : Value) (an : Option Addr) (cdv ct : Value) (us : List Value), us.length = ps.length → bindArgs (PySem.W.fnOf x x (defArgs st) (defBody st) (defScope st) .none kV doc pm an cdv ct) ⟨us, []⟩ = pure (ps.zip us))
    (len : ∀ vs H Q E, sp vs H Q E → vs.length = ps.length)
    (hbody : ∀ (f : Addr) (cdv : Value) (A : Around) (outer : List Env) (s : Shared) (H : Hp) (vs : List V) (Q : VK) (E : XK), Room k (A.deeper (envOfC x (defScope st) s.heap.objs.size f cdv)) → sp vs H Q E →
      ∃ t, PSs (cxOf CX0 P w K mg base N x (defScope st) f cdv A outer s H E).nox (defBody st) t ∧ t { nx := fun _ H' => Q .non H', rt := Q } (start N vs) H) : Df P w K mg base CX0 (k + 1) x ps sp := by
  obtain ⟨f, fd, F1, m⟩ := F.ex
  exact ⟨f, fd, F1.ok S len (fun cdv A outer s H vs Q E hr h => hbody f cdv A outer s H vs Q E hr h), m, F1.kp, F1.binds hb⟩
theorem Df.up {CX : CXT} {j k : Nat} {x : PySem.Str} {ps : List PySem.Str} {sp : Sp} (D : Df P w K mg base CX j x ps sp) (h : j ≤ k) : Df P w K mg base CX k x ps sp := by
  obtain ⟨f, fd, F, m, kp, b⟩ := D.ex
  exact ⟨f, fd, F.mono h, m, kp, b⟩
end
def tFn (sp : Sp) (E : XK) (t : TA) : TE := fun σ H Q => t σ H fun vs H1 => sp vs H1 Q E
section
variable {X : Cx} {CX : CXT} {j k : Nat} {sp : Sp} {E : XK} {x : PySem.Str} {ps : List PySem.Str} {p pos : Pos} {e : Expr} {es : List Expr} {t : TA}
theorem pe_fn (D : Df X.prog X.w X.K X.mg X.base CX j x ps sp) (hr : Room k X.A) (hg : Gl X x) (hx : Passes CX X E) (ha : PA X (e :: es) t) (hjk : j ≤ k := by decide)
    (hdb : (x == ("__debug__" : PySem.Str)) = false := by decide) (he : starEach (e :: es) X.env = (false, eval e X.env) :: starEach es X.env := by rfl) (hpl : (backTo pos (starEach es X.env)).any (·.1) = false := by rfl) :
    PE X (.Call (.Name x p) (e :: es) [] pos) (tFn sp E t) := by
  obtain ⟨f, fd, F, m, kp, b⟩ := D.ex
  have q := pe_call (p := p) (pos := pos) F (hr.mono hjk) hg m kp b .nil hx ha hdb he hpl
  refine ⟨fun pins s σ H Q I h => q.run pins s σ H Q I ?_⟩
  unfold tCall
  simp only [List.append_nil]
  exact h
theorem pe_fn0 (D : Df X.prog X.w X.K X.mg X.base CX j x ps sp) (hr : Room k X.A) (hg : Gl X x) (hx : Passes CX X E) (hjk : j ≤ k := by decide)
    (hdb : (x == ("__debug__" : PySem.Str)) = false := by decide) : PE X (.Call (.Name x p) [] [] pos) (tFn sp E tNil) := by
  obtain ⟨f, fd, F, m, kp, b⟩ := D.ex
  have q := pe_call0 (p := p) (pos := pos) F (hr.mono hjk) hg m kp b .nil hx hdb
  refine ⟨fun pins s σ H Q I h => q.run pins s σ H Q I ?_⟩
  unfold tCall
  simp only [List.append_nil]
  exact h
end
/-! classes and methods by name -/
structure CF (K : PySem.W.Frag) (C : Addr) : Prop where
  cl : Cls K C
  ha : PySem.W.findIn K (.ref C) "__class__" = some (some (.builtin "object.__class__"))
  hn : PySem.W.specialIn K (.builtin "object.__class__") "__get__" = some (some (.builtin "getset_descriptor.__get__"))
  htk : PySem.W.takesIn K (.builtin "object.__class__") = some true
  hm : PySem.W.mroIn K C (.type "object") = some true
theorem CF.ty {K : PySem.W.Frag} {C a dx : Addr} {H : Hp} {fs : List (PySem.Str × V)} (F : CF K C) (e : H a = some (.ins C dx fs)) : TyX K H (.ref a) (.ref C) := .base (.ins e F.cl F.ha F.hn F.htk F.hm)
structure Mfn (K : PySem.W.Frag) (C : Addr) (m q : PySem.Str) (st : Stmt) : Prop where
  ex : ∃ f fd, Fun K m q st f fd ∧ Meth K C m f
structure Mf (P : Program) (w : World) (K : PySem.W.Frag) (mg : PySem.Str → Option Value) (base : Heap) (CX : CXT) (k : Nat) (C : Addr) (m : PySem.Str) (ps : List PySem.Str) (sp : Sp) : Prop where
  ex : ∃ f fd, FnOk P w K mg base CX k f fd ps sp ∧ Meth K C m f ∧ Binds K fd ps []
section
variable {P : Program} {w : World} {K : PySem.W.Frag} {mg : PySem.Str → Option Value} {base : Heap}
theorem Mfn.ok {C : Addr} {x q : PySem.Str} {st : Stmt} {N ps : List PySem.Str} {k : Nat} {sp : Sp} (F : Mfn K C x q st) (S : FnScope N ps (defScope st))
    (hb : ∀ (kV doc pm : Value) (an : Option Addr) (cdv ct : Value) (us : List Value), us.length = ps.length → bindArgs (PySem.W.fnOf x q (defArgs st) (defBody st) (defScope st) .none kV doc pm an cdv ct) ⟨us, []⟩ = pure (ps.zip us))
    (len : ∀ vs H Q E, sp vs H Q E → vs.length = ps.length)
    (hbody : ∀ (f : Addr) (cdv : Value) (A : Around) (outer : List Env) (s : Shared) (H : Hp) (vs : List V) (Q : VK) (E : XK), Room k (A.deeper (envOfC q (defScope st) s.heap.objs.size f cdv)) → sp vs H Q E →
      ∃ t, PSs (cxOf CX0 P w K mg base N q (defScope st) f cdv A outer s H E).nox (defBody st) t ∧ t { nx := fun _ H' => Q .non H', rt := Q } (start N vs) H) : Mf P w K mg base CX0 (k + 1) C x ps sp := by
  obtain ⟨f, fd, F1, m⟩ := F.ex
  exact ⟨f, fd, F1.ok S len (fun cdv A outer s H vs Q E hr h => hbody f cdv A outer s H vs Q E hr h), m, F1.binds hb⟩
end
def tMt (C : Addr) (m : PySem.Str) (sp : Sp) (E : XK) (ta : TE) (t : TA) : TE := fun σ H Q => ta σ H fun x H1 => ∃ a dx fs, x = .ref a ∧ H1 a = some (.ins C dx fs) ∧ fs.lookup m = none ∧ t σ H1 fun vs H2 => sp (x :: vs) H2 Q E
section
variable {X : Cx} {CX : CXT} {j k : Nat} {C : Addr} {sp : Sp} {E : XK} {m x : PySem.Str} {ps : List PySem.Str} {p pos apos : Pos} {o e : Expr} {es : List Expr} {ta : TE} {t : TA}
theorem pe_mt {pl : Sem Bool} (D : Mf X.prog X.w X.K X.mg X.base CX j C m ps sp) (F : CF X.K C) (hr : Room k X.A) (hx : Passes CX X E) (he : PE X o ta) (ha : PA X (e :: es) t) (hjk : j ≤ k := by decide)
    (hst : starEach (e :: es) X.env = (false, eval e X.env) :: starEach es X.env := by rfl) (hpl : (backTo pos (starEach es X.env)).any (·.1) = false := by rfl)
    (ht : eval (.Call (.Attribute o m apos) (e :: es) [] pos) X.env = (do
      let ov ← eval o X.env
      standAt apos.atName
      let (f, first) ← holding [ov] (getMethod ov m pl)
      callWith pos f first (backTo pos (starEach (e :: es) X.env)) (backToKw pos (keywordEach [] X.env))) := by rfl) :
    PE X (.Call (.Attribute o m apos) (e :: es) [] pos) (tMt C m sp E ta t) := by
  obtain ⟨f, fd, G, me, b⟩ := D.ex
  have q := pe_meth he F.cl me G (hr.mono hjk) b .nil hx ha hst hpl ht
  refine ⟨fun pins s σ H Q I h => q.run pins s σ H Q I ?_⟩
  unfold tMeth
  simp only [List.append_nil]
  exact h
/-! C(e, ..) by an __init__ of the text -/
structure MkI (K : PySem.W.Frag) (C : Addr) (q : PySem.Str) (st : Stmt) : Prop where
  ex : ∃ f fd, Fun K "__init__" q st f fd ∧ Mk K C f
def tMk (C : Addr) (sp : Sp) (E : XK) (t : TA) : TE := fun σ H Q => t σ H fun vs H1 => ∀ x dx, H1 x = none → H1 dx = none → dx ≠ x →
  sp (.ref x :: vs) (upd (upd H1 dx (.own x)) x (.ins C dx [])) (fun v H2 => v = .non ∧ Q (.ref x) H2) E
structure Mi (P : Program) (w : World) (K : PySem.W.Frag) (mg : PySem.Str → Option Value) (base : Heap) (CX : CXT) (k : Nat) (C : Addr) (ps : List PySem.Str) (sp : Sp) : Prop where
  ex : ∃ f fd, FnOk P w K mg base CX k f fd ps sp ∧ Mk K C f ∧ Binds K fd ps []
theorem pe_mk (D : Mi X.prog X.w X.K X.mg X.base CX j C ps sp) (hr : Room k X.A) (hg : Gl X x) (hm : X.mg x = some (.ref C)) (hx : Passes CX X E) (ha : PA X (e :: es) t) (hjk : j + 1 ≤ k := by decide)
    (hdb : (x == ("__debug__" : PySem.Str)) = false := by decide) (he : starEach (e :: es) X.env = (false, eval e X.env) :: starEach es X.env := by rfl) (hpl : (backTo pos (starEach es X.env)).any (·.1) = false := by rfl) :
    PE X (.Call (.Name x p) (e :: es) [] pos) (tMk C sp E t) := by
  obtain ⟨f, fd, G, M, b⟩ := D.ex
  have q := pe_make (p := p) (pos := pos) M G (hr.mono hjk) hg hm b .nil hx ha hdb he hpl
  refine ⟨fun pins s σ H Q I h => q.run pins s σ H Q I ?_⟩
  unfold tMake
  simp only [List.append_nil]
  exact h
end
theorem MkI.ok {P : Program} {w : World} {K : PySem.W.Frag} {mg : PySem.Str → Option Value} {base : Heap} {C : Addr} {q : PySem.Str} {st : Stmt} {N ps : List PySem.Str} {k : Nat} {sp : Sp} (F : MkI K C q st) (S : FnScope N ps (defScope st))
    (hb : ∀ (kV doc pm : Value) (an : Option Addr) (cdv ct : Value) (us : List Value), us.length = ps.length → bindArgs (PySem.W.fnOf "__init__" q (defArgs st) (defBody st) (defScope st) .none kV doc pm an cdv ct) ⟨us, []⟩ = pure (ps.zip us))
    (len : ∀ vs H Q E, sp vs H Q E → vs.length = ps.length)
    (hbody : ∀ (f : Addr) (cdv : Value) (A : Around) (outer : List Env) (s : Shared) (H : Hp) (vs : List V) (Q : VK) (E : XK), Room k (A.deeper (envOfC q (defScope st) s.heap.objs.size f cdv)) → sp vs H Q E →
      ∃ t, PSs (cxOf CX0 P w K mg base N q (defScope st) f cdv A outer s H E).nox (defBody st) t ∧ t { nx := fun _ H' => Q .non H', rt := Q } (start N vs) H) : Mi P w K mg base CX0 (k + 1) C ps sp := by
  obtain ⟨f, fd, F1, m⟩ := F.ex
  exact ⟨f, fd, F1.ok S len (fun cdv A outer s H vs Q E hr h => hbody f cdv A outer s H vs Q E hr h), m, F1.binds hb⟩
theorem merge2 {A G : Prop} (f : A → G) (a : A) : G := f a
theorem same_new {H : Hp} {p : Addr} {o : HO} (h : H p = none) : Same H (upd H p o) := fun b x e => by
  rw [upd_ne (ne_of_none e h)]; exact e
/-! tests -/
theorem ifT {p A B : Prop} [Decidable p] (h : p) (a : A) : if decide p = true then A else B := by rw [if_pos (decide_eq_true h)]; exact a
theorem ifF {p A B : Prop} [Decidable p] (h : ¬ p) (b : B) : if decide p = true then A else B := by rw [if_neg (fun z => h (of_decide_eq_true z))]; exact b
theorem ifNT {p A B : Prop} [Decidable p] (h : ¬ p) (a : A) : if (!decide p) = true then A else B := by rw [if_pos (by simp [h])]; exact a
theorem ifNF {p A B : Prop} [Decidable p] (h : p) (b : B) : if (!decide p) = true then A else B := by rw [if_neg (by simp [h])]; exact b
theorem ifD {p A B : Prop} [Decidable p] (a : p → A) (b : ¬ p → B) : if decide p = true then A else B := by
  by_cases h : p
  · exact ifT h (a h)
  · exact ifF h (b h)
theorem ifND {p A B : Prop} [Decidable p] (a : ¬ p → A) (b : p → B) : if (!decide p) = true then A else B := by
  by_cases h : p
  · exact ifNF h (b h)
  · exact ifNT h (a h)

/-! one step of a reading each -/
section
variable {σ : L2.St} {H : Hp} {Q : VK} {D : Ends} {ta tb tc td : TE} {v x y : V} {i j : Int} {b c : Bool} {k n m : Nat}
theorem g_var (e : σ[n]? = some (some v)) (h : Q v H) : tVar n σ H Q := ⟨v, e, h⟩
theorem g_c (h : Q v H) : tC v σ H Q := h
theorem g_op {r : R2} (h : ta σ H fun x H1 => tb σ H1 fun y H2 => r x y H2 Q) : tOp r ta tb σ H Q := h
theorem g_un {r : V → Hp → VK → Prop} (h : ta σ H fun x H1 => r x H1 Q) : tUn r ta σ H Q := h
theorem g_rI {C : Int → Int → Prop} {g : Int → Int → V} (c : C i j) (h : Q (g i j) H) : rI C g (.int i) (.int j) H Q := ⟨i, j, rfl, rfl, c, h⟩
theorem g_rI0 {g : Int → Int → V} (h : Q (g i j) H) : rI0 g (.int i) (.int j) H Q := ⟨i, j, rfl, rfl, h⟩
theorem g_rU {g : Int → V} (h : Q (g i) H) : rU g (.int i) H Q := ⟨i, rfl, h⟩
theorem g_eqB (h : Q (.bl (decide (b = c))) H) : rEq (.bl b) (.bl c) H Q := ⟨rfl, by rw [show decide (V.bl b = V.bl c) = decide (b = c) by simp]; exact h⟩
theorem g_neB (h : Q (.bl (!decide (b = c))) H) : rNe (.bl b) (.bl c) H Q := ⟨rfl, by rw [show decide (V.bl b = V.bl c) = decide (b = c) by simp]; exact h⟩
theorem g_seq {t u : TS} (h : t { D with nx := u D } σ H) : tSeq t u D σ H := h
theorem g_next (h : D.nx σ H) : tNext D σ H := h
theorem g_drop (h : ta σ H fun _ H1 => D.nx σ H1) : tDrop ta D σ H := h
theorem g_ret (h : ta σ H D.rt) : tRet ta D σ H := h
theorem g_retN (h : D.rt .non H) : tRetN D σ H := h
theorem g_ifS {t u : TS} {ct : TT} (h : ct σ H fun b H1 => if b = true then t D σ H1 else u D σ H1) : tIfS ct t u D σ H := h
theorem g_asg {g : TG} (h : ta σ H fun x H1 => g x σ H1 D.nx) : tAsg ta g D σ H := h
theorem start_eq {t : TS} {N : List PySem.Str} {vs : List V} (e : L2.start N vs = σ) (h : t D σ H) : t D (L2.start N vs) H := by rw [e]; exact h
theorem set_z {α : Type} {a x : α} {xs : List α} : List.set (x :: xs) 0 a = a :: xs := rfl
theorem set_s {α : Type} {a x : α} {xs ys : List α} {n : Nat} (e : List.set xs n a = ys) : List.set (x :: xs) (n + 1) a = x :: ys := by rw [List.set_cons_succ, e]
theorem g_name {R : L2.St → Hp → Prop} {σ' : L2.St} (e : σ.set n (some v) = σ') (h : R σ' H) : gName n v σ H R := by unfold gName; rw [e]; exact h
def ParK (n m : Nat) (σ : L2.St) (R : L2.St → Hp → Prop) (vs : List V) (H : Hp) : Prop := ∃ v w, vs = [v, w] ∧ R ((σ.set n (some v)).set m (some w)) H
theorem g_par {t : TA} (h : t σ H fun vs H1 => ParK n m σ D.nx vs H1) : tPar n m t D σ H := h
theorem g_par2 {R : L2.St → Hp → Prop} {σ1 σ2 : L2.St} (e1 : σ.set n (some x) = σ1) (e2 : σ1.set m (some y) = σ2) (h : R σ2 H) : ParK n m σ R [x, y] H := ⟨x, y, rfl, by rw [e1, e2]; exact h⟩
def AugK (n : Nat) (σ : L2.St) (R : L2.St → Hp → Prop) (z : V) (H : Hp) : Prop := R (σ.set n (some z)) H
theorem g_aug {ti : TIp} (e : σ[n]? = some (some x)) (h : ta σ H fun y H1 => ti x y H1 fun z H2 => AugK n σ D.nx z H2) : tAug n ta ti D σ H := ⟨x, e, h⟩
theorem g_augk {R : L2.St → Hp → Prop} {σ' : L2.St} (e : σ.set n (some v) = σ') (h : R σ' H) : AugK n σ R v H := by unfold AugK; rw [e]; exact h
theorem g_ipI {f : Int → Int → Int} (h : Q (.int (f i j)) H) : ipI f (.int i) (.int j) H Q := ⟨i, j, rfl, rfl, h⟩
theorem g_tB {R : Bool → Hp → Prop} (h : ta σ H fun x H1 => ∃ c, x = .bl c ∧ R c H1) : tB ta σ H R := h
theorem g_test {R : Bool → Hp → Prop} (h : ta σ H fun x H1 => ∃ c, x = .bl c ∧ R c H1) : tTest ta σ H R := h
theorem g_exbl {R : Bool → Prop} (h : R b) : ∃ c, V.bl b = V.bl c ∧ R c := ⟨b, rfl, h⟩
theorem g_exint {R : Int → Prop} (h : R i) : ∃ c, V.int i = V.int c ∧ R c := ⟨i, rfl, h⟩
theorem g_and {t u : TT} {R : Bool → Hp → Prop} (h : t σ H fun c H1 => if c = true then u σ H1 R else R false H1) : tAnd t u σ H R := h
theorem g_or {t u : TT} {R : Bool → Hp → Prop} (h : t σ H fun c H1 => if c = true then R true H1 else u σ H1 R) : tOr t u σ H R := h
theorem g_not {t : TT} {R : Bool → Hp → Prop} (h : t σ H fun c H1 => R (!c) H1) : tNot t σ H R := h
theorem g_andV (h : ta σ H fun x H1 => ∃ c, x = .bl c ∧ if c = true then tb σ H1 Q else Q (.bl false) H1) : tAndV ta tb σ H Q := h
theorem g_orV (h : ta σ H fun x H1 => ∃ c, x = .bl c ∧ if c = true then Q (.bl true) H1 else tb σ H1 Q) : tOrV ta tb σ H Q := h
theorem g_notV (h : ta σ H fun x H1 => ∃ c, x = .bl c ∧ Q (.bl (!c)) H1) : tNotV ta σ H Q := h
theorem g_if {t : TT} (h : t σ H fun c H1 => if c = true then ta σ H1 Q else tb σ H1 Q) : tIf t ta tb σ H Q := h
theorem g_nil {R : List V → Hp → Prop} (h : R [] H) : tNil σ H R := h
theorem g_cons {t : TA} {R : List V → Hp → Prop} (h : ta σ H fun x H1 => t σ H1 fun xs H2 => R (x :: xs) H2) : tCons ta t σ H R := h
theorem g_fn {sp : Sp} {E : XK} {t : TA} (h : t σ H fun vs H1 => sp vs H1 Q E) : tFn sp E t σ H Q := h
theorem g_cb {r : List V → Hp → VK → Prop} {t : TA} (h : t σ H fun vs H1 => r vs H1 Q) : tCB r t σ H Q := h
theorem g_two {R : Int → Int → Prop} (h : R i j) : ∃ a b, [V.int i, V.int j] = [V.int a, V.int b] ∧ R a b := ⟨i, j, rfl, h⟩
theorem g_one {R : Int → Prop} (h : R i) : ∃ a, [V.int i] = [V.int a] ∧ R a := ⟨i, rfl, h⟩
theorem g_chain {r r' : R2} (h : ta σ H fun x H1 => tb σ H1 fun y H2 => r x y H2 fun z H3 => ∃ k, z = .bl k ∧ (if k = true then tc σ H3 fun w' H4 => r' y w' H4 Q else Q (.bl false) H3)) : tChain r r' ta tb tc σ H Q := h
theorem g_chain3 {r1 r2 r3 : R2} (h : ta σ H fun x H1 => tb σ H1 fun y H2 => r1 x y H2 fun z H3 => ∃ k, z = .bl k ∧
  (if k = true then tc σ H3 fun u H4 => r2 y u H4 fun z' H5 => ∃ k', z' = .bl k' ∧ (if k' = true then td σ H5 fun v H6 => r3 u v H6 Q else Q (.bl false) H5) else Q (.bl false) H3)) : tChain3 r1 r2 r3 ta tb tc td σ H Q := h
theorem g_sl {r : V → Option Int → Option Int → Hp → VK → Prop} {tl th : TO} (h : ta σ H fun x H1 => tl σ H1 fun l H2 => th σ H2 fun u H3 => r x l u H3 Q) : tSl r ta tl th σ H Q := h
theorem g_noPart {R : Option Int → Hp → Prop} (h : R none H) : tNoPart σ H R := h
theorem g_part {R : Option Int → Hp → Prop} (h : ta σ H fun x H1 => ∃ i, x = .int i ∧ R (some i) H1) : tPart ta σ H R := h
theorem g_tup {t : TA} (h : t σ H fun xs H1 => xs.length ≤ sizeLine ∧ ∀ p, H1 p = none → Q (.ref p) (upd H1 p (.tup xs))) : tTup t σ H Q := h
theorem g_lst {t : TA} (h : t σ H fun xs H1 => xs.length ≤ sizeLine ∧ ∀ p, H1 p = none → Q (.ref p) (upd H1 p (.lst xs))) : tLst t σ H Q := h
theorem g_fresh {xs : List V} {R : Addr → Prop} (hl : Nat.ble xs.length 1000 = true) (h : ∀ p, H p = none → R p) : xs.length ≤ sizeLine ∧ ∀ p, H p = none → R p :=
  ⟨Nat.le_of_lt (small1000 (Nat.le_of_ble_eq_true hl)), h⟩
theorem g_gtupN {K : PySem.W.Frag} {xs : List V} {a : Addr} {t : TGs} {R : L2.St → Hp → Prop} (hn : xs.length = n) (h : t xs σ (upd H a (.tup xs)) R) : gTup K n t (.ref a) σ (upd H a (.tup xs)) R := ⟨a, xs, rfl, SqT.of upd_same, hn, h⟩
theorem g_gtup {K : PySem.W.Frag} {xs : List V} {a : Addr} {t : TGs} {R : L2.St → Hp → Prop} (hs : SqT K H a xs) (hn : xs.length = n) (h : t xs σ H R) : gTup K n t (.ref a) σ H R := ⟨a, xs, rfl, hs, hn, h⟩
theorem g_gcons {t : TG} {u : TGs} {r : List V} {R : L2.St → Hp → Prop} (h : t v σ H fun σ' H' => u r σ' H' R) : gCons t u (v :: r) σ H R := ⟨v, r, rfl, h⟩
theorem g_gnil {R : L2.St → Hp → Prop} (h : R σ H) : gNil [] σ H R := ⟨rfl, h⟩
theorem g_mkO {C : Addr} (h : ∀ x dx, H x = none → H dx = none → dx ≠ x → Q (.ref x) (upd (upd H dx (.own x)) x (.ins C dx []))) : tMakeO C σ H Q := h
theorem g_mk {C : Addr} {sp : Sp} {E : XK} {t : TA} (h : t σ H fun vs H1 => ∀ x dx, H1 x = none → H1 dx = none → dx ≠ x →
  sp (.ref x :: vs) (upd (upd H1 dx (.own x)) x (.ins C dx [])) (fun v H2 => v = .non ∧ Q (.ref x) H2) E) : tMk C sp E t σ H Q := h
theorem g_mt {C : Addr} {f : PySem.Str} {sp : Sp} {E : XK} {t : TA} (h : ta σ H fun x H1 => ∃ a dx fs, x = .ref a ∧ H1 a = some (.ins C dx fs) ∧ fs.lookup f = none ∧ t σ H1 fun vs H2 => sp (x :: vs) H2 Q E) : tMt C f sp E ta t σ H Q := h
theorem g_isi {K : PySem.W.Frag} {x c : V} {ty u : Value} {r : Bool} (h1 : ClsV c u) (h2 : TyX K H x ty) (h3 : PySem.W.kitOne K ty u = some r) (h : Q (.bl r) H) : rIsi K [x, c] H Q := ⟨x, c, ty, u, r, rfl, h1, h2, h3, h⟩
end
/-- an object made: its own dict and itself are new -/
theorem same_made {H : Hp} {x dx C : Addr} {fs : List (PySem.Str × V)} (hx : H x = none) (hdx : H dx = none) : Same H (upd (upd H dx (.own x)) x (.ins C dx fs)) := fun b o e => by
  rw [upd_ne (ne_of_none e hx), upd_ne (ne_of_none e hdx)]; exact e
end G66
namespace G66
open PySem PySem.Spec PyProof.Rows L2
/-! the text's defs, from what the head leaves -/
theorem dfn_mk {K : PySem.W.Frag} {h : Heap} {mg : PySem.Str → Option Value} {x : PySem.Str} {st : Stmt} {f : Addr} {oc : Value} {od an : Option Addr} {osl : Array (Option Value)} {kV doc pm cdv ct : Value} (X : K.In h) (G : h.Ns mainGlobals mg)
    (a : PySem.W.nsIn K mainGlobals x = some (some (.ref f))) (l : K.lookup f = some ⟨oc, od, .func (PySem.W.fnOf x x (defArgs st) (defBody st) (defScope st) .none kV doc pm an cdv ct), osl⟩) (c : PySem.W.codeIn K cdv x = true) (k : PySem.W.keepIn K (.ref f) = true) : Dfn K mg x st :=
  ⟨f, _, fun_mk l c k, PySem.W.mg_of X G a⟩
theorem mfn_mk {K : PySem.W.Frag} {C : Addr} {m q : PySem.Str} {st : Stmt} {f : Addr} {oc : Value} {od an : Option Addr} {osl : Array (Option Value)} {kV doc pm cdv ct : Value}
    (a : PySem.W.findIn K (.ref C) m = some (some (.ref f))) (l : K.lookup f = some ⟨oc, od, .func (PySem.W.fnOf m q (defArgs st) (defBody st) (defScope st) .none kV doc pm an cdv ct), osl⟩) (c : PySem.W.codeIn K cdv q = true) (k : PySem.W.keepIn K (.ref f) = true) (n : PySem.W.isFn K (.ref f) = true) : Mfn K C m q st :=
  ⟨f, _, fun_mk l c k, ⟨a, n, k⟩⟩
theorem mki_mk {K : PySem.W.Frag} {C : Addr} {q : PySem.Str} {st : Stmt} {f : Addr} {oc : Value} {od an : Option Addr} {osl : Array (Option Value)} {kV doc pm cdv ct : Value}
    (a : PySem.W.findIn K (.ref C) "__init__" = some (some (.ref f))) (l : K.lookup f = some ⟨oc, od, .func (PySem.W.fnOf "__init__" q (defArgs st) (defBody st) (defScope st) .none kV doc pm an cdv ct), osl⟩) (c : PySem.W.codeIn K cdv q = true) (k : PySem.W.keepIn K (.ref f) = true) (m : PySem.W.makesIn K C = true) (n : PySem.W.isFn K (.ref f) = true) (o : PySem.W.keepIn K (.ref C) = true) : MkI K C q st :=
  ⟨f, _, fun_mk l c k, ⟨m, a, n, o⟩⟩
/-! sizes -/
theorem Bt.sum {n : Nat} : ∀ {l : List Int}, (∀ z ∈ l, Bt n z) → Bt (n + l.length) l.sum
  | [], _ => by
    rw [List.sum_nil]
    exact Bt.iff.mpr (Nat.two_pow_pos _)
  | x :: r, h => by
    rw [List.sum_cons, List.length_cons]
    have a : Bt n x := h x List.mem_cons_self
    have b := Bt.sum (n := n) (l := r) fun z hz => h z (List.mem_cons_of_mem _ hz)
    exact (Bt.add (a.mono (Nat.le_add_right n r.length)) b).mono (by omega)
theorem Bt.addc {m n k : Nat} {x y : Int} (hx : Bt m x) (hy : Bt n y) (h1 : m < k) (h2 : n < k) : Bt k (x + y) := by
  cases k with
  | zero => omega
  | succ k => exact Bt.add (hx.mono (by omega)) (hy.mono (by omega))
theorem Bt.subc {m n k : Nat} {x y : Int} (hx : Bt m x) (hy : Bt n y) (h1 : m < k) (h2 : n < k) : Bt k (x - y) := by
  cases k with
  | zero => omega
  | succ k => exact Bt.sub (hx.mono (by omega)) (hy.mono (by omega))
theorem Bt.mulc {m n k : Nat} {x y : Int} (hx : Bt m x) (hy : Bt n y) (h : m + n ≤ k) : Bt k (x * y) := (Bt.mul hx hy).mono h
theorem cmul_of {m n : Nat} {i j : Int} (hi : Bt m i) (hj : Bt n j) (h : m + n ≤ 134217728) : CMulB i j := ⟨m, n, hi, hj, h⟩
/-! lists of values -/
theorem cut_all {xs : List V} {k : Nat} (h : xs.length ≤ k) : cutV xs none (some (k : Int)) = xs := by
  unfold cutV
  rw [HT.sIx_nat, HT.sIx_none, List.drop_zero, Nat.sub_zero]
  rw [Nat.min_eq_right h]
  exact List.take_length
theorem atI_map {α : Type} (f : α → V) {xs : List α} {i : Int} {v : α} (h : atI xs i = some v) : atI (xs.map f) i = some (f v) := by
  unfold atI at *
  rw [List.length_map]
  cases e : ixN xs.length i with
  | none => rw [e] at h; cases h
  | some j =>
    rw [e] at h
    have h' : xs[j]? = some v := h
    show (xs.map f)[j]? = some (f v)
    rw [List.getElem?_map, h']; rfl
theorem atI_lt {α : Type} {xs : List α} {i : Int} (h0 : 0 ≤ i) (h : i < xs.length) : ∃ v, atI xs i = some v ∧ v ∈ xs := by
  have hj : i.toNat < xs.length := by omega
  refine ⟨xs[i.toNat], ?_, List.getElem_mem _⟩
  have := atI_nat (xs := xs) (j := i.toNat) (List.getElem?_eq_getElem hj)
  rw [Int.toNat_of_nonneg h0] at this
  exact this
theorem atI_neg1 {α : Type} {xs : List α} (h : 0 < xs.length) : ∃ v, atI xs (-1) = some v ∧ v ∈ xs := by
  have hne : xs ≠ [] := by intro e; subst e; exact absurd h (Nat.lt_irrefl _)
  refine ⟨xs.getLast hne, ?_, List.getLast_mem hne⟩
  have := atI_last xs.dropLast (xs.getLast hne)
  rw [List.dropLast_concat_getLast] at this
  exact this
theorem inV_ints (x : Int) : ∀ ns : List Int, inV (.int x) (ns.map V.int) = decide (x ∈ ns)
  | [] => by simp [inV]
  | y :: r => by
    have ih := inV_ints x r
    unfold inV at *
    rw [List.map_cons, List.any_cons, ih]
    show ((y == x) || _) = _
    by_cases e : y = x
    · subst e; simp
    · have e' : x ≠ y := Ne.symm e
      simp [e, e']
theorem flat_ints (ns : List Int) : (ns.map V.int).all flatV = true := by
  rw [List.all_eq_true]; intro v hv; obtain ⟨i, _, rfl⟩ := List.mem_map.mp hv; rfl
theorem flat_bools (ns : List Bool) : (ns.map V.bl).all flatV = true := by
  rw [List.all_eq_true]; intro v hv; obtain ⟨i, _, rfl⟩ := List.mem_map.mp hv; rfl
theorem same_seqT {K : PySem.W.Frag} {H H' : Hp} {a : Addr} {xs : List V} (e : Same H H') (h : SqT K H a xs) : SqT K H' a xs := by
  rcases h with (h | ⟨o, h⟩) | h
  · exact .inl (.inl (e _ _ h))
  · exact .inl (.inr ⟨o, e _ _ h⟩)
  · exact .inr h
/-! what stood stands behind a new object -/
section
variable {H H' : Hp} {p q x dx : Addr} {o u u' : HO} {K : PySem.W.Frag} {xs : List V}
theorem at_new (h : H q = none) (e : H p = some o) : upd H q u p = some o := same_new h _ _ e
theorem same_made2 (hx : H x = none) (hdx : H dx = none) : Same H (upd (upd H dx u) x u') := fun b o e => by
  rw [upd_ne (ne_of_none e hx), upd_ne (ne_of_none e hdx)]; exact e
theorem at_made (hx : H x = none) (hdx : H dx = none) (e : H p = some o) : upd (upd H dx u) x u' p = some o := same_made2 hx hdx _ _ e
theorem sq_new (h : H q = none) (e : SqL K H p xs) : SqL K (upd H q u) p xs := (same_new h).seq e
theorem sq_made (hx : H x = none) (hdx : H dx = none) (e : SqL K H p xs) : SqL K (upd (upd H dx u) x u') p xs := (same_made2 hx hdx).seq e
theorem sqt_new (h : H q = none) (e : SqT K H p xs) : SqT K (upd H q u) p xs := same_seqT (same_new h) e
theorem sqt_made (hx : H x = none) (hdx : H dx = none) (e : SqT K H p xs) : SqT K (upd (upd H dx u) x u') p xs := same_seqT (same_made2 hx hdx) e
theorem sm_new (h : H q = none) (e : Same H' H) : Same H' (upd H q u) := e.trans (same_new h)
theorem sm_made (hx : H x = none) (hdx : H dx = none) (e : Same H' H) : Same H' (upd (upd H dx u) x u') := e.trans (same_made2 hx hdx)
end
theorem iteNT {A B : Prop} (h : A) : if (!false) = true then A else B := by
  rw [if_pos (by decide)]; exact h
theorem iteNF {A B : Prop} (h : B) : if (!true) = true then A else B := by
  rw [if_neg (by decide)]; exact h
/-! one step of a reading each, further -/
section
variable {σ : L2.St} {H : Hp} {Q : VK} {D : Ends} {ta tb tc td : TE} {v x y : V} {i j : Int} {b c : Bool} {k n m : Nat} {K : PySem.W.Frag} {p q : Addr} {xs ys : List V}
theorem g_ixL (e : SqL K H p xs) (a : atI xs i = some v) (h : Q v H) : rIxL K (.ref p) (.int i) H Q := ⟨p, xs, i, v, rfl, rfl, e, a, h⟩
theorem g_ixT (e : SqT K H p xs) (a : atI xs i = some v) (h : Q v H) : rIxT K (.ref p) (.int i) H Q := ⟨p, xs, i, v, rfl, rfl, e, a, h⟩
theorem g_inL {ns : List Int} (e : SqL K H p (ns.map V.int)) (h : Q (.bl (decide (i ∈ ns))) H) : rIn K false (.int i) (.ref p) H Q :=
  ⟨p, _, rfl, .inl e, rfl, flat_ints ns, by rw [inV_ints]; exact h⟩
theorem g_inT {ns : List Int} (e : SqT K H p (ns.map V.int)) (h : Q (.bl (decide (i ∈ ns))) H) : rIn K false (.int i) (.ref p) H Q :=
  ⟨p, _, rfl, .inr e, rfl, flat_ints ns, by rw [inV_ints]; exact h⟩
theorem g_ninL {ns : List Int} (e : SqL K H p (ns.map V.int)) (h : Q (.bl (!decide (i ∈ ns))) H) : rIn K true (.int i) (.ref p) H Q :=
  ⟨p, _, rfl, .inl e, rfl, flat_ints ns, by rw [inV_ints]; exact h⟩
theorem g_sum {ns : List Int} (e : SqL K H p (ns.map V.int)) (h : Q (.int ns.sum) H) : rSum K [.ref p] H Q := ⟨p, ns, rfl, e, h⟩
theorem g_any {bs : List Bool} (e : SqL K H p (bs.map V.bl)) (h : Q (.bl (bs.any id)) H) : rAny K [.ref p] H Q := ⟨p, bs, rfl, e, h⟩
theorem g_all {bs : List Bool} (e : SqL K H p (bs.map V.bl)) (h : Q (.bl (bs.all id)) H) : rAll K [.ref p] H Q := ⟨p, bs, rfl, e, h⟩
theorem g_slL {lo hi : Option Int} (e : SqL K H p xs) (h : ∀ q, H q = none → Q (.ref q) (upd H q (.lst (cutV xs lo hi)))) : rSlL K (.ref p) lo hi H Q := ⟨p, xs, rfl, e, h⟩
theorem g_exbb {R : Bool → Bool → Prop} (h : R b c) : ∃ x y, V.bl b = V.bl x ∧ V.bl c = V.bl y ∧ R x y := ⟨b, c, rfl, rfl, h⟩
theorem g_lenS {R : Int → Prop} (e : SqL K H p xs) (h : R xs.length) : ∃ a ys, [V.ref p] = [V.ref a] ∧ (SqL K H a ys ∨ SqT K H a ys) ∧ R (ys.length : Nat) := ⟨p, xs, rfl, .inl e, h⟩
theorem g_isi_ii (h : Q (.bl true) H) : rIsi K [.int i, .ty "int"] H Q := g_isi (u := .type "int") (ty := .type "int") (.ty _) (.base (.int _)) (kit_ty (by decide +kernel)) h
theorem g_isi_ib (h : Q (.bl false) H) : rIsi K [.int i, .ty "bool"] H Q := g_isi (u := .type "bool") (ty := .type "int") (.ty _) (.base (.int _)) (kit_ty (by decide +kernel)) h
theorem g_isi_bb (h : Q (.bl true) H) : rIsi K [.bl b, .ty "bool"] H Q := g_isi (u := .type "bool") (ty := .type "bool") (.ty _) (.base (.bl _)) (kit_ty (by decide +kernel)) h
theorem g_isi_ll (e : H p = some (.lst xs)) (h : Q (.bl true) H) : rIsi K [.ref p, .ty "list"] H Q := g_isi (u := .type "list") (ty := .type "list") (.ty _) (.base (.lst e)) (kit_ty (by decide +kernel)) h
theorem g_isi_own {C dx E : Addr} {fs : List (PySem.Str × V)} {r : Bool} (e : H p = some (.ins C dx fs)) (F : CF K C) (k : PySem.W.kitOne K (.ref C) (.ref E) = some r) (h : Q (.bl r) H) : rIsi K [.ref p, .ref E] H Q :=
  g_isi (u := .ref E) (ty := .ref C) (.own _) (F.ty e) k h
theorem g_for {wi : TI} {g : TG} {tb : TS} (h : wi σ H fun J H1 => ∃ W : Nat → Nat → L2.St → Hp → Prop, (∃ m, W 0 m σ H1) ∧ ∀ i m σ H, W i m σ H →
  (J.stop i H ∧ D.nx σ H) ∨ (J.go i H ∧ ∃ N : L2.St → Hp → Prop, (∀ σ' H', N σ' H' → ∃ m', m' < m ∧ W (i + 1) m' σ' H') ∧ ∀ x H', J.yld i H x H' → g x σ H' fun σ2 H2 => tb { D with nx := N, ct := N, bk := D.nx } σ2 H2)) : tFor wi g tb D σ H := h
theorem g_ilist {R : It → Hp → Prop} (h : ta σ H fun x H1 => ∃ a, x = .ref a ∧ (∃ xs, SqL K H1 a xs) ∧ R (Itl K a) H1) : iList K ta σ H R := h
theorem g_itup {R : It → Hp → Prop} (h : ta σ H fun x H1 => ∃ a, x = .ref a ∧ (∃ xs, SqT K H1 a xs) ∧ R (Itt K a) H1) : iTup K ta σ H R := h
theorem g_yes {R : Bool → Hp → Prop} (h : R true H) : tYes σ H R := h
theorem g_range {ta : TA} {R : It → Hp → Prop} (h : ta σ H fun vs H1 => ∃ i j : Int, vs = [.int i, .int j] ∧ R (Itr i (j - i).toNat) H1) : iRngA ta σ H R := h
theorem g_rng2 {R : Int → Int → Prop} (h : R i j) : ∃ a b : Int, [V.int i, V.int j] = [.int a, .int b] ∧ R a b := ⟨i, j, rfl, h⟩
end
end G66
namespace G66
open PySem PySem.Spec PyProof.Rows L2
/-! data and their likeness -/
/-- a way to write things as data: told apart by ==, and not deep -/
structure Coded {α : Type} [DecidableEq α] (f : α → PyData) (n : Nat) : Prop where
  eq : ∀ a b, PyData.eqv (f a) (f b) = decide (a = b)
  lay : ∀ a, (f a).canLay0 = true
  dep : ∀ a, (f a).depth ≤ n
theorem coded_int : Coded PyData.int 1 := ⟨fun a b => by simp [PyData.eqv]; rfl, fun a => by simp [PyData.canLay0], fun a => by simp [PyData.depth]⟩
theorem coded_bool : Coded PyData.bool 1 := ⟨fun a b => by cases a <;> cases b <;> rfl, fun a => by simp [PyData.canLay0], fun a => by simp [PyData.depth]⟩
section
variable {α : Type} [DecidableEq α] {f : α → PyData} {n : Nat}
theorem Coded.eqAll (C : Coded f n) : ∀ xs ys : List α, PyData.eqvAll (xs.map f) (ys.map f) = decide (xs = ys)
  | [], [] => by simp [PyData.eqvAll]
  | [], y :: ys => by simp [PyData.eqvAll]
  | x :: xs, [] => by simp [PyData.eqvAll]
  | x :: xs, y :: ys => by
    rw [List.map_cons, List.map_cons, PyData.eqvAll, C.eq, C.eqAll xs ys]
    by_cases h1 : x = y <;> by_cases h2 : xs = ys <;> simp [h1, h2]
theorem Coded.layAll (C : Coded f n) : ∀ xs : List α, PyData.canLayAll0 (xs.map f) = true
  | [] => by simp [PyData.canLayAll0]
  | x :: xs => by rw [List.map_cons]; simp only [PyData.canLayAll0, C.lay x, C.layAll xs, Bool.and_self]
theorem Coded.depAll (C : Coded f n) : ∀ xs : List α, PyData.depthAll (xs.map f) ≤ n
  | [] => by simp [PyData.depthAll]
  | x :: xs => by
    have a := C.dep x
    have b := C.depAll xs
    rw [List.map_cons]
    simp only [PyData.depthAll]
    omega
theorem Coded.list (C : Coded f n) : Coded (fun xs : List α => PyData.list (xs.map f)) (n + 1) :=
  ⟨fun a b => by rw [PyData.eqv]; exact C.eqAll a b, fun a => by simp only [PyData.canLay0]; exact C.layAll a, fun a => by have := C.depAll a; simp only [PyData.depth]; omega⟩
theorem Coded.shaped (C : Coded f n) (h : n ≤ 64) (a : α) : SeqAt.shaped (f a) = true := by
  unfold SeqAt.shaped
  rw [C.lay a, decide_eq_true (Nat.le_trans (C.dep a) h)]
  rfl
end
theorem dpAll_map {K : PySem.W.Frag} {H : Hp} {α : Type} {f : α → PyData} {g : α → V} (h : ∀ a, Dp K H (g a) (f a)) : ∀ xs : List α, DpAll K H (xs.map g) (xs.map f)
  | [] => .nil
  | x :: xs => .cons (h x) (dpAll_map h xs)
theorem dp_ints {K : PySem.W.Frag} {H : Hp} {p : Addr} {ns : List Int} (e : SqL K H p (ns.map V.int)) : Dp K H (.ref p) (.list (ns.map PyData.int)) := .lst e (dpAll_map (fun a => .int a) ns)
theorem dp_bools {K : PySem.W.Frag} {H : Hp} {p : Addr} {ns : List Bool} (e : SqL K H p (ns.map V.bl)) : Dp K H (.ref p) (.list (ns.map PyData.bool)) := .lst e (dpAll_map (fun a => .bl a) ns)
section
variable {σ : L2.St} {H : Hp} {Q : VK} {D : Ends} {ta tb tc td : TE} {v x y : V} {i j : Int} {b c : Bool} {k n m : Nat} {K : PySem.W.Frag} {p q : Addr} {xs ys : List V}
theorem g_eqCd {α : Type} [DecidableEq α] {f : α → PyData} {n : Nat} {a b : α} (C : Coded f n) (hn : n ≤ 64) (h1 : Dp K H x (f a)) (h2 : Dp K H y (f b)) (h : Q (.bl (decide (a = b))) H) : rEqD K x y H Q :=
  ⟨_, _, h1, h2, C.shaped hn a, C.shaped hn b, by rw [C.eq]; exact h⟩
theorem g_neCd {α : Type} [DecidableEq α] {f : α → PyData} {n : Nat} {a b : α} (C : Coded f n) (hn : n ≤ 64) (h1 : Dp K H x (f a)) (h2 : Dp K H y (f b)) (h : Q (.bl (!decide (a = b))) H) : rNeD K x y H Q :=
  ⟨_, _, h1, h2, C.shaped hn a, C.shaped hn b, by rw [C.eq]; exact h⟩
theorem g_eqLB {bs cs : List Bool} (h1 : SqL K H p (bs.map V.bl)) (h2 : SqL K H q (cs.map V.bl)) (h : Q (.bl (decide (bs = cs))) H) : rEqD K (.ref p) (.ref q) H Q := g_eqCd coded_bool.list (by decide) (dp_bools h1) (dp_bools h2) h
theorem g_neLB {bs cs : List Bool} (h1 : SqL K H p (bs.map V.bl)) (h2 : SqL K H q (cs.map V.bl)) (h : Q (.bl (!decide (bs = cs))) H) : rNeD K (.ref p) (.ref q) H Q := g_neCd coded_bool.list (by decide) (dp_bools h1) (dp_bools h2) h
theorem g_eqLI {bs cs : List Int} (h1 : SqL K H p (bs.map V.int)) (h2 : SqL K H q (cs.map V.int)) (h : Q (.bl (decide (bs = cs))) H) : rEqD K (.ref p) (.ref q) H Q := g_eqCd coded_int.list (by decide) (dp_ints h1) (dp_ints h2) h
theorem g_neLI {bs cs : List Int} (h1 : SqL K H p (bs.map V.int)) (h2 : SqL K H q (cs.map V.int)) (h : Q (.bl (!decide (bs = cs))) H) : rNeD K (.ref p) (.ref q) H Q := g_neCd coded_int.list (by decide) (dp_ints h1) (dp_ints h2) h
theorem g_ne3B {a1 a2 a3 b1 b2 b3 : Bool} (h1 : SqL K H p [.bl a1, .bl a2, .bl a3]) (h2 : SqL K H q [.bl b1, .bl b2, .bl b3]) (h : Q (.bl (!decide ([a1, a2, a3] = [b1, b2, b3]))) H) : rNeD K (.ref p) (.ref q) H Q := g_neLB (bs := [a1, a2, a3]) (cs := [b1, b2, b3]) h1 h2 h
theorem g_in2L (e : SqL K H p [.int i, .int j]) {z : Int} (h : Q (.bl (decide (z = i ∨ z = j))) H) : rIn K false (.int z) (.ref p) H Q := g_inL (ns := [i, j]) e (by rw [show decide (z ∈ [i, j]) = decide (z = i ∨ z = j) by simp]; exact h)
theorem g_any3 {a1 a2 a3 : Bool} (h1 : SqL K H p [.bl a1, .bl a2, .bl a3]) (h : Q (.bl ([a1, a2, a3].any id)) H) : rAny K [.ref p] H Q := g_any (bs := [a1, a2, a3]) h1 h
theorem g_all3 {a1 a2 a3 : Bool} (h1 : SqL K H p [.bl a1, .bl a2, .bl a3]) (h : Q (.bl ([a1, a2, a3].all id)) H) : rAll K [.ref p] H Q := g_all (bs := [a1, a2, a3]) h1 h
/-- a method's receiver -/
theorem g_recv {C dx : Addr} {fs : List (PySem.Str × V)} {f : PySem.Str} {R : Prop} (e : H p = some (.ins C dx fs)) (l : fs.lookup f = none) (h : R) : ∃ a dx fs, V.ref p = .ref a ∧ H a = some (.ins C dx fs) ∧ fs.lookup f = none ∧ R := ⟨p, dx, fs, rfl, e, l, h⟩
/-! comprehensions -/
/-- how a comprehension over a list is read where each item gives a value and no new object -/
theorem lc_map {a : Addr} {te : TE} {vs : List Nat} {H1 : Hp} {D : Addr} {Qd : Hp → Prop} {s : Nat} (f : V → V) (hD : H1 D = none) (hS : SqL K H1 a xs) (hw : ∀ x, wipe ((wipe σ vs).set s (some x)) vs = wipe σ vs)
    (step : ∀ x H', x ∈ xs → Same H1 H' → ∀ R : VK, R (f x) H' → te ((wipe σ vs).set s (some x)) H' R) (hz : xs.length ≤ sizeLine) (hd : Qd (upd H1 D (.lst (xs.map f)))) :
    ∃ W : Nat → Nat → Hp → Prop, (∃ m, W 0 m (upd H1 D (.lst []))) ∧ ∀ i m H, W i m H →
      ((Itl K a).stop i H ∧ Qd H) ∨ ((Itl K a).go i H ∧ ∃ Nx : Hp → Prop, (∀ H', Nx H' → ∃ m', m' < m ∧ W (i + 1) m' H') ∧ ∀ x H', (Itl K a).yld i H x H' → gName s x (wipe σ vs) H' fun σ2 H2 => wipe σ2 vs = wipe σ vs ∧ tYes σ2 H2 fun b H3 =>
        if b = true then te σ2 H3 fun y H4 => ∃ acc, H4 D = some (.lst acc) ∧ acc.length < sizeLine ∧ Nx (upd H4 D (.lst (acc ++ [y]))) else Nx H3) := by
  refine lc_list (xs := xs) (fun i H' => i ≤ xs.length ∧ H' = upd H1 D (.lst ((xs.take i).map f))) ⟨Nat.zero_le _, rfl⟩ (fun i H' _ ⟨_, e⟩ => by rw [e]; exact sq_new hD hS) (fun i x H' hx ⟨hi, e⟩ => ?_) (fun H' ⟨_, e⟩ => by rw [e, List.take_length]; exact hd)
  have hlt : i < xs.length := (List.getElem?_eq_some_iff.mp hx).1
  have hm : x ∈ xs := List.mem_of_getElem? hx
  refine ⟨hw x, g_yes (R := fun b H3 => if b = true then _ else _) ?_⟩
  refine (iteT (step x H' hm (by rw [e]; exact same_new hD) _ ⟨(xs.take i).map f, by rw [e]; exact upd_same, ?_, ⟨hlt, ?_⟩⟩))
  · rw [List.length_map, List.length_take]; omega
  · rw [e, upd_upd, List.take_add_one, hx, List.map_append]; rfl
/-- the same over lo, lo + 1, .. -/
theorem lc_mapR {te : TE} {vs : List Nat} {lo : Int} {H1 : Hp} {D : Addr} {Qd : Hp → Prop} {s : Nat} (f : Int → V) (hD : H1 D = none) (hw : ∀ x, wipe ((wipe σ vs).set s (some x)) vs = wipe σ vs)
    (step : ∀ (i : Nat) H', i < n → Same H1 H' → ∀ R : VK, R (f (lo + i)) H' → te ((wipe σ vs).set s (some (.int (lo + i)))) H' R) (hz : n ≤ sizeLine) (hd : Qd (upd H1 D (.lst ((List.range n).map fun (i : Nat) => f (lo + i))))) :
    ∃ W : Nat → Nat → Hp → Prop, (∃ m, W 0 m (upd H1 D (.lst []))) ∧ ∀ i m H, W i m H →
      ((Itr lo n).stop i H ∧ Qd H) ∨ ((Itr lo n).go i H ∧ ∃ Nx : Hp → Prop, (∀ H', Nx H' → ∃ m', m' < m ∧ W (i + 1) m' H') ∧ ∀ x H', (Itr lo n).yld i H x H' → gName s x (wipe σ vs) H' fun σ2 H2 => wipe σ2 vs = wipe σ vs ∧ tYes σ2 H2 fun b H3 =>
        if b = true then te σ2 H3 fun y H4 => ∃ acc, H4 D = some (.lst acc) ∧ acc.length < sizeLine ∧ Nx (upd H4 D (.lst (acc ++ [y]))) else Nx H3) := by
  refine lc_range (fun i H' => i ≤ n ∧ H' = upd H1 D (.lst ((List.range i).map fun (i : Nat) => f (lo + i)))) ⟨Nat.zero_le _, rfl⟩ (fun i H' hlt ⟨hi, e⟩ => ?_) (fun H' ⟨_, e⟩ => by rw [e]; exact hd)
  refine ⟨hw _, g_yes (R := fun b H3 => if b = true then _ else _) ?_⟩
  refine (iteT (step i H' hlt (by rw [e]; exact same_new hD) _ ⟨(List.range i).map fun (i : Nat) => f (lo + i), by rw [e]; exact upd_same, ?_, ⟨hlt, ?_⟩⟩))
  · rw [List.length_map, List.length_range]; omega
  · rw [e, upd_upd, List.range_succ, List.map_append]; rfl
/-- all that was tracked but at D -/
def SameBut (D : Addr) (H H' : Hp) : Prop := ∀ b o, b ≠ D → H b = some o → H' b = some o
theorem SameBut.refl {D : Addr} {H : Hp} : SameBut D H H := fun _ _ _ e => e
theorem SameBut.trans {D : Addr} {H H1 H2 : Hp} (a : SameBut D H H1) (b : SameBut D H1 H2) : SameBut D H H2 := fun c o n e => b c o n (a c o n e)
theorem SameBut.of {D : Addr} {H H' : Hp} (a : Same H H') : SameBut D H H' := fun c o _ e => a c o e
theorem SameBut.upd {D : Addr} {H : Hp} {o : HO} : SameBut D H (upd H D o) := fun c u n e => by rw [upd_ne n]; exact e
theorem SameBut.same {D : Addr} {H0 H H' : Hp} (h : H0 D = none) (s : Same H0 H) (b : SameBut D H H') : Same H0 H' := fun c o e => b c o (ne_of_none e h) (s c o e)
/-- a comprehension over lo, lo + 1, .. whose items are new objects: R says what the i-th is, by objects other than D -/
theorem lc_growR {te : TE} {vs : List Nat} {lo : Int} {H1 : Hp} {D : Addr} {Qd : Hp → Prop} {s : Nat} (R : Nat → V → Hp → Prop) (hD : H1 D = none) (hw : ∀ x, wipe ((wipe σ vs).set s (some x)) vs = wipe σ vs)
    (stay : ∀ i v H H', SameBut D H H' → (∃ o, H D = some o) → R i v H → R i v H')
    (step : ∀ (i : Nat) H', i < n → Same H1 H' → (∃ o, H' D = some o) → ∀ T : VK, (∀ v H2, Same H' H2 → R i v H2 → T v H2) → te ((wipe σ vs).set s (some (.int (lo + i)))) H' T) (hz : n ≤ sizeLine)
    (hd : ∀ (ys : List V) H', Same H1 H' → H' D = some (.lst ys) → ys.length = n → (∀ (i : Nat) v, ys[i]? = some v → R i v H') → Qd H') :
    ∃ W : Nat → Nat → Hp → Prop, (∃ m, W 0 m (upd H1 D (.lst []))) ∧ ∀ i m H, W i m H →
      ((Itr lo n).stop i H ∧ Qd H) ∨ ((Itr lo n).go i H ∧ ∃ Nx : Hp → Prop, (∀ H', Nx H' → ∃ m', m' < m ∧ W (i + 1) m' H') ∧ ∀ x H', (Itr lo n).yld i H x H' → gName s x (wipe σ vs) H' fun σ2 H2 => wipe σ2 vs = wipe σ vs ∧ tYes σ2 H2 fun b H3 =>
        if b = true then te σ2 H3 fun y H4 => ∃ acc, H4 D = some (.lst acc) ∧ acc.length < sizeLine ∧ Nx (upd H4 D (.lst (acc ++ [y]))) else Nx H3) := by
  refine lc_range (fun i H' => i ≤ n ∧ Same H1 H' ∧ ∃ ys, H' D = some (.lst ys) ∧ ys.length = i ∧ ∀ (j : Nat) v, ys[j]? = some v → R j v H') ⟨Nat.zero_le _, same_new hD, [], upd_same, rfl, fun j v e => by simp at e⟩ (fun i H' hlt ⟨hi, sm, ys, e, hl, hR⟩ => ?_) (fun H' ⟨_, sm, ys, e, hl, hR⟩ => hd ys H' sm e hl hR)
  refine ⟨hw _, g_yes (R := fun b H3 => if b = true then _ else _) ?_⟩
  refine (iteT (step i H' hlt sm ⟨_, e⟩ _ fun v H2 s2 r2 => ⟨ys, s2 _ _ e, by omega, hlt, ?_, ys ++ [v], upd_same, by rw [List.length_append]; simp [hl], fun j u hj => ?_⟩))
  · exact SameBut.same hD (sm.trans s2) .upd
  · by_cases c : j < ys.length
    · rw [List.getElem?_append_left c] at hj
      exact stay _ _ _ _ (SameBut.trans (.of s2) .upd) ⟨_, e⟩ (hR j u hj)
    · rw [List.getElem?_append_right (by omega)] at hj
      have hj0 : j - ys.length = 0 := by
        rcases Nat.eq_zero_or_pos (j - ys.length) with z | z
        · exact z
        · rw [List.getElem?_eq_none (by simp; omega)] at hj; cases hj
      rw [hj0] at hj
      have ev : v = u := Option.some.inj hj
      have ej : j = i := by omega
      subst ev ej
      exact stay _ _ _ _ .upd ⟨_, s2 _ _ e⟩ r2
/-- the same over a list -/
theorem lc_grow {a : Addr} {te : TE} {vs : List Nat} {H1 : Hp} {D : Addr} {Qd : Hp → Prop} {s : Nat} (R : Nat → V → Hp → Prop) (hD : H1 D = none) (hS : SqL K H1 a xs) (hw : ∀ x, wipe ((wipe σ vs).set s (some x)) vs = wipe σ vs)
    (stay : ∀ i v H H', SameBut D H H' → (∃ o, H D = some o) → R i v H → R i v H')
    (step : ∀ (i : Nat) x H', xs[i]? = some x → Same H1 H' → (∃ o, H' D = some o) → ∀ T : VK, (∀ v H2, Same H' H2 → R i v H2 → T v H2) → te ((wipe σ vs).set s (some x)) H' T) (hz : xs.length ≤ sizeLine)
    (hd : ∀ (ys : List V) H', Same H1 H' → H' D = some (.lst ys) → ys.length = xs.length → (∀ (i : Nat) v, ys[i]? = some v → R i v H') → Qd H') :
    ∃ W : Nat → Nat → Hp → Prop, (∃ m, W 0 m (upd H1 D (.lst []))) ∧ ∀ i m H, W i m H →
      ((Itl K a).stop i H ∧ Qd H) ∨ ((Itl K a).go i H ∧ ∃ Nx : Hp → Prop, (∀ H', Nx H' → ∃ m', m' < m ∧ W (i + 1) m' H') ∧ ∀ x H', (Itl K a).yld i H x H' → gName s x (wipe σ vs) H' fun σ2 H2 => wipe σ2 vs = wipe σ vs ∧ tYes σ2 H2 fun b H3 =>
        if b = true then te σ2 H3 fun y H4 => ∃ acc, H4 D = some (.lst acc) ∧ acc.length < sizeLine ∧ Nx (upd H4 D (.lst (acc ++ [y]))) else Nx H3) := by
  refine lc_list (xs := xs) (fun i H' => i ≤ xs.length ∧ Same H1 H' ∧ ∃ ys, H' D = some (.lst ys) ∧ ys.length = i ∧ ∀ (j : Nat) v, ys[j]? = some v → R j v H') ⟨Nat.zero_le _, same_new hD, [], upd_same, rfl, fun j v e => by simp at e⟩ (fun i H' _ ⟨_, sm, _⟩ => sm.seq hS) (fun i x H' hx ⟨hi, sm, ys, e, hl, hR⟩ => ?_) (fun H' ⟨_, sm, ys, e, hl, hR⟩ => hd ys H' sm e hl hR)
  have hlt : i < xs.length := (List.getElem?_eq_some_iff.mp hx).1
  refine ⟨hw _, g_yes (R := fun b H3 => if b = true then _ else _) ?_⟩
  refine (iteT (step i x H' hx sm ⟨_, e⟩ _ fun v H2 s2 r2 => ⟨ys, s2 _ _ e, by omega, hlt, ?_, ys ++ [v], upd_same, by rw [List.length_append]; simp [hl], fun j u hj => ?_⟩))
  · exact SameBut.same hD (sm.trans s2) .upd
  · by_cases c : j < ys.length
    · rw [List.getElem?_append_left c] at hj
      exact stay _ _ _ _ (SameBut.trans (.of s2) .upd) ⟨_, e⟩ (hR j u hj)
    · rw [List.getElem?_append_right (by omega)] at hj
      have hj0 : j - ys.length = 0 := by
        rcases Nat.eq_zero_or_pos (j - ys.length) with z | z
        · exact z
        · rw [List.getElem?_eq_none (by simp; omega)] at hj; cases hj
      rw [hj0] at hj
      have ev : v = u := Option.some.inj hj
      have ej : j = i := by omega
      subst ev ej
      exact stay _ _ _ _ .upd ⟨_, s2 _ _ e⟩ r2
theorem g_bm {T : String} {r : V → List V → Hp → VK → Prop} {t : TA} (h : ta σ H fun x H1 => tyV K T x H1 ∧ t σ H1 fun xs H2 => r x xs H2 Q) : tBM K T r ta t σ H Q := h
theorem g_bm0 {T : String} {r : V → List V → Hp → VK → Prop} (h : ta σ H fun x H1 => tyV K T x H1 ∧ r x [] H1 Q) : tBM0 K T r ta σ H Q := h
theorem g_tyL {R : Prop} (e : H p = some (.lst xs)) (h : R) : tyV K "list" (.ref p) H ∧ R := ⟨Or.inl ⟨rfl, _, SqL.of e⟩, h⟩
theorem iteTd {b : Bool} {A B : Prop} (e : b = true) (h : A) : if b = true then A else B := by rw [if_pos e]; exact h
theorem iteFd {b : Bool} {A B : Prop} (e : b = false) (h : B) : if b = true then A else B := by rw [if_neg (by rw [e]; decide)]; exact h
theorem g_lc {wi : TI} {g : TG} {tt : TT} {te : TE} {vs : List Nat} (h : wi σ H fun J H1 => ∀ D, H1 D = none → ∃ W : Nat → Nat → Hp → Prop, (∃ m, W 0 m (upd H1 D (.lst []))) ∧ ∀ i m H, W i m H →
      (J.stop i H ∧ Q (.ref D) H) ∨ (J.go i H ∧ ∃ Nx : Hp → Prop, (∀ H', Nx H' → ∃ m', m' < m ∧ W (i + 1) m' H') ∧ ∀ x H', J.yld i H x H' → g x (wipe σ vs) H' fun σ2 H2 => wipe σ2 vs = wipe σ vs ∧ tt σ2 H2 fun b H3 =>
        if b = true then te σ2 H3 fun y H4 => ∃ acc, H4 D = some (.lst acc) ∧ acc.length < sizeLine ∧ Nx (upd H4 D (.lst (acc ++ [y]))) else Nx H3)) : tLc wi g tt te vs σ H Q := h
end
/-! rules with the written part named -/
def rLen (K : PySem.W.Frag) : List V → Hp → VK → Prop := fun xs H Q => ∃ p ys, xs = [.ref p] ∧ (SqL K H p ys ∨ SqT K H p ys) ∧ Q (.int ys.length) H
def rListOf (K : PySem.W.Frag) : List V → Hp → VK → Prop := fun xs H Q => ∃ p ys, xs = [.ref p] ∧ (SqL K H p ys ∨ SqT K H p ys) ∧ ∀ l, H l = none → Q (.ref l) (upd H l (.lst ys))
section
variable {X : Cx} {K : PySem.W.Frag}
theorem k_isi (e : X.K = K) : CallR X (.builtin "isinstance") (rIsi K) := e ▸ call_isi
theorem k_ixL (e : X.K = K) : IxR X (rIxL K) := e ▸ ix_list
theorem k_ixT (e : X.K = K) : IxR X (rIxT K) := e ▸ ix_tup
theorem k_in (e : X.K = K) : OpR X (compareOp .In) (rIn K false) := e ▸ op_in_seq
theorem k_nin (e : X.K = K) : OpR X (compareOp .NotIn) (rIn K true) := e ▸ op_notIn_seq
theorem k_eqD (e : X.K = K) (hu : X.A.units + 64 < cLine) : OpR X (compareOp .Eq) (rEqD K) := e ▸ op_eqD hu
theorem k_neD (e : X.K = K) (hu : X.A.units + 64 < cLine) : OpR X (compareOp .NotEq) (rNeD K) := e ▸ op_neD hu
theorem k_len (e : X.K = K) : CallR X (.builtin "len") (rLen K) := e ▸ call_len_seq
theorem k_listOf (e : X.K = K) : CallR X (.type "list") (rListOf K) := e ▸ call_list_of
theorem k_sum (e : X.K = K) (hc : X.calm = true) : CallR X (.builtin "sum") (rSum K) := e ▸ cr_sum hc
theorem k_any (e : X.K = K) (hc : X.calm = true) : CallR X (.builtin "any") (rAny K) := e ▸ cr_any hc
theorem k_all (e : X.K = K) (hc : X.calm = true) : CallR X (.builtin "all") (rAll K) := e ▸ cr_all hc
theorem k_sorted (e : X.K = K) : CallR X (.builtin "sorted") (rSortedI K) := e ▸ cr_sortedI
theorem k_slL (e : X.K = K) : SlR X (rSlL K) := e ▸ sl_list
theorem k_slT (e : X.K = K) : SlR X (rSlT K) := e ▸ sl_tup
theorem k_index (e : X.K = K) : MtR X "list.index" (rIndex K) := e ▸ mt_index
theorem k_catT (e : X.K = K) : OpR X (binaryOp .Add) (rCatT K) := e ▸ op_catT
variable {l : Expr} {tl : TE} {tg : Expr} {pos : Pos}
theorem k_plist (e : X.K = K) (hl : PE X l tl) : PI X tg l (iList K tl) := e ▸ pi_list hl
theorem k_ptup (e : X.K = K) (hl : PE X l tl) : PI X tg l (iTup K tl) := e ▸ pi_tup hl
theorem k_gtup {es : List Expr} {k : Nat} {t : TGs} {n : Nat} (e : X.K = K) (hc : X.calm = true) (h : PGs X es t)
    (hn : (assignEach es X.env).length = n := by rfl) (hst : (assignEach es X.env).findIdx? (·.1) = none := by rfl) : PG X (.Tuple es k pos) (gTup K n t) := e ▸ pg_tup hc h hn hst
theorem k_glst {es : List Expr} {k : Nat} {t : TGs} {n : Nat} (e : X.K = K) (hc : X.calm = true) (h : PGs X es t)
    (hn : (assignEach es X.env).length = n := by rfl) (hst : (assignEach es X.env).findIdx? (·.1) = none := by rfl) : PG X (.Tuple es k pos) (gLst K n t) := e ▸ pg_lst hc h hn hst
theorem k_zip {e e2 : Expr} {ta : TA} {p pos tpos : Pos} {elts : List Expr} {kk : Nat} (ek : X.K = K) (hg : Gl X "zip") (hm : X.mg "zip" = none) (ha : PA X [e, e2] ta)
    (hs : starEach [e, e2] X.env = (false, eval e X.env) :: starEach [e2] X.env := by rfl) (hpl : (backTo pos (starEach [e2] X.env)).any (·.1) = false := by rfl) :
    PI X (.Tuple elts kk tpos) (.Call (.Name "zip" p) [e, e2] [] pos) (iZip K ta) := ek ▸ pi_zip hg hm ha hs hpl
theorem k_enum {e : Expr} {ta : TA} {p pos tpos : Pos} {elts : List Expr} {kk : Nat} (ek : X.K = K) (hg : Gl X "enumerate") (hm : X.mg "enumerate" = none) (ha : PA X [e] ta) (hs : starEach [e] X.env = [(false, eval e X.env)] := by rfl) :
    PI X (.Tuple elts kk tpos) (.Call (.Name "enumerate" p) [e] [] pos) (iEnum K ta) := ek ▸ pi_enum hg hm ha hs
theorem k_fld {e : Expr} {f : PySem.Str} {ta : TE} (ek : X.K = K) (he : PE X e ta) (hb : attributeBase e f X.env (eval e X.env) = eval e X.env) : PE X (.Attribute e f pos) (tFld K ta f) := ek ▸ pe_fld he hb
theorem k_sfld {o value : Expr} {f : PySem.Str} {ta tv : TE} {pos pos' : Pos} (ek : X.K = K) (ha : PE X o ta) (hv : PE X value tv) (hs : swapsWith value (some (.Attribute o f pos')) pos.line X.env = pure false) : PS X (.Assign [.Attribute o f pos'] value pos) (sFld K ta tv f) := ek ▸ ps_fld ha hv hs
theorem k_revL {e : Expr} {te : TE} {k : Nat} {p1 p2 p3 pos : Pos} (ek : X.K = K) (he : PE X e te) : PE X (.Subscript e (.Slice none none (some (.UnaryOp .USub (.Constant (.int 1) k p1) p2)) p3) pos) (tRevL K te) := ek ▸ pe_revL he
theorem k_bm0 {o : Expr} {to : TE} {name : PySem.Str} {apos cpos : Pos} {T id : String} {r : V → List V → Hp → VK → Prop} (ek : X.K = K) (pa : PlainAttrs T) (slot : Slot T name id) (hty : typeOf (.builtin id) = pure (.type "method_descriptor")) (hm : MtR X id r) (ho : PE X o to)
    (hbase : attributeBase o name X.env (eval o X.env) = eval o X.env := by rfl) (hline : (apos.endLine == cpos.line) = true := by rfl) : PE X (.Call (.Attribute o name apos) [] [] cpos) (tBM0 K T r to) := ek ▸ pe_bm0 pa slot hty hm ho hbase hline
theorem k_bm {o e : Expr} {es : List Expr} {to : TE} {t : TA} {name : PySem.Str} {apos cpos : Pos} {T id : String} {r : V → List V → Hp → VK → Prop} (ek : X.K = K) (pa : PlainAttrs T) (slot : Slot T name id) (hty : typeOf (.builtin id) = pure (.type "method_descriptor")) (hm : MtR X id r) (ho : PE X o to) (ha : PA X (e :: es) t)
    (hbase : attributeBase o name X.env (eval o X.env) = eval o X.env := by rfl)
    (hfew : ((backTo cpos (starEach (e :: es) X.env)).all (fun x => !x.1) && (backToKw cpos (keywordEach [] X.env)).all (fun x => x.1.isSome)
      && decide ((e :: es).length + ([] : List Keyword).length + (if ([] : List Keyword).isEmpty then 0 else 1) < 30)) = true := by rfl)
    (hline : (apos.endLine == cpos.line) = true := by rfl) (hs : starEach (e :: es) X.env = (false, eval e X.env) :: starEach es X.env := by rfl) (hplain : (backTo cpos (starEach es X.env)).any (·.1) = false := by rfl) :
    PE X (.Call (.Attribute o name apos) (e :: es) [] cpos) (tBM K T r to t) := ek ▸ pe_bm pa slot hty hm ho ha hbase hfew hline hs hplain
end
section
variable {σ : L2.St} {H : Hp} {Q : VK} {K : PySem.W.Frag} {p q : Addr} {xs ys : List V} {ta : TE} {n : Nat} {R : L2.St → Hp → Prop} {v : V}
theorem g_len (e : SqL K H p xs) (h : Q (.int xs.length) H) : rLen K [.ref p] H Q := ⟨p, xs, rfl, .inl e, h⟩
theorem g_lenT (e : SqT K H p xs) (h : Q (.int xs.length) H) : rLen K [.ref p] H Q := ⟨p, xs, rfl, .inr e, h⟩
theorem g_listOf (e : SqL K H p xs) (h : ∀ l, H l = none → Q (.ref l) (upd H l (.lst xs))) : rListOf K [.ref p] H Q := ⟨p, xs, rfl, .inl e, h⟩
theorem g_glst {t : TGs} (e : SqL K H p xs) (hn : xs.length = n) (h : t xs σ H R) : gLst K n t (.ref p) σ H R := ⟨p, xs, rfl, e, hn, h⟩
theorem g_sorted {ns : List Int} (e : SqL K H p (ns.map V.int)) (h : ∀ (ms : List Int) (q : Addr), ms.Perm ns → ms.Pairwise (· ≤ ·) → H q = none → Q (.ref q) (upd H q (.lst (ms.map V.int)))) : rSortedI K [.ref p] H Q := ⟨p, ns, rfl, e, h⟩
end
section
variable {σ : L2.St} {H : Hp} {Q : VK} {K : PySem.W.Frag} {p q : Addr} {xs ys : List V} {ta : TE} {n : Nat} {v : V}
theorem g_irng1 {ta : TA} {R : It → Hp → Prop} (h : ta σ H fun vs H1 => ∃ j : Int, vs = [.int j] ∧ -(2 ^ 62) ≤ j ∧ j < 2 ^ 62 ∧ R (Itr 0 j.toNat) H1) : iRng1 ta σ H R := h
theorem g_rng1 {R : Int → Prop} {i : Int} (h0 : -(2 ^ 62) ≤ i) (h1 : i < 2 ^ 62) (h : R i) : ∃ j : Int, [V.int i] = [.int j] ∧ -(2 ^ 62) ≤ j ∧ j < 2 ^ 62 ∧ R j := ⟨i, rfl, h0, h1, h⟩
theorem g_ifCC {p : Prop} [Decidable p] {i j : Int} (h : Q (.int (if p then i else j)) H) : if decide p = true then tC (.int i) σ H Q else tC (.int j) σ H Q := by
  by_cases e : p
  · rw [if_pos e] at h; rw [if_pos (decide_eq_true e)]; exact h
  · rw [if_neg e] at h; rw [if_neg (fun z => e (of_decide_eq_true z))]; exact h
theorem mem_cut {xs : List V} {lo hi : Option Int} {v : V} (h : v ∈ cutV xs lo hi) : v ∈ xs := List.mem_of_mem_drop (List.mem_of_mem_take h)
end
theorem kit_mk {K : PySem.W.Frag} {C D : Addr} {b : Bool} (i : PySem.W.isClsIn K D = true) (t : PySem.W.typeIn K (.ref D) = some (.type "type")) (s : PySem.W.subIn K (.ref C) (.ref D) = some b) (n : ((Value.ref C == Value.ref D) && !b) = false) : PySem.W.kitOne K (.ref C) (.ref D) = some b := by
  unfold PySem.W.kitOne
  by_cases h : (Value.ref C == Value.ref D) = true
  · rw [if_pos h]
    rw [h] at n
    cases b with
    | true => rfl
    | false => cases n
  · rw [if_neg h]
    unfold PySem.W.kitCls
    have z : ((PySem.W.clsIn K D).isSome && PySem.W.typeIn K (.ref D) == some (.type "type")) = true := by
      rw [Bool.and_eq_true]
      exact ⟨i, by rw [t]; rfl⟩
    show (if ((PySem.W.clsIn K D).isSome && PySem.W.typeIn K (.ref D) == some (.type "type")) = true then PySem.W.subIn K (.ref C) (.ref D) else none) = some b
    rw [if_pos z, s]
end G66
namespace G66
/-! the made plan, as plain functions -/
def wideOf (p : Int) : Int := p / 3
def met (w a b : Int) : Int :=
  if w % 2 = 1 then (a + b) % w * (w + 1) / 2 % w else (a + b) % w / 2 + (a + b) % w % 2 * (w / 2)
def meetsBoth (w q : Int) : Int := if w % 2 = 1 then 2 * q else if 2 * q < w then 2 * q else 2 * q - w + 1
def meets (w a q : Int) : Int := (meetsBoth w q - a) % w
/-- two people in different rows, the second in the next row -/
def crossOf (p w row place far there : Int) : Int :=
  if meets w place there ≠ place then row * w + meets w place there
  else if place = there then (row + 2) % 3 * w + place else p - 1
def thirdLt (p a b : Int) : Int :=
  let w := wideOf p
  let row := a / w
  let place := a % w
  if p % 3 = 1 ∧ b = p - 1 then
    if 2 * place ≥ w then (row + 1) % 3 * w + place - w / 2 else (row + 2) % 3 * w + place + w / 2
  else if row = b / w then (row + 1) % 3 * w + met w place (b % w)
  else if b / w ≠ (row + 1) % 3 then crossOf p w (b / w) (b % w) row place else crossOf p w row place (b / w) (b % w)
def thirdOf (p a b : Int) : Int := thirdLt p (min a b) (max a b)

/-- a count of people that can -/
def Can (p : Int) : Prop := 1 ≤ p ∧ (p % 6 = 1 ∨ p % 6 = 3)

/-! rows and places -/
theorem dm0 {w q : Int} (h0 : 0 ≤ q) (h : q < w) : q / w = 0 ∧ q % w = q := ⟨Int.ediv_eq_zero_of_lt h0 h, Int.emod_eq_of_lt h0 h⟩
theorem dm1 {w q : Int} (h0 : 0 ≤ q) (h : q < w) : (w + q) / w = 1 ∧ (w + q) % w = q := by
  have hw : w ≠ 0 := by omega
  refine ⟨?_, ?_⟩
  · rw [Int.add_ediv_of_dvd_left (Int.dvd_refl w), Int.ediv_self hw, (dm0 h0 h).1]; rfl
  · rw [Int.add_emod_left, (dm0 h0 h).2]
theorem dm2 {w q : Int} (h0 : 0 ≤ q) (h : q < w) : (2 * w + q) / w = 2 ∧ (2 * w + q) % w = q := by
  have hw : w ≠ 0 := by omega
  have e : 2 * w + q = w + (w + q) := by omega
  refine ⟨?_, ?_⟩
  · rw [e, Int.add_ediv_of_dvd_left (Int.dvd_refl w), Int.ediv_self hw, (dm1 h0 h).1]; rfl
  · rw [e, Int.add_emod_left, (dm1 h0 h).2]
/-- every place below three rows -/
theorem rows {w x : Int} (h0 : 0 ≤ x) (h : x < 3 * w) : ∃ r q : Int, (r = 0 ∨ r = 1 ∨ r = 2) ∧ 0 ≤ q ∧ q < w ∧ x = r * w + q := by
  by_cases h1 : x < w
  · exact ⟨0, x, .inl rfl, h0, h1, by omega⟩
  · by_cases h2 : x < 2 * w
    · exact ⟨1, x - w, .inr (.inl rfl), by omega, by omega, by omega⟩
    · exact ⟨2, x - 2 * w, .inr (.inr rfl), by omega, by omega, by omega⟩
theorem dm {w r q : Int} (hr : r = 0 ∨ r = 1 ∨ r = 2) (h0 : 0 ≤ q) (h : q < w) : (r * w + q) / w = r ∧ (r * w + q) % w = q := by
  rcases hr with rfl | rfl | rfl
  · simpa using dm0 h0 h
  · simpa using dm1 h0 h
  · exact dm2 h0 h
/-- a sum of two places by the row -/
theorem add_mod {w a b : Int} (ha : 0 ≤ a) (hb : 0 ≤ b) (ha' : a < w) (hb' : b < w) : (a + b) % w = if a + b < w then a + b else a + b - w := by
  split
  · exact Int.emod_eq_of_lt (by omega) (by assumption)
  · have e : a + b = w + (a + b - w) := by omega
    rw [e, Int.add_emod_left]
    rw [Int.emod_eq_of_lt (by omega) (by omega)]
    omega
/-- what met is, without products -/
def MetIs (w a b m : Int) : Prop := 0 ≤ m ∧ m < w ∧
  ((w % 2 = 1 ∧ (2 * m = a + b ∨ 2 * m = a + b - w ∨ 2 * m = a + b + w)) ∨
   (w % 2 = 0 ∧ ((2 * m = a + b ∧ a + b < w) ∨ (2 * m = a + b - w ∧ w ≤ a + b) ∨ (2 * m = a + b - 1 + w ∧ a + b < w) ∨ (2 * m = a + b - w - 1 + w ∧ w ≤ a + b))))
theorem half_odd {w b : Int} (hw : w % 2 = 1) (h0 : 0 ≤ b) (h : b < w) : b * (w + 1) / 2 % w = if b % 2 = 0 then b / 2 else (b + w) / 2 := by
  obtain ⟨k, rfl⟩ : ∃ k, w = 2 * k + 1 := ⟨w / 2, by omega⟩
  have e1 : b * (2 * k + 1 + 1) / 2 = b * (k + 1) := by
    rw [show (2 * k + 1 + 1 : Int) = 2 * (k + 1) by omega, ← Int.mul_assoc, Int.mul_comm b 2, Int.mul_assoc]
    exact Int.mul_ediv_cancel_left _ (by decide)
  rw [e1]
  split
  · rename_i hb
    obtain ⟨c, rfl⟩ : ∃ c, b = 2 * c := ⟨b / 2, by omega⟩
    have e2 : 2 * c * (k + 1) = c + (2 * k + 1) * c := by grind
    rw [e2, Int.add_mul_emod_self_left, Int.emod_eq_of_lt (by omega) (by omega)]
    omega
  · rename_i hb
    obtain ⟨c, rfl⟩ : ∃ c, b = 2 * c + 1 := ⟨b / 2, by omega⟩
    have e2 : (2 * c + 1) * (k + 1) = (c + k + 1) + (2 * k + 1) * c := by grind
    rw [e2, Int.add_mul_emod_self_left, Int.emod_eq_of_lt (by omega) (by omega)]
    omega
theorem met_is {w a b : Int} (ha : 0 ≤ a) (hb : 0 ≤ b) (ha' : a < w) (hb' : b < w) : MetIs w a b (met w a b) := by
  unfold met MetIs
  have e := add_mod ha hb ha' hb'
  have hlt : (a + b) % w < w := Int.emod_lt_of_pos _ (by omega)
  have hge : 0 ≤ (a + b) % w := Int.emod_nonneg _ (by omega)
  generalize hs : (a + b) % w = s at *
  split
  · rename_i hw
    rw [half_odd hw hge hlt]
    split at e <;> split <;> omega
  · rename_i hw
    rcases Int.emod_two_eq s with h | h
    · rw [h]; split at e <;> omega
    · rw [h]; split at e <;> omega
theorem MetIs.eq {w a b m m' : Int} (ha : 0 ≤ a) (hb : 0 ≤ b) (ha' : a < w) (hb' : b < w) (h : MetIs w a b m) (h' : MetIs w a b m') : m = m' := by
  unfold MetIs at h h'
  omega
theorem MetIs.symm {w a b m : Int} (h : MetIs w a b m) : MetIs w b a m := by unfold MetIs at *; omega
theorem MetIs.inj {w a b c m : Int} (ha : 0 ≤ a) (hb : 0 ≤ b) (ha' : a < w) (hb' : b < w) (hc : 0 ≤ c) (hc' : c < w) (h : MetIs w a b m) (h' : MetIs w a c m) : b = c := by
  unfold MetIs at h h'
  omega
theorem meets_range {w a q : Int} (hw : 0 < w) : 0 ≤ meets w a q ∧ meets w a q < w := ⟨Int.emod_nonneg _ (by omega), Int.emod_lt_of_pos _ hw⟩
theorem sub_mod2 {w x : Int} (h0 : -w < x) (h : x < 2 * w) : x % w = if x < 0 then x + w else if x < w then x else x - w := by
  split
  · have e : x = (x + w) + w * (-1) := by omega
    rw [e, Int.add_mul_emod_self_left, Int.emod_eq_of_lt (by omega) (by omega)]
    omega
  · split
    · exact Int.emod_eq_of_lt (by omega) (by omega)
    · have e : x = (x - w) + w * 1 := by omega
      rw [e, Int.add_mul_emod_self_left, Int.emod_eq_of_lt (by omega) (by omega)]
      omega
theorem meets_is {w a q : Int} (ha : 0 ≤ a) (hq : 0 ≤ q) (ha' : a < w) (hq' : q < w) : MetIs w a (meets w a q) q := by
  have hb : 0 ≤ meetsBoth w q ∧ meetsBoth w q < 2 * w := by unfold meetsBoth; split <;> (try split) <;> omega
  have e := sub_mod2 (w := w) (x := meetsBoth w q - a) (by omega) (by omega)
  unfold meets
  generalize hm : (meetsBoth w q - a) % w = m at *
  unfold meetsBoth at e
  unfold MetIs
  split at e
  · split at e
    · omega
    · split at e <;> omega
  · split at e
    · split at e
      · omega
      · split at e <;> omega
    · split at e
      · omega
      · split at e <;> omega

theorem thirdOf_comm (p a b : Int) : thirdOf p a b = thirdOf p b a := by unfold thirdOf; rw [Int.min_comm, Int.max_comm]
theorem Can.wide {p : Int} (h : Can p) (h1 : 1 < p) : 0 < wideOf p ∧ ((p % 3 = 1 ∧ wideOf p % 2 = 0 ∧ p = 3 * wideOf p + 1) ∨ (p % 3 = 0 ∧ wideOf p % 2 = 1 ∧ p = 3 * wideOf p)) := by
  unfold Can at h
  unfold wideOf
  omega
abbrev R3 (r : Int) : Prop := r = 0 ∨ r = 1 ∨ r = 2
theorem nx_cases {r : Int} (h : R3 r) : (r = 0 ∧ (r + 1) % 3 = 1) ∨ (r = 1 ∧ (r + 1) % 3 = 2) ∨ (r = 2 ∧ (r + 1) % 3 = 0) := by omega
section
variable {p r i j : Int}
/-- two of one row -/
theorem third_row (h : Can p) (h1 : 1 < p) (hr : R3 r) (hi : 0 ≤ i) (hi' : i < wideOf p) (hj : 0 ≤ j) (hj' : j < wideOf p) (hij : i ≠ j) :
    thirdOf p (r * wideOf p + i) (r * wideOf p + j) = (r + 1) % 3 * wideOf p + met (wideOf p) i j := by
  have key : ∀ i j : Int, 0 ≤ i → i < wideOf p → 0 ≤ j → j < wideOf p → i < j → thirdOf p (r * wideOf p + i) (r * wideOf p + j) = (r + 1) % 3 * wideOf p + met (wideOf p) i j := by
    intro i j hi hi' hj hj' hij
    have d1 := dm (r := r) hr hi hi'
    have d2 := dm (r := r) hr hj hj'
    obtain ⟨hw, hp⟩ := h.wide h1
    unfold thirdOf thirdLt
    rw [Int.min_eq_left (by omega), Int.max_eq_right (by omega)]
    simp only []
    rw [d1.1, d1.2, d2.1, d2.2]
    rw [if_neg (by rintro ⟨ha, hb⟩; rcases hr with rfl | rfl | rfl <;> omega), if_pos rfl]
  rcases Int.lt_or_gt_of_ne hij with hlt | hgt
  · exact key i j hi hi' hj hj' hlt
  · rw [thirdOf_comm, key j i hj hj' hi hi' hgt]
    unfold met
    rw [Int.add_comm j i]
/-- one of a row, one of the next -/
theorem third_cross (h : Can p) (h1 : 1 < p) (hr : R3 r) (hi : 0 ≤ i) (hi' : i < wideOf p) (hj : 0 ≤ j) (hj' : j < wideOf p) :
    thirdOf p (r * wideOf p + i) ((r + 1) % 3 * wideOf p + j) = crossOf p (wideOf p) r i ((r + 1) % 3) j := by
  have hr' : R3 ((r + 1) % 3) := by omega
  have d1 := dm (r := r) hr hi hi'
  have d2 := dm (r := (r + 1) % 3) hr' hj hj'
  obtain ⟨hw, hp⟩ := h.wide h1
  unfold thirdOf thirdLt
  rcases nx_cases hr with ⟨rfl, e⟩ | ⟨rfl, e⟩ | ⟨rfl, e⟩
  · rw [Int.min_eq_left (by omega), Int.max_eq_right (by omega)]
    simp only []
    rw [d1.1, d1.2, d2.1, d2.2]
    rw [if_neg (by rintro ⟨ha, hb⟩; omega), if_neg (by decide), if_neg (by decide)]
  · rw [Int.min_eq_left (by omega), Int.max_eq_right (by omega)]
    simp only []
    rw [d1.1, d1.2, d2.1, d2.2]
    rw [if_neg (by rintro ⟨ha, hb⟩; omega), if_neg (by decide), if_neg (by decide)]
  · rw [Int.min_eq_right (by omega), Int.max_eq_left (by omega)]
    simp only []
    rw [d1.1, d1.2, d2.1, d2.2]
    rw [if_neg (by rintro ⟨ha, hb⟩; omega), if_neg (by decide), if_pos (by decide)]
    try rfl
/-- one of a row, and the last one who stands alone -/
theorem third_alone (h : Can p) (h1 : 1 < p) (h3 : p % 3 = 1) (hr : R3 r) (hi : 0 ≤ i) (hi' : i < wideOf p) :
    thirdOf p (r * wideOf p + i) (p - 1) = if 2 * i ≥ wideOf p then (r + 1) % 3 * wideOf p + i - wideOf p / 2 else (r + 2) % 3 * wideOf p + i + wideOf p / 2 := by
  have d1 := dm (r := r) hr hi hi'
  obtain ⟨hw, hp⟩ := h.wide h1
  have hle : r * wideOf p + i ≤ p - 1 := by rcases hr with rfl | rfl | rfl <;> omega
  unfold thirdOf thirdLt
  rw [Int.min_eq_left hle, Int.max_eq_right hle]
  simp only []
  rw [d1.1, d1.2, if_pos (by simp [h3])]
end
/-- a three of the made plan, its people in a known turn -/
inductive B (p : Int) : Int → Int → Int → Prop
  | pair {r i j m : Int} (hr : R3 r) (hi : 0 ≤ i) (hi' : i < wideOf p) (hj : 0 ≤ j) (hj' : j < wideOf p) (hij : i ≠ j) (hm : MetIs (wideOf p) i j m) : B p (r * wideOf p + i) (r * wideOf p + j) ((r + 1) % 3 * wideOf p + m)
  | straight {r i : Int} (hr : R3 r) (hi : 0 ≤ i) (hi' : i < wideOf p) (h : wideOf p % 2 = 1 ∨ 2 * i < wideOf p) : B p (r * wideOf p + i) ((r + 1) % 3 * wideOf p + i) ((r + 2) % 3 * wideOf p + i)
  | alone {r i : Int} (h : p % 3 = 1) (hr : R3 r) (hi : 0 ≤ i) (hi' : 2 * i < wideOf p) : B p (p - 1) (r * wideOf p + (i + wideOf p / 2)) ((r + 1) % 3 * wideOf p + i)
theorem crossOf_ne {p w r i f j m : Int} (hm : meets w i j = m) (hne : m ≠ i) : crossOf p w r i f j = r * w + m := by
  unfold crossOf; rw [hm, if_pos hne]
theorem crossOf_same {p w r i f : Int} (hm : meets w i i = i) : crossOf p w r i f i = (r + 2) % 3 * w + i := by
  unfold crossOf; rw [hm, if_neg (by simp), if_pos rfl]
theorem crossOf_alone {p w r i f j : Int} (hm : meets w i j = i) (hne : i ≠ j) : crossOf p w r i f j = p - 1 := by
  unfold crossOf; rw [hm, if_neg (by simp), if_neg hne]
theorem B.third {p x y z : Int} (h : Can p) (h1 : 1 < p) (b : B p x y z) : thirdOf p x y = z ∧ thirdOf p x z = y ∧ thirdOf p y z = x := by
  obtain ⟨hw, hp⟩ := h.wide h1
  cases b with
  | @pair r i j m hr hi hi' hj hj' hij hm =>
    have hm0 := hm.1
    have hm1 := hm.2.1
    have q1 : met (wideOf p) i j = m := MetIs.eq hi hj hi' hj' (met_is hi hj hi' hj') hm
    have q2 : meets (wideOf p) i m = j := by
      obtain ⟨a, b⟩ := meets_range (w := wideOf p) (a := i) (q := m) hw
      exact MetIs.inj hi a hi' b hj hj' (meets_is hi hm0 hi' hm1) hm
    have q3 : meets (wideOf p) j m = i := by
      obtain ⟨a, b⟩ := meets_range (w := wideOf p) (a := j) (q := m) hw
      exact MetIs.inj hj a hj' b hi hi' (meets_is hj hm0 hj' hm1) hm.symm
    refine ⟨?_, ?_, ?_⟩
    · rw [third_row h h1 hr hi hi' hj hj' hij, q1]
    · rw [third_cross h h1 hr hi hi' hm0 hm1, crossOf_ne q2 (Ne.symm hij)]
    · rw [third_cross h h1 hr hj hj' hm0 hm1, crossOf_ne q3 hij]
  | @straight r i hr hi hi' hs =>
    have q : meets (wideOf p) i i = i := by
      obtain ⟨a, b⟩ := meets_range (w := wideOf p) (a := i) (q := i) hw
      refine MetIs.inj hi a hi' b hi hi' (meets_is hi hi hi' hi') ?_
      unfold MetIs; omega
    have hr1 : R3 ((r + 1) % 3) := by omega
    have hr2 : R3 ((r + 2) % 3) := by omega
    have e1 : ((r + 1) % 3 + 1) % 3 = (r + 2) % 3 := by omega
    have e2 : ((r + 1) % 3 + 2) % 3 = r := by omega
    have e3 : ((r + 2) % 3 + 1) % 3 = r := by omega
    have e4 : ((r + 2) % 3 + 2) % 3 = (r + 1) % 3 := by omega
    refine ⟨?_, ?_, ?_⟩
    · rw [third_cross h h1 hr hi hi' hi hi', crossOf_same q]
    · have t := third_cross h h1 hr2 hi hi' hi hi'
      rw [e3] at t
      rw [thirdOf_comm, t, crossOf_same q, e4]
    · have t := third_cross h h1 hr1 hi hi' hi hi'
      rw [e1] at t
      rw [t, crossOf_same q, e2]
  | @alone r i h3 hr hi hi' =>
    have hev : wideOf p % 2 = 0 := by omega
    have k0 : 0 ≤ i + wideOf p / 2 := by omega
    have k1 : i + wideOf p / 2 < wideOf p := by omega
    have hr1 : R3 ((r + 1) % 3) := by omega
    have e2 : ((r + 1) % 3 + 2) % 3 = r := by omega
    have q : meets (wideOf p) (i + wideOf p / 2) i = i + wideOf p / 2 := by
      obtain ⟨a, b⟩ := meets_range (w := wideOf p) (a := i + wideOf p / 2) (q := i) hw
      refine MetIs.inj k0 a k1 b k0 k1 (meets_is k0 hi k1 (by omega)) ?_
      unfold MetIs; omega
    refine ⟨?_, ?_, ?_⟩
    · rw [thirdOf_comm, third_alone h h1 h3 hr k0 k1, if_pos (by omega)]; omega
    · rw [thirdOf_comm, third_alone h h1 h3 hr1 hi (by omega), if_neg (by omega), e2]; omega
    · rw [third_cross h h1 hr k0 k1 hi (by omega), crossOf_alone q (by omega)]
/-- three people of the made plan, in any turn -/
def Line (p x y z : Int) : Prop := B p x y z ∨ B p y x z ∨ B p x z y ∨ B p z x y ∨ B p y z x ∨ B p z y x
theorem Line.swap {p x y z : Int} (h : Line p x y z) : Line p y x z := by
  rcases h with h | h | h | h | h | h
  · exact .inr (.inl h)
  · exact .inl h
  · exact .inr (.inr (.inr (.inr (.inl h))))
  · exact .inr (.inr (.inr (.inr (.inr h))))
  · exact .inr (.inr (.inl h))
  · exact .inr (.inr (.inr (.inl h)))
theorem Line.turn {p x y z : Int} (h : Line p x y z) : Line p x z y := by
  rcases h with h | h | h | h | h | h
  · exact .inr (.inr (.inl h))
  · exact .inr (.inr (.inr (.inl h)))
  · exact .inl h
  · exact .inr (.inl h)
  · exact .inr (.inr (.inr (.inr (.inr h))))
  · exact .inr (.inr (.inr (.inr (.inl h))))
theorem Line.third {p x y z : Int} (h : Can p) (h1 : 1 < p) (l : Line p x y z) : thirdOf p x y = z := by
  rcases l with b | b | b | b | b | b
  · exact (b.third h h1).1
  · rw [thirdOf_comm]; exact (b.third h h1).1
  · exact (b.third h h1).2.1
  · exact (b.third h h1).2.2
  · rw [thirdOf_comm]; exact (b.third h h1).2.1
  · rw [thirdOf_comm]; exact (b.third h h1).2.2
theorem B.range {p x y z : Int} (h : Can p) (h1 : 1 < p) (b : B p x y z) : (0 ≤ x ∧ x < p) ∧ (0 ≤ y ∧ y < p) ∧ (0 ≤ z ∧ z < p) ∧ x ≠ y ∧ x ≠ z ∧ y ≠ z := by
  obtain ⟨hw, hp⟩ := h.wide h1
  cases b with
  | @pair r i j m hr hi hi' hj hj' hij hm =>
    have hm0 := hm.1
    have hm1 := hm.2.1
    rcases nx_cases hr with ⟨rfl, e⟩ | ⟨rfl, e⟩ | ⟨rfl, e⟩ <;> rw [e] <;> omega
  | @straight r i hr hi hi' hs =>
    rcases nx_cases hr with ⟨rfl, e⟩ | ⟨rfl, e⟩ | ⟨rfl, e⟩ <;> rw [e] <;> simp <;> omega
  | @alone r i h3 hr hi hi' =>
    rcases nx_cases hr with ⟨rfl, e⟩ | ⟨rfl, e⟩ | ⟨rfl, e⟩ <;> rw [e] <;> omega
theorem Line.range {p x y z : Int} (h : Can p) (h1 : 1 < p) (l : Line p x y z) : (0 ≤ x ∧ x < p) ∧ (0 ≤ y ∧ y < p) ∧ (0 ≤ z ∧ z < p) ∧ x ≠ y ∧ x ≠ z ∧ y ≠ z := by
  rcases l with b | b | b | b | b | b <;> have q := b.range h h1 <;> omega
/-- one of a row and one of the next -/
theorem line_cross {p r i j : Int} (h : Can p) (h1 : 1 < p) (hr : R3 r) (hi : 0 ≤ i) (hi' : i < wideOf p) (hj : 0 ≤ j) (hj' : j < wideOf p) : ∃ z, Line p (r * wideOf p + i) ((r + 1) % 3 * wideOf p + j) z := by
  obtain ⟨hw, hp⟩ := h.wide h1
  obtain ⟨a, b⟩ := meets_range (w := wideOf p) (a := i) (q := j) hw
  have hm := meets_is hi hj hi' hj'
  by_cases hne : i = meets (wideOf p) i j
  · rw [← hne] at hm
    by_cases hij : i = j
    · subst hij
      refine ⟨_, .inl (.straight hr hi hi' ?_)⟩
      unfold MetIs at hm
      omega
    · have hx : wideOf p % 2 = 0 ∧ i = j + wideOf p / 2 ∧ 2 * j < wideOf p := by
        unfold MetIs at hm
        omega
      obtain ⟨x1, x2, x3⟩ := hx
      rw [x2]
      exact ⟨p - 1, .inr (.inr (.inr (.inl (.alone (by omega) hr hj x3))))⟩
  · exact ⟨_, .inr (.inr (.inl (.pair hr hi hi' a b hne hm)))⟩
theorem line_ex {p x y : Int} (h : Can p) (h1 : 1 < p) (hx : 0 ≤ x) (hx' : x < p) (hy : 0 ≤ y) (hy' : y < p) (hxy : x ≠ y) : ∃ z, Line p x y z := by
  obtain ⟨hw, hp⟩ := h.wide h1
  have last : ∀ x : Int, 0 ≤ x → x < 3 * wideOf p → p % 3 = 1 → ∃ z, Line p x (p - 1) z := by
    intro x hx hx' h3
    obtain ⟨r, i, hr, hi, hi', rfl⟩ := rows hx hx'
    by_cases h2 : 2 * i < wideOf p
    · have e : ((r + 2) % 3 + 1) % 3 = r := by omega
      have b := B.alone (p := p) (r := (r + 2) % 3) (i := i) h3 (by omega) hi h2
      rw [e] at b
      exact ⟨_, .inr (.inr (.inr (.inr (.inl b))))⟩
    · have b := B.alone (p := p) (r := r) (i := i - wideOf p / 2) h3 hr (by omega) (by omega)
      rw [show i - wideOf p / 2 + wideOf p / 2 = i by omega] at b
      exact ⟨_, .inr (.inl b)⟩
  by_cases x3 : x < 3 * wideOf p
  · by_cases y3 : y < 3 * wideOf p
    · obtain ⟨r, i, hr, hi, hi', rfl⟩ := rows hx x3
      obtain ⟨s, j, hs, hj, hj', rfl⟩ := rows hy y3
      by_cases hrs : r = s
      · subst hrs
        exact ⟨_, .inl (.pair hr hi hi' hj hj' (fun e => hxy (by rw [e])) (met_is hi hj hi' hj'))⟩
      · by_cases hn : s = (r + 1) % 3
        · subst hn
          exact line_cross h h1 hr hi hi' hj hj'
        · have hn' : r = (s + 1) % 3 := by omega
          subst hn'
          obtain ⟨z, l⟩ := line_cross h h1 hs hj hj' hi hi'
          exact ⟨z, l.swap⟩
    · have e : y = p - 1 := by omega
      subst e
      exact last x hx x3 (by omega)
  · have e : x = p - 1 := by omega
    subst e
    obtain ⟨z, l⟩ := last y hy (by omega) (by omega)
    exact ⟨z, l.swap⟩
/-- what law 1 asks of the third one -/
theorem third_ok {p x y : Int} (h : Can p) (h1 : 1 < p) (hx : 0 ≤ x) (hx' : x < p) (hy : 0 ≤ y) (hy' : y < p) (hxy : x ≠ y) :
    0 ≤ thirdOf p x y ∧ thirdOf p x y < p ∧ thirdOf p x y ≠ x ∧ thirdOf p x y ≠ y ∧ thirdOf p x (thirdOf p x y) = y ∧ thirdOf p (thirdOf p x y) y = x := by
  obtain ⟨z, l⟩ := line_ex h h1 hx hx' hy hy' hxy
  have e := l.third h h1
  have r := l.range h h1
  rw [e]
  exact ⟨by omega, by omega, by omega, by omega, l.turn.third h h1, by rw [thirdOf_comm]; exact l.swap.turn.third h h1⟩
theorem third_line {p x y : Int} (h : Can p) (h1 : 1 < p) (hx : 0 ≤ x) (hx' : x < p) (hy : 0 ≤ y) (hy' : y < p) (hxy : x ≠ y) : Line p x y (thirdOf p x y) := by
  obtain ⟨z, l⟩ := line_ex h h1 hx hx' hy hy' hxy
  rw [l.third h h1]
  exact l
theorem can_shared {p : Int} (h : Can p) : p * (p - 1) / 2 % 3 = 0 := by
  unfold Can at h
  obtain ⟨h0, h1 | h1⟩ := h
  · obtain ⟨k, rfl⟩ : ∃ k, p = 6 * k + 1 := ⟨p / 6, by omega⟩
    have e : (6 * k + 1) * (6 * k + 1 - 1) = 6 * ((6 * k + 1) * k) := by grind
    omega
  · obtain ⟨k, rfl⟩ : ∃ k, p = 6 * k + 3 := ⟨p / 6, by omega⟩
    have e : (6 * k + 3) * (6 * k + 3 - 1) = 6 * ((2 * k + 1) * (3 * k + 1)) := by grind
    omega
/-- whether pairs can be shared out, of odd counts -/
theorem shared_iff {p : Int} (h : p % 2 = 1) : p * (p - 1) / 2 % 3 = 0 ↔ p % 6 ≠ 5 := by
  have h6 : p % 6 = 1 ∨ p % 6 = 3 ∨ p % 6 = 5 := by omega
  rcases h6 with h1 | h1 | h1
  · obtain ⟨k, rfl⟩ : ∃ k, p = 6 * k + 1 := ⟨p / 6, by omega⟩
    have e : (6 * k + 1) * (6 * k + 1 - 1) = 6 * ((6 * k + 1) * k) := by grind
    omega
  · obtain ⟨k, rfl⟩ : ∃ k, p = 6 * k + 3 := ⟨p / 6, by omega⟩
    have e : (6 * k + 3) * (6 * k + 3 - 1) = 6 * ((2 * k + 1) * (3 * k + 1)) := by grind
    omega
  · obtain ⟨k, rfl⟩ : ∃ k, p = 6 * k + 5 := ⟨p / 6, by omega⟩
    have e : (6 * k + 5) * (6 * k + 5 - 1) = 6 * (6 * (k * k) + 9 * k + 3) + 2 := by grind
    omega
end G66
namespace G66
open PySem PySem.Spec PyProof.Rows L2
local macro_rules | `(tactic| walk_at "b") => `(tactic| first | assumption | exact (Bt.small (by omega)).mono (by decide) | (refine Bt.le ?_ ?_ (by assumption) <;> omega))
local macro_rules | `(tactic| walk_at "c") => `(tactic| first | (show (0 : Int) < _; omega) | exact ⟨by omega, (Bt.small (by omega)).mono (by decide)⟩ | exact ⟨by omega, Bt.mono (m := 4010) (by walk_at "b") (by decide)⟩ | exact ⟨4010, 4010, (by walk_at "b"), (by walk_at "b"), by decide⟩)
local macro_rules | `(tactic| walk_at "set") => `(tactic| ((repeat with_reducible apply set_s); (with_reducible exact set_z)))
local macro_rules | `(tactic| walk_at "at") => `(tactic| first | assumption | with_reducible exact upd_same | ((with_reducible refine' at_made ?e1 ?e2 ?e3); (case e1 => assumption); (case e2 => assumption); (case e3 => (walk_at "at"))) | ((with_reducible refine' at_new ?e1 ?e3); (case e1 => assumption); (case e3 => (walk_at "at"))))
local macro_rules | `(tactic| walk_at "sq") => `(tactic| first | assumption | with_reducible exact SqL.of upd_same | ((with_reducible refine' sq_made ?e1 ?e2 ?e3); (case e1 => assumption); (case e2 => assumption); (case e3 => (walk_at "sq"))) | ((with_reducible refine' sq_new ?e1 ?e3); (case e1 => assumption); (case e3 => (walk_at "sq"))) | ((refine' SqL.of ?e3); (case e3 => (walk_at "at"))))
local macro_rules | `(tactic| walk_at "sqt") => `(tactic| first | assumption | with_reducible exact SqT.of upd_same | ((with_reducible refine' sqt_made ?e1 ?e2 ?e3); (case e1 => assumption); (case e2 => assumption); (case e3 => (walk_at "sqt"))) | ((with_reducible refine' sqt_new ?e1 ?e3); (case e1 => assumption); (case e3 => (walk_at "sqt"))) | ((refine' SqT.of ?e3); (case e3 => (walk_at "at"))))
local macro_rules | `(tactic| walk_at "sm") => `(tactic| first | assumption | exact Same.refl _ | ((with_reducible refine' sm_made ?e1 ?e2 ?e3); (case e1 => assumption); (case e2 => assumption); (case e3 => (walk_at "sm"))) | ((with_reducible refine' sm_new ?e1 ?e3); (case e1 => assumption); (case e3 => (walk_at "sm"))))
local macro_rules | `(tactic| walk_at "1") => `(tactic| first
  | ((with_reducible refine' g_var ?e0 ?_); (case e0 => (with_unfolding_all exact rfl)))
  | with_reducible refine g_seq ?_
  | with_reducible refine g_asg ?_
  | ((with_reducible refine' g_name ?e ?_); (case e => (walk_at "set")))
  | with_reducible refine g_op ?_
  | with_reducible refine g_c ?_
  | with_reducible refine g_rI0 ?_
  | ((with_reducible refine g_rI ?_ ?_); (focus (walk_at "c")))
  | with_reducible refine g_cons ?_
  | with_reducible refine g_nil ?_
  | with_reducible refine g_fn ?_
  | with_reducible refine g_ret ?_
  | with_reducible refine g_ifS ?_
  | with_reducible refine g_test ?_
  | with_reducible refine g_exbl ?_
  | with_reducible refine g_next ?_
  | with_reducible refine g_tB ?_
  | with_reducible refine g_not ?_
  | with_reducible refine g_and ?_
  | with_reducible refine g_or ?_
  | with_reducible refine g_andV ?_
  | with_reducible refine g_orV ?_
  | with_reducible refine g_notV ?_
  | with_reducible refine g_if ?_
  | with_reducible refine g_cb ?_
  | with_reducible refine g_two ?_
  | with_reducible refine g_one ?_
  | with_reducible refine g_par ?_
  | ((with_reducible refine' g_par2 ?e1 ?e2 ?_); (case e1 => (walk_at "set")); (case e2 => (walk_at "set")))
  | with_reducible refine g_drop ?_
  | with_reducible refine g_retN ?_
  | with_reducible refine iteT ?_
  | with_reducible refine iteF ?_
  | with_reducible refine iteNT ?_
  | with_reducible refine iteNF ?_
  | with_reducible refine g_un ?_
  | with_reducible refine g_rU ?_
  | with_reducible refine g_chain ?_
  | with_reducible refine g_chain3 ?_
  | with_reducible refine g_exint ?_
  | with_reducible refine g_eqB ?_
  | with_reducible refine g_neB ?_
  | with_reducible refine g_exbb ?_
  | with_reducible refine g_sl ?_
  | with_reducible refine g_part ?_
  | with_reducible refine g_noPart ?_
  | ((with_reducible refine' g_aug ?e0 ?_); (case e0 => (with_unfolding_all exact rfl)))
  | ((with_reducible refine' g_augk ?e ?_); (case e => (walk_at "set")))
  | with_reducible refine g_ipI ?_
  | with_reducible refine g_tup ?_
  | with_reducible refine g_lst ?_
  | ((with_reducible refine' g_fresh ?e0 ?_); (case e0 => (with_unfolding_all exact rfl)))
  | ((with_reducible refine' g_gtupN ?e0 ?_); (case e0 => (with_unfolding_all exact rfl)))
  | with_reducible refine g_gcons ?_
  | with_reducible refine g_gnil ?_
  | with_reducible refine g_isi_ii ?_
  | with_reducible refine g_isi_ib ?_
  | with_reducible refine g_isi_bb ?_
  | with_reducible refine g_mt ?_
  | with_reducible refine g_for ?_
  | with_reducible refine g_ilist ?_
  | with_reducible refine g_itup ?_
  | with_reducible refine g_range ?_
  | with_reducible refine g_irng1 ?_
  | with_reducible refine g_yes ?_
  | with_reducible refine g_lc ?_
  | ((with_reducible refine' g_isi_own ?e0 ?e1 ?e2 ?_); (case e0 => (walk_at "at")); (case e1 => (assumption)); (case e2 => (assumption)))
  | ((with_reducible refine' g_recv ?e0 ?e1 ?_); (case e0 => (walk_at "at")); (case e1 => (with_unfolding_all exact rfl)))
  | ((with_reducible refine' g_in2L ?e0 ?_); (case e0 => (walk_at "sq")))
  | ((with_reducible refine' g_ne3B ?e0 ?e1 ?_); (case e0 => (walk_at "sq")); (case e1 => (walk_at "sq")))
  | ((with_reducible refine' g_any3 ?e0 ?_); (case e0 => (walk_at "sq")))
  | ((with_reducible refine' g_all3 ?e0 ?_); (case e0 => (walk_at "sq")))
  | with_reducible refine g_bm ?_
  | with_reducible refine g_bm0 ?_
  | ((with_reducible refine' g_tyL ?e0 ?_); (case e0 => (walk_at "at")))
  | walk_at "u"
  | ((with_reducible refine' iteTd ?e0 ?_); (case e0 => (decide)))
  | ((with_reducible refine' iteFd ?e0 ?_); (case e0 => (decide))))
local macro_rules | `(tactic| walk_at "f") => `(tactic| first
  | ((with_reducible refine' g_fresh ?e ?_); (case e => (with_unfolding_all exact rfl)); (intro _ _))
  | ((with_reducible refine g_mkO ?_); (intro _ _ _ _ _))
  | ((with_reducible refine' g_slL ?e ?_); (case e => (walk_at "sq")); (intro _ _)))
local macro_rules | `(tactic| walk_at "ga") => `(tactic| repeat (first | walk_at "f" | walk_at "1"))
local macro_rules | `(tactic| walk_at "g") => `(tactic| repeat walk_at "1")
structure Cs where
  Answer : Addr
  Can : Addr
  Unpaired : Addr
  Unshared : Addr
  Plan : Addr
  Apart : Addr
  Twice : Addr
  ThreeError : Addr
  BadPeople : Addr
  BadPerson : Addr
  BadThrees : Addr
  BadNumber : Addr
  NoPlan : Addr
def topS (i : Nat) : Stmt := PySem.Challenge.pw_pairthrees_k01_whole_thirds.main.body.getD i (.Pass ⟨0, 0, 0, 0⟩)
abbrev s_is_number : Stmt := topS 6
theorem sc_is_number : FnScope ["thing", "least"] ["thing", "least"] (defScope s_is_number) := ⟨rfl, rfl, rfl, by decide +kernel, rfl, by decide +kernel, by decide +kernel⟩
abbrev s_check_people : Stmt := topS 7
theorem sc_check_people : FnScope ["people"] ["people"] (defScope s_check_people) := ⟨rfl, rfl, rfl, by decide +kernel, rfl, by decide +kernel, by decide +kernel⟩
abbrev s_is_even : Stmt := topS 8
theorem sc_is_even : FnScope ["people"] ["people"] (defScope s_is_even) := ⟨rfl, rfl, rfl, by decide +kernel, rfl, by decide +kernel, by decide +kernel⟩
abbrev s_is_unshared : Stmt := topS 9
theorem sc_is_unshared : FnScope ["people"] ["people"] (defScope s_is_unshared) := ⟨rfl, rfl, rfl, by decide +kernel, rfl, by decide +kernel, by decide +kernel⟩
abbrev s_times_together : Stmt := topS 10
theorem sc_times_together : FnScope ["people", "threes", "found", "one", "other", "last", "pair"] ["people", "threes"] (defScope s_times_together) := ⟨rfl, rfl, rfl, by decide +kernel, rfl, by decide +kernel, by decide +kernel⟩
abbrev s_is_plan : Stmt := topS 11
theorem sc_is_plan : FnScope ["people", "threes", "times", "often"] ["people", "threes"] (defScope s_is_plan) := ⟨rfl, rfl, rfl, by decide +kernel, rfl, by decide +kernel, by decide +kernel⟩
abbrev s_Can_shows : Stmt := inClass (topS 14) 0
theorem sc_Can_shows : FnScope ["self", "people"] ["self", "people"] (defScope s_Can_shows) := ⟨rfl, rfl, rfl, by decide +kernel, rfl, by decide +kernel, by decide +kernel⟩
abbrev s_Unpaired_shows : Stmt := inClass (topS 15) 0
theorem sc_Unpaired_shows : FnScope ["self", "people"] ["self", "people"] (defScope s_Unpaired_shows) := ⟨rfl, rfl, rfl, by decide +kernel, rfl, by decide +kernel, by decide +kernel⟩
abbrev s_Unshared_shows : Stmt := inClass (topS 16) 0
theorem sc_Unshared_shows : FnScope ["self", "people"] ["self", "people"] (defScope s_Unshared_shows) := ⟨rfl, rfl, rfl, by decide +kernel, rfl, by decide +kernel, by decide +kernel⟩
abbrev s_Plan_shows : Stmt := inClass (topS 17) 0
theorem sc_Plan_shows : FnScope ["self", "people", "threes"] ["self", "people", "threes"] (defScope s_Plan_shows) := ⟨rfl, rfl, rfl, by decide +kernel, rfl, by decide +kernel, by decide +kernel⟩
abbrev s_Apart_init : Stmt := inClass (topS 18) 0
theorem sc_Apart_init : FnScope ["self", "one", "other"] ["self", "one", "other"] (defScope s_Apart_init) := ⟨rfl, rfl, rfl, by decide +kernel, rfl, by decide +kernel, by decide +kernel⟩
abbrev s_Apart_shows : Stmt := inClass (topS 18) 1
theorem sc_Apart_shows : FnScope ["self", "people", "threes", "three"] ["self", "people", "threes"] (defScope s_Apart_shows) := ⟨rfl, rfl, rfl, by decide +kernel, rfl, by decide +kernel, by decide +kernel⟩
abbrev s_Twice_init : Stmt := inClass (topS 19) 0
theorem sc_Twice_init : FnScope ["self", "first", "second"] ["self", "first", "second"] (defScope s_Twice_init) := ⟨rfl, rfl, rfl, by decide +kernel, rfl, by decide +kernel, by decide +kernel⟩
abbrev s_Twice_shows : Stmt := inClass (topS 19) 1
theorem sc_Twice_shows : FnScope ["self", "people", "threes", "one"] ["self", "people", "threes"] (defScope s_Twice_shows) := ⟨rfl, rfl, rfl, by decide +kernel, rfl, by decide +kernel, by decide +kernel⟩
abbrev s_wide_of : Stmt := topS 21
theorem sc_wide_of : FnScope ["people"] ["people"] (defScope s_wide_of) := ⟨rfl, rfl, rfl, by decide +kernel, rfl, by decide +kernel, by decide +kernel⟩
abbrev s_met : Stmt := topS 22
theorem sc_met : FnScope ["wide", "one", "other", "both"] ["wide", "one", "other"] (defScope s_met) := ⟨rfl, rfl, rfl, by decide +kernel, rfl, by decide +kernel, by decide +kernel⟩
abbrev s_meets : Stmt := topS 23
theorem sc_meets : FnScope ["wide", "one", "place", "both"] ["wide", "one", "place"] (defScope s_meets) := ⟨rfl, rfl, rfl, by decide +kernel, rfl, by decide +kernel, by decide +kernel⟩
abbrev s_third_of : Stmt := topS 24
theorem sc_third_of : FnScope ["people", "one", "other", "wide", "row", "place", "far", "there", "found"] ["people", "one", "other"] (defScope s_third_of) := ⟨rfl, rfl, rfl, by decide +kernel, rfl, by decide +kernel, by decide +kernel⟩
abbrev s_can : Stmt := topS 26
theorem sc_can : FnScope ["people"] ["people"] (defScope s_can) := ⟨rfl, rfl, rfl, by decide +kernel, rfl, by decide +kernel, by decide +kernel⟩
abbrev s_check_plan : Stmt := topS 27
theorem sc_check_plan : FnScope ["people"] ["people"] (defScope s_check_plan) := ⟨rfl, rfl, rfl, by decide +kernel, rfl, by decide +kernel, by decide +kernel⟩
abbrev s_third : Stmt := topS 28
theorem sc_third : FnScope ["people", "one", "other", "person"] ["people", "one", "other"] (defScope s_third) := ⟨rfl, rfl, rfl, by decide +kernel, rfl, by decide +kernel, by decide +kernel⟩
abbrev s__law_number : Stmt := topS 30
theorem sc__law_number : FnScope ["_law_cell", "_law_at", "_law_whole_here", "_law_mixed", "_law_more"] ["_law_cell", "_law_at", "_law_whole_here"] (defScope s__law_number) := ⟨rfl, rfl, rfl, by decide +kernel, rfl, by decide +kernel, by decide +kernel⟩
abbrev s__law_whole : Stmt := topS 31
theorem sc__law_whole : FnScope ["_law_found"] ["_law_found"] (defScope s__law_whole) := ⟨rfl, rfl, rfl, by decide +kernel, rfl, by decide +kernel, by decide +kernel⟩
abbrev s__law_great : Stmt := topS 32
theorem sc__law_great : FnScope ["_law_script", "_law_at", "_law_whole_here", "_law_number_here", "_law_found"] ["_law_script", "_law_at"] (defScope s__law_great) := ⟨rfl, rfl, rfl, by decide +kernel, rfl, by decide +kernel, by decide +kernel⟩
abbrev s__law_pair_right : Stmt := topS 33
theorem sc__law_pair_right : FnScope ["_law_people", "_law_one", "_law_other", "_law_found"] ["_law_people", "_law_one", "_law_other"] (defScope s__law_pair_right) := ⟨rfl, rfl, rfl, by decide +kernel, rfl, by decide +kernel, by decide +kernel⟩
abbrev s__law_can_right : Stmt := topS 34
theorem sc__law_can_right : FnScope ["_law_people", "_law_found", "_law_kinds", "_law_wrong", "_law_due", "_law_other", "_law_even", "_law_fifth", "_law_said", "_law_one"] ["_law_people"] (defScope s__law_can_right) := ⟨rfl, rfl, rfl, by decide +kernel, rfl, by decide +kernel, by decide +kernel⟩
abbrev s_law : Stmt := topS 35
theorem sc_law : FnScope ["_law_script", "_law_whole_here", "_law_at", "_law_people", "_law_one", "_law_other", "_law_pairs", "_law_near", "_law_far", "_law_few"] ["_law_script"] (defScope s_law) := ⟨rfl, rfl, rfl, by decide +kernel, rfl, by decide +kernel, by decide +kernel⟩
structure Top (K : PySem.W.Frag) (mg : PySem.Str → Option Value) (c : Cs) : Prop where
  f_is_number : Dfn K mg "is_number" s_is_number
  f_check_people : Dfn K mg "check_people" s_check_people
  f_is_even : Dfn K mg "is_even" s_is_even
  f_is_unshared : Dfn K mg "is_unshared" s_is_unshared
  f_times_together : Dfn K mg "times_together" s_times_together
  f_is_plan : Dfn K mg "is_plan" s_is_plan
  f_wide_of : Dfn K mg "wide_of" s_wide_of
  f_met : Dfn K mg "met" s_met
  f_meets : Dfn K mg "meets" s_meets
  f_third_of : Dfn K mg "third_of" s_third_of
  f_can : Dfn K mg "can" s_can
  f_check_plan : Dfn K mg "check_plan" s_check_plan
  f_third : Dfn K mg "third" s_third
  f__law_number : Dfn K mg "_law_number" s__law_number
  f__law_whole : Dfn K mg "_law_whole" s__law_whole
  f__law_great : Dfn K mg "_law_great" s__law_great
  f__law_pair_right : Dfn K mg "_law_pair_right" s__law_pair_right
  f__law_can_right : Dfn K mg "_law_can_right" s__law_can_right
  f_law : Dfn K mg "law" s_law
  z_isinstance : mg "isinstance" = none
  z_min : mg "min" = none
  z_max : mg "max" = none
  z_len : mg "len" = none
  z_sum : mg "sum" = none
  z_range : mg "range" = none
  z_all : mg "all" = none
  z_any : mg "any" = none
  z_int : mg "int" = none
  z_bool : mg "bool" = none
  mg_Answer : mg "Answer" = some (.ref c.Answer)
  cf_Answer : CF K c.Answer
  mk_Answer : MkO K c.Answer
  mg_Can : mg "Can" = some (.ref c.Can)
  cf_Can : CF K c.Can
  mk_Can : MkO K c.Can
  m_Can_shows : Mfn K c.Can "shows" "Can.shows" s_Can_shows
  mg_Unpaired : mg "Unpaired" = some (.ref c.Unpaired)
  cf_Unpaired : CF K c.Unpaired
  mk_Unpaired : MkO K c.Unpaired
  m_Unpaired_shows : Mfn K c.Unpaired "shows" "Unpaired.shows" s_Unpaired_shows
  mg_Unshared : mg "Unshared" = some (.ref c.Unshared)
  cf_Unshared : CF K c.Unshared
  mk_Unshared : MkO K c.Unshared
  m_Unshared_shows : Mfn K c.Unshared "shows" "Unshared.shows" s_Unshared_shows
  mg_Plan : mg "Plan" = some (.ref c.Plan)
  cf_Plan : CF K c.Plan
  mk_Plan : MkO K c.Plan
  m_Plan_shows : Mfn K c.Plan "shows" "Plan.shows" s_Plan_shows
  mg_Apart : mg "Apart" = some (.ref c.Apart)
  cf_Apart : CF K c.Apart
  mi_Apart : MkI K c.Apart "Apart.__init__" s_Apart_init
  m_Apart_shows : Mfn K c.Apart "shows" "Apart.shows" s_Apart_shows
  mg_Twice : mg "Twice" = some (.ref c.Twice)
  cf_Twice : CF K c.Twice
  mi_Twice : MkI K c.Twice "Twice.__init__" s_Twice_init
  m_Twice_shows : Mfn K c.Twice "shows" "Twice.shows" s_Twice_shows
  kit_Can_Can : PySem.W.kitOne K (.ref c.Can) (.ref c.Can) = some true
  kit_Can_Unpaired : PySem.W.kitOne K (.ref c.Can) (.ref c.Unpaired) = some false
  kit_Can_Unshared : PySem.W.kitOne K (.ref c.Can) (.ref c.Unshared) = some false
  kit_Can_Plan : PySem.W.kitOne K (.ref c.Can) (.ref c.Plan) = some false
  kit_Can_Apart : PySem.W.kitOne K (.ref c.Can) (.ref c.Apart) = some false
  kit_Can_Twice : PySem.W.kitOne K (.ref c.Can) (.ref c.Twice) = some false
  kit_Can_Answer : PySem.W.kitOne K (.ref c.Can) (.ref c.Answer) = some true
  kit_Unpaired_Can : PySem.W.kitOne K (.ref c.Unpaired) (.ref c.Can) = some false
  kit_Unpaired_Unpaired : PySem.W.kitOne K (.ref c.Unpaired) (.ref c.Unpaired) = some true
  kit_Unpaired_Unshared : PySem.W.kitOne K (.ref c.Unpaired) (.ref c.Unshared) = some false
  kit_Unpaired_Plan : PySem.W.kitOne K (.ref c.Unpaired) (.ref c.Plan) = some false
  kit_Unpaired_Apart : PySem.W.kitOne K (.ref c.Unpaired) (.ref c.Apart) = some false
  kit_Unpaired_Twice : PySem.W.kitOne K (.ref c.Unpaired) (.ref c.Twice) = some false
  kit_Unpaired_Answer : PySem.W.kitOne K (.ref c.Unpaired) (.ref c.Answer) = some true
  kit_Unshared_Can : PySem.W.kitOne K (.ref c.Unshared) (.ref c.Can) = some false
  kit_Unshared_Unpaired : PySem.W.kitOne K (.ref c.Unshared) (.ref c.Unpaired) = some false
  kit_Unshared_Unshared : PySem.W.kitOne K (.ref c.Unshared) (.ref c.Unshared) = some true
  kit_Unshared_Plan : PySem.W.kitOne K (.ref c.Unshared) (.ref c.Plan) = some false
  kit_Unshared_Apart : PySem.W.kitOne K (.ref c.Unshared) (.ref c.Apart) = some false
  kit_Unshared_Twice : PySem.W.kitOne K (.ref c.Unshared) (.ref c.Twice) = some false
  kit_Unshared_Answer : PySem.W.kitOne K (.ref c.Unshared) (.ref c.Answer) = some true
def sp_is_number (K : PySem.W.Frag) (c : Cs) : Sp := fun vs H Q _ => match vs with | [.int x, .int l] => Q (.bl (decide (l ≤ x))) H | _ => False
theorem u_is_number {K : PySem.W.Frag} {c : Cs} {H : Hp} {Q : VK} {E : XK} {x : Int} {l : Int} (h : Q (.bl (decide (l ≤ x))) H) : sp_is_number K c [.int x, .int l] H Q E := h
local macro_rules | `(tactic| walk_at "u") => `(tactic| with_reducible refine u_is_number ?_)
set_option maxHeartbeats 4000000 in
theorem d_is_number {P : Program} {w : World} {K : PySem.W.Frag} {mg : PySem.Str → Option Value} {base : Heap} {c : Cs} (T : Top K mg c) : Df P w K mg base CX0 1 "is_number" ["thing", "least"] (sp_is_number K c) := by
  refine T.f_is_number.ok sc_is_number (fun _ _ _ _ _ _ us hl => match us, hl with | [_, _], _ => rfl) (fun vs H Q E h => ?_) (fun f cdv A outer s H vs Q E hr h => ?_)
  · unfold sp_is_number at h; split at h
    · rfl
    · exact h.elim
  · unfold sp_is_number at h; split at h
    case h_2 => exact h.elim
    rename_i x l
    refine ⟨_, (pss_one (ps_ret (pe_and (pe_callB (k_isi (K := K) rfl) (by rfl) T.z_isinstance (by decide +kernel) (pa_cons (pv 0) (pa_cons (pe_bltn (v := .ty "int") (by rfl) T.z_int (by decide +kernel) rfl) pa_nil))) (pe_and (pe_not (pe_callB (k_isi (K := K) rfl) (by rfl) T.z_isinstance (by decide +kernel) (pa_cons (pv 0) (pa_cons (pe_bltn (v := .ty "bool") (by rfl) T.z_bool (by decide +kernel) rfl) pa_nil)))) (pe_one (pe_cmpR op_ge (pv 0) (pv 1) (nomark _))))))), start_eq (σ := [some (.int x), some (.int l)]) rfl ?_⟩
    walk_at "g"
    exact h
def sp_check_people (K : PySem.W.Frag) (c : Cs) : Sp := fun vs H Q _ => match vs with | [.int p] => 1 ≤ p ∧ Q .non H | _ => False
theorem u_check_people {K : PySem.W.Frag} {c : Cs} {H : Hp} {Q : VK} {E : XK} {p : Int} (h : 1 ≤ p ∧ Q .non H) : sp_check_people K c [.int p] H Q E := h
local macro_rules | `(tactic| walk_at "u") => `(tactic| with_reducible refine u_check_people ?_)
set_option maxHeartbeats 4000000 in
theorem d_check_people {P : Program} {w : World} {K : PySem.W.Frag} {mg : PySem.Str → Option Value} {base : Heap} {c : Cs} (T : Top K mg c) : Df P w K mg base CX0 2 "check_people" ["people"] (sp_check_people K c) := by
  have c_is_number := d_is_number (P := P) (w := w) (base := base) T
  refine T.f_check_people.ok sc_check_people (fun _ _ _ _ _ _ us hl => match us, hl with | [_], _ => rfl) (fun vs H Q E h => ?_) (fun f cdv A outer s H vs Q E hr h => ?_)
  · unfold sp_check_people at h; split at h
    · rfl
    · exact h.elim
  · unfold sp_check_people at h; split at h
    case h_2 => exact h.elim
    rename_i p
    obtain ⟨h0, h⟩ := h
    refine ⟨_, (pss_one (ps_if (pt_not (pt_val (pe_fn c_is_number hr (by rfl) pass0 (pa_cons (pv 0) (pa_cons pe_int pa_nil)))))
      (pss_one ps_never)
      pss_nil)), start_eq (σ := [some (.int p)]) rfl ?_⟩
    walk_at "g"
    refine ifNF h0 ?_
    walk_at "g"
    exact h
def sp_is_even (K : PySem.W.Frag) (c : Cs) : Sp := fun vs H Q _ => match vs with | [.int p] => Q (.bl (decide (p % 2 = 0))) H | _ => False
theorem u_is_even {K : PySem.W.Frag} {c : Cs} {H : Hp} {Q : VK} {E : XK} {p : Int} (h : Q (.bl (decide (p % 2 = 0))) H) : sp_is_even K c [.int p] H Q E := h
local macro_rules | `(tactic| walk_at "u") => `(tactic| with_reducible refine u_is_even ?_)
set_option maxHeartbeats 4000000 in
theorem d_is_even {P : Program} {w : World} {K : PySem.W.Frag} {mg : PySem.Str → Option Value} {base : Heap} {c : Cs} (T : Top K mg c) : Df P w K mg base CX0 1 "is_even" ["people"] (sp_is_even K c) := by
  refine T.f_is_even.ok sc_is_even (fun _ _ _ _ _ _ us hl => match us, hl with | [_], _ => rfl) (fun vs H Q E h => ?_) (fun f cdv A outer s H vs Q E hr h => ?_)
  · unfold sp_is_even at h; split at h
    · rfl
    · exact h.elim
  · unfold sp_is_even at h; split at h
    case h_2 => exact h.elim
    rename_i p
    refine ⟨_, (pss_one (ps_ret (pe_cmpR op_eqI (pe_op op_mod (pv 0) pe_int) pe_int (nomark _)))), start_eq (σ := [some (.int p)]) rfl ?_⟩
    walk_at "g"
    exact h
def sp_is_unshared (K : PySem.W.Frag) (c : Cs) : Sp := fun vs H Q _ => match vs with | [.int p] => (1 ≤ p ∧ Bt 4000 p) ∧ Q (.bl (!decide (p * (p - 1) / 2 % 3 = 0))) H | _ => False
theorem u_is_unshared {K : PySem.W.Frag} {c : Cs} {H : Hp} {Q : VK} {E : XK} {p : Int} (h : (1 ≤ p ∧ Bt 4000 p) ∧ Q (.bl (!decide (p * (p - 1) / 2 % 3 = 0))) H) : sp_is_unshared K c [.int p] H Q E := h
local macro_rules | `(tactic| walk_at "u") => `(tactic| with_reducible refine u_is_unshared ?_)
set_option maxHeartbeats 4000000 in
theorem d_is_unshared {P : Program} {w : World} {K : PySem.W.Frag} {mg : PySem.Str → Option Value} {base : Heap} {c : Cs} (T : Top K mg c) : Df P w K mg base CX0 1 "is_unshared" ["people"] (sp_is_unshared K c) := by
  refine T.f_is_unshared.ok sc_is_unshared (fun _ _ _ _ _ _ us hl => match us, hl with | [_], _ => rfl) (fun vs H Q E h => ?_) (fun f cdv A outer s H vs Q E hr h => ?_)
  · unfold sp_is_unshared at h; split at h
    · rfl
    · exact h.elim
  · unfold sp_is_unshared at h; split at h
    case h_2 => exact h.elim
    rename_i p
    obtain ⟨⟨h0, hp⟩, h⟩ := h
    have hq := hp.big
    refine ⟨_, (pss_one (ps_ret (pe_cmpR op_neI (pe_op op_mod (pe_op op_fdivB (pe_op op_mulB (pv 0) (pe_op op_sub (pv 0) pe_int)) pe_int) pe_int) pe_int (nomark _)))), start_eq (σ := [some (.int p)]) rfl ?_⟩
    walk_at "g"
    exact h
def sp_wide_of (K : PySem.W.Frag) (c : Cs) : Sp := fun vs H Q _ => match vs with | [.int p] => Q (.int (wideOf p)) H | _ => False
theorem u_wide_of {K : PySem.W.Frag} {c : Cs} {H : Hp} {Q : VK} {E : XK} {p : Int} (h : Q (.int (wideOf p)) H) : sp_wide_of K c [.int p] H Q E := h
local macro_rules | `(tactic| walk_at "u") => `(tactic| with_reducible refine u_wide_of ?_)
set_option maxHeartbeats 4000000 in
theorem d_wide_of {P : Program} {w : World} {K : PySem.W.Frag} {mg : PySem.Str → Option Value} {base : Heap} {c : Cs} (T : Top K mg c) : Df P w K mg base CX0 1 "wide_of" ["people"] (sp_wide_of K c) := by
  refine T.f_wide_of.ok sc_wide_of (fun _ _ _ _ _ _ us hl => match us, hl with | [_], _ => rfl) (fun vs H Q E h => ?_) (fun f cdv A outer s H vs Q E hr h => ?_)
  · unfold sp_wide_of at h; split at h
    · rfl
    · exact h.elim
  · unfold sp_wide_of at h; split at h
    case h_2 => exact h.elim
    rename_i p
    refine ⟨_, (pss_one (ps_ret (pe_op op_fdivB (pv 0) pe_int))), start_eq (σ := [some (.int p)]) rfl ?_⟩
    walk_at "g"
    exact h
def sp_met (K : PySem.W.Frag) (c : Cs) : Sp := fun vs H Q _ => match vs with | [.int w, .int a, .int b] => (0 < w ∧ Bt 4000 w) ∧ Q (.int (met w a b)) H | _ => False
theorem u_met {K : PySem.W.Frag} {c : Cs} {H : Hp} {Q : VK} {E : XK} {w : Int} {a : Int} {b : Int} (h : (0 < w ∧ Bt 4000 w) ∧ Q (.int (met w a b)) H) : sp_met K c [.int w, .int a, .int b] H Q E := h
local macro_rules | `(tactic| walk_at "u") => `(tactic| with_reducible refine u_met ?_)
set_option maxHeartbeats 4000000 in
theorem d_met {P : Program} {w : World} {K : PySem.W.Frag} {mg : PySem.Str → Option Value} {base : Heap} {c : Cs} (T : Top K mg c) : Df P w K mg base CX0 1 "met" ["wide", "one", "other"] (sp_met K c) := by
  refine T.f_met.ok sc_met (fun _ _ _ _ _ _ us hl => match us, hl with | [_, _, _], _ => rfl) (fun vs H Q E h => ?_) (fun f cdv A outer s H vs Q E hr h => ?_)
  · unfold sp_met at h; split at h
    · rfl
    · exact h.elim
  · unfold sp_met at h; split at h
    case h_2 => exact h.elim
    rename_i w a b
    obtain ⟨⟨h0, hp⟩, h⟩ := h
    have hq := hp.big
    refine ⟨_, (pss_cons (ps_set (i := 3) sc_met.nd rfl (.inl rfl) (pe_op op_mod (pe_op op_add (pv 1) (pv 2)) (pv 0)))
      (pss_cons (ps_if (pt_cmpR op_eqI (pe_op op_mod (pv 0) pe_int) pe_int (nomark _))
      (pss_one (ps_ret (pe_op op_mod (pe_op op_fdivB (pe_op op_mulB (pv 3) (pe_op op_add (pv 0) pe_int)) pe_int) (pv 0))))
      pss_nil)
      (pss_one (ps_ret (pe_op op_add (pe_op op_fdivB (pv 3) pe_int) (pe_op op_mulB (pe_op op_mod (pv 3) pe_int) (pe_op op_fdivB (pv 0) pe_int))))))), start_eq (σ := [some (.int w), some (.int a), some (.int b), none]) rfl ?_⟩
    have hm := Int.emod_nonneg (a + b) (show w ≠ 0 by omega)
    have hm' := Int.emod_lt_of_pos (a + b) h0
    unfold met at h
    walk_at "g"
    refine ifD (fun c => ?_) (fun c => ?_)
    · rw [if_pos c] at h
      walk_at "g"
      exact h
    · rw [if_neg c] at h
      walk_at "g"
      exact h
def sp_meets (K : PySem.W.Frag) (c : Cs) : Sp := fun vs H Q _ => match vs with | [.int w, .int a, .int q] => (0 < w ∧ Bt 4000 w ∧ 0 ≤ q ∧ q < w) ∧ Q (.int (meets w a q)) H | _ => False
theorem u_meets {K : PySem.W.Frag} {c : Cs} {H : Hp} {Q : VK} {E : XK} {w : Int} {a : Int} {q : Int} (h : (0 < w ∧ Bt 4000 w ∧ 0 ≤ q ∧ q < w) ∧ Q (.int (meets w a q)) H) : sp_meets K c [.int w, .int a, .int q] H Q E := h
local macro_rules | `(tactic| walk_at "u") => `(tactic| with_reducible refine u_meets ?_)
set_option maxHeartbeats 4000000 in
theorem d_meets {P : Program} {w : World} {K : PySem.W.Frag} {mg : PySem.Str → Option Value} {base : Heap} {c : Cs} (T : Top K mg c) : Df P w K mg base CX0 1 "meets" ["wide", "one", "place"] (sp_meets K c) := by
  refine T.f_meets.ok sc_meets (fun _ _ _ _ _ _ us hl => match us, hl with | [_, _, _], _ => rfl) (fun vs H Q E h => ?_) (fun f cdv A outer s H vs Q E hr h => ?_)
  · unfold sp_meets at h; split at h
    · rfl
    · exact h.elim
  · unfold sp_meets at h; split at h
    case h_2 => exact h.elim
    rename_i w a q
    obtain ⟨⟨h0, hp, hq0, hq1⟩, h⟩ := h
    have hq := hp.big
    refine ⟨_, (pss_cons (ps_if (pt_cmpR op_eqI (pe_op op_mod (pv 0) pe_int) pe_int (nomark _))
      (pss_one (ps_set (i := 3) sc_meets.nd rfl (.inl rfl) (pe_op op_mulB pe_int (pv 2))))
      (pss_one (ps_set (i := 3) sc_meets.nd rfl (.inl rfl) (pe_ifExp (pt_cmpR op_lt (pe_op op_mulB pe_int (pv 2)) (pv 0) (nomark _)) (pe_op op_mulB pe_int (pv 2)) (pe_op op_add (pe_op op_sub (pe_op op_mulB pe_int (pv 2)) (pv 0)) pe_int)))))
      (pss_one (ps_ret (pe_op op_mod (pe_op op_sub (pv 3) (pv 1)) (pv 0))))), start_eq (σ := [some (.int w), some (.int a), some (.int q), none]) rfl ?_⟩
    unfold meets meetsBoth at h
    walk_at "g"
    refine ifD (fun c => ?_) (fun c => ?_)
    · rw [if_pos c] at h
      walk_at "g"
      exact h
    · rw [if_neg c] at h
      walk_at "g"
      refine ifD (fun c => ?_) (fun c => ?_)
      · rw [if_pos c] at h
        walk_at "g"
        exact h
      · rw [if_neg c] at h
        walk_at "g"
        exact h
def sp_third_of (K : PySem.W.Frag) (c : Cs) : Sp := fun vs H Q _ => match vs with | [.int p, .int a, .int b] => (Can p ∧ 1 < p ∧ Bt 4000 p ∧ 0 ≤ a ∧ a < p ∧ 0 ≤ b ∧ b < p) ∧ (∀ H', Same H H' → Q (.int (thirdOf p a b)) H') | _ => False
theorem u_third_of {K : PySem.W.Frag} {c : Cs} {H : Hp} {Q : VK} {E : XK} {p : Int} {a : Int} {b : Int} (h : (Can p ∧ 1 < p ∧ Bt 4000 p ∧ 0 ≤ a ∧ a < p ∧ 0 ≤ b ∧ b < p) ∧ (∀ H', Same H H' → Q (.int (thirdOf p a b)) H')) : sp_third_of K c [.int p, .int a, .int b] H Q E := h
local macro_rules | `(tactic| walk_at "u") => `(tactic| with_reducible refine u_third_of ?_)
set_option maxHeartbeats 4000000 in
theorem d_third_of {P : Program} {w : World} {K : PySem.W.Frag} {mg : PySem.Str → Option Value} {base : Heap} {c : Cs} (T : Top K mg c) : Df P w K mg base CX0 2 "third_of" ["people", "one", "other"] (sp_third_of K c) := by
  have c_wide_of := d_wide_of (P := P) (w := w) (base := base) T
  have c_meets := d_meets (P := P) (w := w) (base := base) T
  have c_met := d_met (P := P) (w := w) (base := base) T
  refine T.f_third_of.ok sc_third_of (fun _ _ _ _ _ _ us hl => match us, hl with | [_, _, _], _ => rfl) (fun vs H Q E h => ?_) (fun f cdv A outer s H vs Q E hr h => ?_)
  · unfold sp_third_of at h; split at h
    · rfl
    · exact h.elim
  · unfold sp_third_of at h; split at h
    case h_2 => exact h.elim
    rename_i p a b
    obtain ⟨⟨hc, h1, hp, ha, ha', hb, hb'⟩, h⟩ := h
    have hq := hp.big
    obtain ⟨hw, hpw⟩ := hc.wide h1
    refine ⟨_, (pss_cons (ps_set (i := 3) sc_third_of.nd rfl (.inl rfl) (pe_fn c_wide_of hr (by rfl) pass0 (pa_cons (pv 0) pa_nil)))
      (pss_cons (ps_par (by rfl) sc_third_of.nd (i := 1) (j := 2) rfl rfl (by decide) rfl rfl (pa_cons (pe_callB (call_min2I rfl) (by rfl) T.z_min (by decide +kernel) (pa_cons (pv 1) (pa_cons (pv 2) pa_nil))) (pa_cons (pe_callB (call_max2I rfl) (by rfl) T.z_max (by decide +kernel) (pa_cons (pv 1) (pa_cons (pv 2) pa_nil))) pa_nil)) (by rfl))
      (pss_cons (ps_par (by rfl) sc_third_of.nd (i := 4) (j := 5) rfl rfl (by decide) rfl rfl (pa_cons (pe_op op_fdivB (pv 1) (pv 3)) (pa_cons (pe_op op_mod (pv 1) (pv 3)) pa_nil)) (by rfl))
      (pss_cons (ps_if (PW.pt (pw_and (pt_cmpR op_eqI (pe_op op_mod (pv 0) pe_int) pe_int (nomark _)) (pw_and1 (pt_cmpR op_eqI (pv 2) (pe_op op_sub (pv 0) pe_int) (nomark _)))))
      (pss_cons (ps_if (pt_cmpR op_ge (pe_op op_mulB pe_int (pv 5)) (pv 3) (nomark _))
      (pss_one (ps_ret (pe_op op_sub (pe_op op_add (pe_op op_mulB (pe_op op_mod (pe_op op_add (pv 4) pe_int) pe_int) (pv 3)) (pv 5)) (pe_op op_fdivB (pv 3) pe_int))))
      pss_nil)
      (pss_one (ps_ret (pe_op op_add (pe_op op_add (pe_op op_mulB (pe_op op_mod (pe_op op_add (pv 4) pe_int) pe_int) (pv 3)) (pv 5)) (pe_op op_fdivB (pv 3) pe_int)))))
      pss_nil)
      (pss_cons (ps_par (by rfl) sc_third_of.nd (i := 6) (j := 7) rfl rfl (by decide) rfl rfl (pa_cons (pe_op op_fdivB (pv 2) (pv 3)) (pa_cons (pe_op op_mod (pv 2) (pv 3)) pa_nil)) (by rfl))
      (pss_cons (ps_if (pt_cmpR op_eqI (pv 4) (pv 6) (nomark _))
      (pss_one (ps_ret (pe_op op_add (pe_op op_mulB (pe_op op_mod (pe_op op_add (pv 4) pe_int) pe_int) (pv 3)) (pe_fn c_met hr (by rfl) pass0 (pa_cons (pv 3) (pa_cons (pv 5) (pa_cons (pv 7) pa_nil)))))))
      pss_nil)
      (pss_cons (ps_if (pt_cmpR op_neI (pv 6) (pe_op op_mod (pe_op op_add (pv 4) pe_int) pe_int) (nomark _))
      (pss_one (ps_asg (pe_tup (pa_cons (pv 6) (pa_cons (pv 7) (pa_cons (pv 4) (pa_cons (pv 5) pa_nil))))) (k_gtup (K := K) rfl rfl (pgs_cons (pg_name (i := 4) sc_third_of.nd rfl (.inl rfl)) (pgs_cons (pg_name (i := 5) sc_third_of.nd rfl (.inl rfl)) (pgs_cons (pg_name (i := 6) sc_third_of.nd rfl (.inl rfl)) (pgs_cons (pg_name (i := 7) sc_third_of.nd rfl (.inl rfl)) pgs_nil)))))))
      pss_nil)
      (pss_cons (ps_set (i := 8) sc_third_of.nd rfl (.inl rfl) (pe_fn c_meets hr (by rfl) pass0 (pa_cons (pv 3) (pa_cons (pv 5) (pa_cons (pv 7) pa_nil)))))
      (pss_cons (ps_if (pt_cmpR op_neI (pv 8) (pv 5) (nomark _))
      (pss_one (ps_ret (pe_op op_add (pe_op op_mulB (pv 4) (pv 3)) (pv 8))))
      pss_nil)
      (pss_cons (ps_if (pt_cmpR op_eqI (pv 5) (pv 7) (nomark _))
      (pss_one (ps_ret (pe_op op_add (pe_op op_mulB (pe_op op_mod (pe_op op_add (pv 4) pe_int) pe_int) (pv 3)) (pv 5))))
      pss_nil)
      (pss_one (ps_ret (pe_op op_sub (pv 0) pe_int))))))))))))), start_eq (σ := [some (.int p), some (.int a), some (.int b), none, none, none, none, none, none]) rfl ?_⟩
    have hx0 : 0 ≤ min a b / wideOf p := Int.ediv_nonneg (by omega) (by omega)
    have hy0 : 0 ≤ max a b / wideOf p := Int.ediv_nonneg (by omega) (by omega)
    have hx1 := Int.emod_nonneg (min a b) (show wideOf p ≠ 0 by omega)
    have hx2 := Int.emod_lt_of_pos (min a b) hw
    have hy1 := Int.emod_nonneg (max a b) (show wideOf p ≠ 0 by omega)
    have hy2 := Int.emod_lt_of_pos (max a b) hw
    have hx3 : min a b / wideOf p ≤ min a b := Int.ediv_le_self _ (by omega)
    have hy3 : max a b / wideOf p ≤ max a b := Int.ediv_le_self _ (by omega)
    have hw4 : Bt 4000 (wideOf p) := Bt.le (by omega) (by omega) hp
    unfold thirdOf thirdLt at h
    dsimp only at h
    walk_at "g"
    by_cases c12 : p % 3 = 1 ∧ max a b = p - 1
    · refine ifT c12.1 ?_
      walk_at "g"
      refine ifT c12.2 ?_
      rw [if_pos c12] at h
      walk_at "g"
      refine ifD (fun c3 => ?_) (fun c3 => ?_)
      · rw [if_pos c3] at h
        walk_at "g"
        exact h _ (Same.refl _)
      · rw [if_neg c3] at h
        walk_at "g"
        exact h _ (Same.refl _)
    rw [if_neg c12] at h
    refine @merge2 ?A _ (fun rest => ?use) ?rest
    case use =>
      refine ifD (fun c1 => ?_) (fun c1 => ?_)
      · walk_at "g"
        refine ifF (fun c2 => c12 ⟨c1, c2⟩) ?_
        exact rest
      · exact rest
    walk_at "g"
    refine ifD (fun c3 => ?_) (fun c3 => ?_)
    · rw [if_pos c3] at h
      walk_at "g"
      refine ⟨⟨hw, hw4⟩, ?_⟩
      walk_at "g"
      exact h _ (Same.refl _)
    rw [if_neg c3] at h
    walk_at "g"
    refine ifND (fun c4 => ?_) (fun c4 => ?_)
    · rw [if_pos c4] at h
      unfold crossOf at h
      walk_at "g"
      intro q nq
      have sm := same_new (o := .tup [V.int (max a b / wideOf p), V.int (max a b % wideOf p), V.int (min a b / wideOf p), V.int (min a b % wideOf p)]) nq
      walk_at "g"
      refine ⟨⟨hw, hw4, hx1, hx2⟩, ?_⟩
      walk_at "g"
      have m0 := meets_range (w := wideOf p) (a := max a b % wideOf p) (q := min a b % wideOf p) hw
      refine ifND (fun c5 => ?_) (fun c5 => ?_)
      · rw [if_pos c5] at h
        walk_at "g"
        exact h _ sm
      rw [if_neg (by simp [c5])] at h
      walk_at "g"
      refine ifD (fun c6 => ?_) (fun c6 => ?_)
      · rw [if_pos c6] at h
        walk_at "g"
        exact h _ sm
      · rw [if_neg c6] at h
        walk_at "g"
        exact h _ sm
    · rw [if_neg (by simp [c4])] at h
      unfold crossOf at h
      walk_at "g"
      refine ⟨⟨hw, hw4, hy1, hy2⟩, ?_⟩
      walk_at "g"
      have m0 := meets_range (w := wideOf p) (a := min a b % wideOf p) (q := max a b % wideOf p) hw
      refine ifND (fun c5 => ?_) (fun c5 => ?_)
      · rw [if_pos c5] at h
        walk_at "g"
        exact h _ (Same.refl _)
      rw [if_neg (by simp [c5])] at h
      walk_at "g"
      refine ifD (fun c6 => ?_) (fun c6 => ?_)
      · rw [if_pos c6] at h
        walk_at "g"
        exact h _ (Same.refl _)
      · rw [if_neg c6] at h
        walk_at "g"
        exact h _ (Same.refl _)
def sp_check_plan (K : PySem.W.Frag) (c : Cs) : Sp := fun vs H Q _ => match vs with | [.int p] => (Can p ∧ Bt 4000 p) ∧ Q .non H | _ => False
theorem u_check_plan {K : PySem.W.Frag} {c : Cs} {H : Hp} {Q : VK} {E : XK} {p : Int} (h : (Can p ∧ Bt 4000 p) ∧ Q .non H) : sp_check_plan K c [.int p] H Q E := h
local macro_rules | `(tactic| walk_at "u") => `(tactic| with_reducible refine u_check_plan ?_)
set_option maxHeartbeats 4000000 in
theorem d_check_plan {P : Program} {w : World} {K : PySem.W.Frag} {mg : PySem.Str → Option Value} {base : Heap} {c : Cs} (T : Top K mg c) : Df P w K mg base CX0 3 "check_plan" ["people"] (sp_check_plan K c) := by
  have c_check_people := d_check_people (P := P) (w := w) (base := base) T
  have c_is_even := d_is_even (P := P) (w := w) (base := base) T
  have c_is_unshared := d_is_unshared (P := P) (w := w) (base := base) T
  refine T.f_check_plan.ok sc_check_plan (fun _ _ _ _ _ _ us hl => match us, hl with | [_], _ => rfl) (fun vs H Q E h => ?_) (fun f cdv A outer s H vs Q E hr h => ?_)
  · unfold sp_check_plan at h; split at h
    · rfl
    · exact h.elim
  · unfold sp_check_plan at h; split at h
    case h_2 => exact h.elim
    rename_i p
    obtain ⟨⟨hc, hp⟩, h⟩ := h
    have h0 := hc.1
    refine ⟨_, (pss_cons (ps_expr (pe_fn c_check_people hr (by rfl) pass0 (pa_cons (pv 0) pa_nil)))
      (pss_one (ps_if (PW.pt (pw_or (pt_val (pe_fn c_is_even hr (by rfl) pass0 (pa_cons (pv 0) pa_nil))) (pw_or1 (pt_val (pe_fn c_is_unshared hr (by rfl) pass0 (pa_cons (pv 0) pa_nil))))))
      (pss_one ps_never)
      pss_nil))), start_eq (σ := [some (.int p)]) rfl ?_⟩
    walk_at "g"
    refine ⟨h0, ?_⟩
    walk_at "g"
    refine ifF (by unfold Can at hc; omega) ?_
    walk_at "g"
    refine ⟨⟨h0, hp⟩, ?_⟩
    walk_at "g"
    refine ifNF (can_shared hc) ?_
    walk_at "g"
    exact h
def sp_third (K : PySem.W.Frag) (c : Cs) : Sp := fun vs H Q _ => match vs with | [.int p, .int a, .int b] => (Can p ∧ 1 < p ∧ Bt 4000 p ∧ 0 ≤ a ∧ a < p ∧ 0 ≤ b ∧ b < p ∧ a ≠ b) ∧ (∀ H', Same H H' → Q (.int (thirdOf p a b)) H') | _ => False
theorem u_third {K : PySem.W.Frag} {c : Cs} {H : Hp} {Q : VK} {E : XK} {p : Int} {a : Int} {b : Int} (h : (Can p ∧ 1 < p ∧ Bt 4000 p ∧ 0 ≤ a ∧ a < p ∧ 0 ≤ b ∧ b < p ∧ a ≠ b) ∧ (∀ H', Same H H' → Q (.int (thirdOf p a b)) H')) : sp_third K c [.int p, .int a, .int b] H Q E := h
local macro_rules | `(tactic| walk_at "u") => `(tactic| with_reducible refine u_third ?_)
set_option maxHeartbeats 4000000 in
theorem d_third {P : Program} {w : World} {K : PySem.W.Frag} {mg : PySem.Str → Option Value} {base : Heap} {c : Cs} (T : Top K mg c) : Df P w K mg base CX0 4 "third" ["people", "one", "other"] (sp_third K c) := by
  have c_check_plan := d_check_plan (P := P) (w := w) (base := base) T
  have c_third_of := d_third_of (P := P) (w := w) (base := base) T
  have c_is_number := d_is_number (P := P) (w := w) (base := base) T
  refine T.f_third.ok sc_third (fun _ _ _ _ _ _ us hl => match us, hl with | [_, _, _], _ => rfl) (fun vs H Q E h => ?_) (fun f cdv A outer s H vs Q E hr h => ?_)
  · unfold sp_third at h; split at h
    · rfl
    · exact h.elim
  · unfold sp_third at h; split at h
    case h_2 => exact h.elim
    rename_i p a b
    obtain ⟨⟨hc, h1, hp, ha, ha', hb, hb', hab⟩, h⟩ := h
    refine ⟨_, (pss_cons (ps_expr (pe_fn c_check_plan hr (by rfl) pass0 (pa_cons (pv 0) pa_nil)))
      (pss_cons (ps_for PassesOwn.never rfl (k_ptup (K := K) rfl (pe_tup (pa_cons (pv 1) (pa_cons (pv 2) pa_nil)))) (pg_name (i := 3) sc_third.nd rfl (.inl rfl))
      (pss_one (ps_if (PW.pt (pw_or (pt_not (pt_val (pe_fn c_is_number hr (by rfl) pass0 (pa_cons (pv 3) (pa_cons pe_int pa_nil))))) (pw_or1 (pt_cmpR op_ge (pv 3) (pv 0) (nomark _)))))
      (pss_one ps_never)
      pss_nil)))
      (pss_cons (ps_if (pt_cmpR op_eqI (pv 1) (pv 2) (nomark _))
      (pss_one ps_never)
      pss_nil)
      (pss_one (ps_ret (pe_fn c_third_of hr (by rfl) pass0 (pa_cons (pv 0) (pa_cons (pv 1) (pa_cons (pv 2) pa_nil))))))))), start_eq (σ := [some (.int p), some (.int a), some (.int b), none]) rfl ?_⟩
    walk_at "g"
    refine ⟨⟨hc, hp⟩, ?_⟩
    walk_at "g"
    intro q nq
    refine ⟨_, rfl, ⟨_, SqT.of upd_same⟩, for_tup (xs := [.int a, .int b]) (fun i σ H2 => ∃ y, σ = [some (.int p), some (.int a), some (.int b), y] ∧ H2 = upd H q (.tup [.int a, .int b])) ⟨_, rfl, rfl⟩ (fun i σ H2 _ ⟨y, _, e⟩ => by rw [e]; exact SqT.of upd_same) (fun i x σ H2 hx ⟨y, e, e2⟩ => ?_) (fun σ H2 ⟨y, e, e2⟩ => ?_)⟩
    · subst e e2
      have hi : i < 2 := (List.getElem?_eq_some_iff.mp hx).1
      match i, hi with
      | 0, _ =>
        cases hx
        walk_at "g"
        refine ifNF ha ?_
        walk_at "g"
        refine ifF (by omega) ?_
        walk_at "g"
        exact ⟨_, rfl, rfl⟩
      | 1, _ =>
        cases hx
        walk_at "g"
        refine ifNF hb ?_
        walk_at "g"
        refine ifF (by omega) ?_
        walk_at "g"
        exact ⟨_, rfl, rfl⟩
    · subst e e2
      walk_at "g"
      refine ifF hab ?_
      walk_at "g"
      exact ⟨⟨hc, h1, hp, ha, ha', hb, hb'⟩, fun H' sm => h H' ((same_new nq).trans sm)⟩
/-- what is told of so many people -/
def kindOf (c : Cs) (p : Int) : Addr := if p % 2 = 0 then c.Unpaired else if p % 6 = 5 then c.Unshared else c.Can
def sp_Can_shows (K : PySem.W.Frag) (c : Cs) : Sp := fun vs H Q _ => match vs with | [v, .int p] => (1 ≤ p ∧ Bt 4000 p) ∧ Q (.bl (decide (p % 6 = 1 ∨ p % 6 = 3))) H | _ => False
theorem u_Can_shows {K : PySem.W.Frag} {c : Cs} {H : Hp} {Q : VK} {E : XK} {v : V} {p : Int} (h : (1 ≤ p ∧ Bt 4000 p) ∧ Q (.bl (decide (p % 6 = 1 ∨ p % 6 = 3))) H) : sp_Can_shows K c [v, .int p] H Q E := h
local macro_rules | `(tactic| walk_at "u") => `(tactic| with_reducible refine u_Can_shows ?_)
set_option maxHeartbeats 4000000 in
theorem d_Can_shows {P : Program} {w : World} {K : PySem.W.Frag} {mg : PySem.Str → Option Value} {base : Heap} {c : Cs} (T : Top K mg c) : Mf P w K mg base CX0 2 c.Can "shows" ["self", "people"] (sp_Can_shows K c) := by
  have c_is_even := d_is_even (P := P) (w := w) (base := base) T
  have c_is_unshared := d_is_unshared (P := P) (w := w) (base := base) T
  refine T.m_Can_shows.ok sc_Can_shows (fun _ _ _ _ _ _ us hl => match us, hl with | [_, _], _ => rfl) (fun vs H Q E h => ?_) (fun f cdv A outer s H vs Q E hr h => ?_)
  · unfold sp_Can_shows at h; split at h
    · rfl
    · exact h.elim
  · unfold sp_Can_shows at h; split at h
    case h_2 => exact h.elim
    rename_i v p
    obtain ⟨⟨h0, hp⟩, h⟩ := h
    refine ⟨_, (pss_one (ps_ret (pe_and (pe_not (pe_fn c_is_even hr (by rfl) pass0 (pa_cons (pv 1) pa_nil))) (pe_one (pe_not (pe_fn c_is_unshared hr (by rfl) pass0 (pa_cons (pv 1) pa_nil))))))), start_eq (σ := [some v, some (.int p)]) rfl ?_⟩
    walk_at "g"
    by_cases e : p % 2 = 0
    · rw [decide_eq_false (show ¬ (p % 6 = 1 ∨ p % 6 = 3) by omega)] at h
      rw [decide_eq_true e]
      walk_at "g"
      exact h
    · rw [decide_eq_false e]
      walk_at "g"
      refine ⟨⟨h0, hp⟩, ?_⟩
      walk_at "g"
      rw [Bool.not_not]
      have e2 := shared_iff (p := p) (by omega)
      by_cases f : p % 6 = 5
      · rw [decide_eq_false (show ¬ (p % 6 = 1 ∨ p % 6 = 3) by omega)] at h
        rw [decide_eq_false (show ¬ (p * (p - 1) / 2 % 3 = 0) by omega)]
        exact h
      · rw [decide_eq_true (show (p % 6 = 1 ∨ p % 6 = 3) by omega)] at h
        rw [decide_eq_true (e2.mpr f)]
        exact h
def sp_Unpaired_shows (K : PySem.W.Frag) (c : Cs) : Sp := fun vs H Q _ => match vs with | [v, .int p] => (1 ≤ p ∧ Bt 4000 p) ∧ Q (.bl (decide (p % 2 = 0))) H | _ => False
theorem u_Unpaired_shows {K : PySem.W.Frag} {c : Cs} {H : Hp} {Q : VK} {E : XK} {v : V} {p : Int} (h : (1 ≤ p ∧ Bt 4000 p) ∧ Q (.bl (decide (p % 2 = 0))) H) : sp_Unpaired_shows K c [v, .int p] H Q E := h
local macro_rules | `(tactic| walk_at "u") => `(tactic| with_reducible refine u_Unpaired_shows ?_)
set_option maxHeartbeats 4000000 in
theorem d_Unpaired_shows {P : Program} {w : World} {K : PySem.W.Frag} {mg : PySem.Str → Option Value} {base : Heap} {c : Cs} (T : Top K mg c) : Mf P w K mg base CX0 2 c.Unpaired "shows" ["self", "people"] (sp_Unpaired_shows K c) := by
  have c_is_even := d_is_even (P := P) (w := w) (base := base) T
  refine T.m_Unpaired_shows.ok sc_Unpaired_shows (fun _ _ _ _ _ _ us hl => match us, hl with | [_, _], _ => rfl) (fun vs H Q E h => ?_) (fun f cdv A outer s H vs Q E hr h => ?_)
  · unfold sp_Unpaired_shows at h; split at h
    · rfl
    · exact h.elim
  · unfold sp_Unpaired_shows at h; split at h
    case h_2 => exact h.elim
    rename_i v p
    obtain ⟨⟨h0, hp⟩, h⟩ := h
    refine ⟨_, (pss_one (ps_ret (pe_fn c_is_even hr (by rfl) pass0 (pa_cons (pv 1) pa_nil)))), start_eq (σ := [some v, some (.int p)]) rfl ?_⟩
    walk_at "g"
    exact h
def sp_Unshared_shows (K : PySem.W.Frag) (c : Cs) : Sp := fun vs H Q _ => match vs with | [v, .int p] => (1 ≤ p ∧ Bt 4000 p) ∧ Q (.bl (decide (p % 6 = 5))) H | _ => False
theorem u_Unshared_shows {K : PySem.W.Frag} {c : Cs} {H : Hp} {Q : VK} {E : XK} {v : V} {p : Int} (h : (1 ≤ p ∧ Bt 4000 p) ∧ Q (.bl (decide (p % 6 = 5))) H) : sp_Unshared_shows K c [v, .int p] H Q E := h
local macro_rules | `(tactic| walk_at "u") => `(tactic| with_reducible refine u_Unshared_shows ?_)
set_option maxHeartbeats 4000000 in
theorem d_Unshared_shows {P : Program} {w : World} {K : PySem.W.Frag} {mg : PySem.Str → Option Value} {base : Heap} {c : Cs} (T : Top K mg c) : Mf P w K mg base CX0 2 c.Unshared "shows" ["self", "people"] (sp_Unshared_shows K c) := by
  have c_is_unshared := d_is_unshared (P := P) (w := w) (base := base) T
  have c_is_even := d_is_even (P := P) (w := w) (base := base) T
  refine T.m_Unshared_shows.ok sc_Unshared_shows (fun _ _ _ _ _ _ us hl => match us, hl with | [_, _], _ => rfl) (fun vs H Q E h => ?_) (fun f cdv A outer s H vs Q E hr h => ?_)
  · unfold sp_Unshared_shows at h; split at h
    · rfl
    · exact h.elim
  · unfold sp_Unshared_shows at h; split at h
    case h_2 => exact h.elim
    rename_i v p
    obtain ⟨⟨h0, hp⟩, h⟩ := h
    refine ⟨_, (pss_one (ps_ret (pe_and (pe_not (pe_fn c_is_even hr (by rfl) pass0 (pa_cons (pv 1) pa_nil))) (pe_one (pe_fn c_is_unshared hr (by rfl) pass0 (pa_cons (pv 1) pa_nil)))))), start_eq (σ := [some v, some (.int p)]) rfl ?_⟩
    walk_at "g"
    by_cases e : p % 2 = 0
    · rw [decide_eq_false (show ¬ (p % 6 = 5) by omega)] at h
      rw [decide_eq_true e]
      walk_at "g"
      exact h
    · rw [decide_eq_false e]
      walk_at "g"
      refine ⟨⟨h0, hp⟩, ?_⟩
      walk_at "g"
      have e2 := shared_iff (p := p) (by omega)
      by_cases f : p % 6 = 5
      · rw [decide_eq_true f] at h
        rw [decide_eq_false (show ¬ (p * (p - 1) / 2 % 3 = 0) by omega)]
        exact h
      · rw [decide_eq_false f] at h
        rw [decide_eq_true (e2.mpr f)]
        exact h
def sp_can (K : PySem.W.Frag) (c : Cs) : Sp := fun vs H Q _ => match vs with | [.int p] => (1 ≤ p ∧ Bt 4000 p) ∧ (∀ x dx, H x = none → H dx = none → dx ≠ x → Q (.ref x) (upd (upd H dx (.own x)) x (.ins (kindOf c p) dx []))) | _ => False
theorem u_can {K : PySem.W.Frag} {c : Cs} {H : Hp} {Q : VK} {E : XK} {p : Int} (h : (1 ≤ p ∧ Bt 4000 p) ∧ (∀ x dx, H x = none → H dx = none → dx ≠ x → Q (.ref x) (upd (upd H dx (.own x)) x (.ins (kindOf c p) dx [])))) : sp_can K c [.int p] H Q E := h
local macro_rules | `(tactic| walk_at "u") => `(tactic| with_reducible refine u_can ?_)
set_option maxHeartbeats 4000000 in
theorem d_can {P : Program} {w : World} {K : PySem.W.Frag} {mg : PySem.Str → Option Value} {base : Heap} {c : Cs} (T : Top K mg c) : Df P w K mg base CX0 3 "can" ["people"] (sp_can K c) := by
  have c_check_people := d_check_people (P := P) (w := w) (base := base) T
  have c_is_even := d_is_even (P := P) (w := w) (base := base) T
  have c_is_unshared := d_is_unshared (P := P) (w := w) (base := base) T
  refine T.f_can.ok sc_can (fun _ _ _ _ _ _ us hl => match us, hl with | [_], _ => rfl) (fun vs H Q E h => ?_) (fun f cdv A outer s H vs Q E hr h => ?_)
  · unfold sp_can at h; split at h
    · rfl
    · exact h.elim
  · unfold sp_can at h; split at h
    case h_2 => exact h.elim
    rename_i p
    obtain ⟨⟨h0, hp⟩, h⟩ := h
    unfold kindOf at h
    refine ⟨_, (pss_cons (ps_expr (pe_fn c_check_people hr (by rfl) pass0 (pa_cons (pv 0) pa_nil)))
      (pss_cons (ps_if (pt_val (pe_fn c_is_even hr (by rfl) pass0 (pa_cons (pv 0) pa_nil)))
      (pss_one (ps_ret (pe_makeO T.mk_Unpaired (by rfl) T.mg_Unpaired)))
      pss_nil)
      (pss_one (ps_ret (pe_ifExp (pt_val (pe_fn c_is_unshared hr (by rfl) pass0 (pa_cons (pv 0) pa_nil))) (pe_makeO T.mk_Unshared (by rfl) T.mg_Unshared) (pe_makeO T.mk_Can (by rfl) T.mg_Can)))))), start_eq (σ := [some (.int p)]) rfl ?_⟩
    walk_at "g"
    refine ⟨h0, ?_⟩
    walk_at "g"
    refine ifD (fun e => ?_) (fun e => ?_)
    · simp only [if_pos e] at h
      walk_at "g"
      exact g_mkO h
    · simp only [if_neg e] at h
      walk_at "g"
      refine ⟨⟨h0, hp⟩, ?_⟩
      walk_at "g"
      refine ifND (fun f => ?_) (fun f => ?_)
      · rw [shared_iff (by omega)] at f
        simp only [if_pos (show p % 6 = 5 by omega)] at h
        exact g_mkO h
      · rw [shared_iff (by omega)] at f
        simp only [if_neg f] at h
        exact g_mkO h
structure ScriptAt (K : PySem.W.Frag) (H : Hp) (a : Addr) (ns : List Int) : Prop where
  sq : SqL K H a (ns.map V.int)
  len : ns.length ≤ 63
  bits : ∀ z ∈ ns, Bt 1048576 z
theorem ScriptAt.same {K : PySem.W.Frag} {H H' : Hp} {a : Addr} {ns : List Int} (s : ScriptAt K H a ns) (sm : Same H H') : ScriptAt K H' a ns := ⟨sm.seq s.sq, s.len, s.bits⟩
theorem ScriptAt.sum {K : PySem.W.Frag} {H : Hp} {a : Addr} {ns : List Int} (s : ScriptAt K H a ns) : Bt 1050000 ns.sum := (Bt.sum s.bits).mono (by have := s.len; omega)
theorem ScriptAt.cut {K : PySem.W.Frag} {H : Hp} {a : Addr} {ns : List Int} (s : ScriptAt K H a ns) : cutV (ns.map V.int) none (some 63) = ns.map V.int := cut_all (k := 63) (by rw [List.length_map]; exact s.len)
def sp__law_number (K : PySem.W.Frag) (c : Cs) : Sp := fun vs H Q _ => match vs with | [.int a, .int i, .int s] => (Bt 1050000 a ∧ 0 ≤ i ∧ i ≤ 1000 ∧ Bt 1050000 s) ∧ (∀ r, Bt 3000000 r → Q (.int r) H) | _ => False
theorem u__law_number {K : PySem.W.Frag} {c : Cs} {H : Hp} {Q : VK} {E : XK} {a : Int} {i : Int} {s : Int} (h : (Bt 1050000 a ∧ 0 ≤ i ∧ i ≤ 1000 ∧ Bt 1050000 s) ∧ (∀ r, Bt 3000000 r → Q (.int r) H)) : sp__law_number K c [.int a, .int i, .int s] H Q E := h
local macro_rules | `(tactic| walk_at "u") => `(tactic| with_reducible refine u__law_number ?_)
set_option maxHeartbeats 4000000 in
theorem d__law_number {P : Program} {w : World} {K : PySem.W.Frag} {mg : PySem.Str → Option Value} {base : Heap} {c : Cs} (T : Top K mg c) : Df P w K mg base CX0 1 "_law_number" ["_law_cell", "_law_at", "_law_whole_here"] (sp__law_number K c) := by
  refine T.f__law_number.ok sc__law_number (fun _ _ _ _ _ _ us hl => match us, hl with | [_, _, _], _ => rfl) (fun vs H Q E h => ?_) (fun f cdv A outer s H vs Q E hr h => ?_)
  · unfold sp__law_number at h; split at h
    · rfl
    · exact h.elim
  · unfold sp__law_number at h; split at h
    case h_2 => exact h.elim
    rename_i a i s
    obtain ⟨⟨ha, h0, h1, hs⟩, h⟩ := h
    refine ⟨_, (pss_cons (ps_if (pt_cmpR op_ge (pv 0) (pe_op op_pow pe_int pe_int) (nomark _))
      (pss_one (ps_ret (pv 0)))
      pss_nil)
      (pss_cons (ps_set (i := 3) sc__law_number.nd rfl (.inl rfl) (pe_op op_mod (pe_op op_add (pe_op op_mulB (pe_op op_add (pv 0) (pe_op op_mulB pe_int (pv 1))) pe_int) (pv 2)) pe_int))
      (pss_cons (ps_set (i := 4) sc__law_number.nd rfl (.inl rfl) (pe_op op_mulB (pe_op op_mulB (pv 3) (pe_op op_add (pe_op op_add (pv 3) (pe_op op_mulB pe_int (pv 1))) pe_int)) (pe_op op_add (pe_op op_add (pv 3) (pv 0)) pe_int)))
      (pss_one (ps_ret (pe_op op_fdivB (pe_op op_mulB (pv 4) (pe_op op_add (pv 4) pe_int)) pe_int)))))), start_eq (σ := [some (.int a), some (.int i), some (.int s), none, none]) rfl ?_⟩
    have hi : Bt 64 (977 * i) := Bt.small (by omega)
    have h48 : Bt 64 48271 := Bt.small (by decide)
    have hi2 : Bt 1050001 (a + 977 * i) := Bt.addc ha hi (by decide) (by decide)
    walk_at "g"
    refine g_rI ⟨by decide, by decide, by decide⟩ ?_
    walk_at "g"
    refine ifD (fun e => ?_) (fun e => ?_)
    · walk_at "g"
      exact h _ (ha.mono (by decide))
    walk_at "g"
    refine g_rI (cmul_of hi2 h48 (by decide)) ?_
    walk_at "g"
    generalize hm : ((a + 977 * i) * 48271 + s) % 2147483647 = m
    have m0 : 0 ≤ m := by rw [← hm]; exact Int.emod_nonneg _ (by decide)
    have m1 : m < 2147483647 := by rw [← hm]; exact Int.emod_lt_of_pos _ (by decide)
    clear hm
    have hm : Bt 64 m := Bt.small (by omega)
    have hm2 : Bt 64 (m + 31 * i + 7) := Bt.small (by omega)
    have hm3 : Bt 1050002 (m + a + 5) := Bt.addc (m := 1050001) (n := 64) (Bt.addc hm ha (by decide) (by decide)) (Bt.small (by decide)) (by decide) (by decide)
    have hm4 : Bt 128 (m * (m + 31 * i + 7)) := Bt.mulc hm hm2 (by decide)
    have hm5 : Bt 1050200 (m * (m + 31 * i + 7) * (m + a + 5)) := Bt.mulc hm4 hm3 (by decide)
    walk_at "g"
    refine g_rI (cmul_of hm4 hm3 (by decide)) ?_
    walk_at "g"
    have hm6 : Bt 1050201 (m * (m + 31 * i + 7) * (m + a + 5) + 48271) := Bt.addc hm5 h48 (by decide) (by decide)
    refine g_rI (cmul_of hm5 hm6 (by decide)) ?_
    walk_at "g"
    exact h _ ((Bt.div (Bt.mulc (k := 2200000) hm5 hm6 (by decide)) (by decide)).mono (by decide))
def sp__law_whole (K : PySem.W.Frag) (c : Cs) : Sp := fun vs H Q _ => match vs with | [.int x] => Q (.bl true) H | _ => False
theorem u__law_whole {K : PySem.W.Frag} {c : Cs} {H : Hp} {Q : VK} {E : XK} {x : Int} (h : Q (.bl true) H) : sp__law_whole K c [.int x] H Q E := h
local macro_rules | `(tactic| walk_at "u") => `(tactic| with_reducible refine u__law_whole ?_)
set_option maxHeartbeats 4000000 in
theorem d__law_whole {P : Program} {w : World} {K : PySem.W.Frag} {mg : PySem.Str → Option Value} {base : Heap} {c : Cs} (T : Top K mg c) : Df P w K mg base CX0 1 "_law_whole" ["_law_found"] (sp__law_whole K c) := by
  refine T.f__law_whole.ok sc__law_whole (fun _ _ _ _ _ _ us hl => match us, hl with | [_], _ => rfl) (fun vs H Q E h => ?_) (fun f cdv A outer s H vs Q E hr h => ?_)
  · unfold sp__law_whole at h; split at h
    · rfl
    · exact h.elim
  · unfold sp__law_whole at h; split at h
    case h_2 => exact h.elim
    rename_i x
    refine ⟨_, (pss_one (ps_ret (pe_and (pe_callB (k_isi (K := K) rfl) (by rfl) T.z_isinstance (by decide +kernel) (pa_cons (pv 0) (pa_cons (pe_bltn (v := .ty "int") (by rfl) T.z_int (by decide +kernel) rfl) pa_nil))) (pe_one (pe_not (pe_callB (k_isi (K := K) rfl) (by rfl) T.z_isinstance (by decide +kernel) (pa_cons (pv 0) (pa_cons (pe_bltn (v := .ty "bool") (by rfl) T.z_bool (by decide +kernel) rfl) pa_nil)))))))), start_eq (σ := [some (.int x)]) rfl ?_⟩
    walk_at "g"
    exact h
theorem at3 {x y z k : Int} (h0 : 0 ≤ k) (h : k < 3) : ∃ m, atI [V.int x, V.int y, V.int z] k = some (.int m) ∧ (m = x ∨ m = y ∨ m = z) := by
  have e : k = 0 ∨ k = 1 ∨ k = 2 := by omega
  rcases e with rfl | rfl | rfl
  · exact ⟨x, rfl, .inl rfl⟩
  · exact ⟨y, rfl, .inr (.inl rfl)⟩
  · exact ⟨z, rfl, .inr (.inr rfl)⟩
theorem at2 {x y k : Int} (h0 : 0 ≤ k) (h : k < 2) : ∃ m, atI [V.int x, V.int y] k = some (.int m) ∧ (m = x ∨ m = y) := by
  have e : k = 0 ∨ k = 1 := by omega
  rcases e with rfl | rfl
  · exact ⟨x, rfl, .inl rfl⟩
  · exact ⟨y, rfl, .inr rfl⟩
theorem emod_bounds (a : Int) {b : Int} (h : 0 < b) : 0 ≤ a % b ∧ a % b < b := ⟨Int.emod_nonneg _ (by omega), Int.emod_lt_of_pos _ h⟩
theorem great_can {n m : Int} {k : Int} (h0 : 0 < m) (hm : m ≤ 10 ^ 39) (hk : k = 1 ∨ k = 3) : Can (n % m * 6 + k) ∧ n % m * 6 + k ≤ 6 * 10 ^ 39 + 3 := by
  have := emod_bounds n h0
  unfold Can
  omega
def sp__law_great (K : PySem.W.Frag) (c : Cs) : Sp := fun vs H Q _ => match vs with | [.ref a, .int i] => ∃ ns : List Int, ScriptAt K H a ns ∧ (0 ≤ i ∧ i < ns.length) ∧ (∀ H' p, Same H H' → Can p → p ≤ 6 * 10 ^ 39 + 3 → Q (.int p) H') | _ => False
theorem u__law_great {K : PySem.W.Frag} {c : Cs} {H : Hp} {Q : VK} {E : XK} {a : Addr} {i : Int} (h : ∃ ns : List Int, ScriptAt K H a ns ∧ (0 ≤ i ∧ i < ns.length) ∧ (∀ H' p, Same H H' → Can p → p ≤ 6 * 10 ^ 39 + 3 → Q (.int p) H')) : sp__law_great K c [.ref a, .int i] H Q E := h
local macro_rules | `(tactic| walk_at "u") => `(tactic| with_reducible refine u__law_great ?_)
set_option maxHeartbeats 4000000 in
theorem d__law_great {P : Program} {w : World} {K : PySem.W.Frag} {mg : PySem.Str → Option Value} {base : Heap} {c : Cs} (T : Top K mg c) : Df P w K mg base CX0 2 "_law_great" ["_law_script", "_law_at"] (sp__law_great K c) := by
  have c__law_number := d__law_number (P := P) (w := w) (base := base) T
  refine T.f__law_great.ok sc__law_great (fun _ _ _ _ _ _ us hl => match us, hl with | [_, _], _ => rfl) (fun vs H Q E h => ?_) (fun f cdv A outer s H vs Q E hr h => ?_)
  · unfold sp__law_great at h; split at h
    · rfl
    · exact h.elim
  · unfold sp__law_great at h; split at h
    case h_2 => exact h.elim
    rename_i a i
    obtain ⟨ns, S, ⟨h0, h1⟩, h⟩ := h
    have hl := S.len
    refine ⟨_, (pss_cons (ps_set (i := 2) sc__law_great.nd rfl (.inl rfl) (pe_callB (k_sum (K := K) rfl rfl) (by rfl) T.z_sum (by decide +kernel) (pa_cons (pe_slice (k_slL (K := K) rfl) (pv 0) po_none (po_some pe_int)) pa_nil)))
      (pss_cons (ps_set (i := 3) sc__law_great.nd rfl (.inl rfl) (pe_op op_fdivB (pe_fn c__law_number hr (by rfl) pass0 (pa_cons (pe_ix (k_ixL (K := K) rfl) (pv 0) (pv 1) (fun _ _ => rfl)) (pa_cons (pv 1) (pa_cons (pv 2) pa_nil)))) pe_int))
      (pss_cons (ps_set (i := 4) sc__law_great.nd rfl (.inl rfl) (pe_op op_mulB (pe_op op_mod (pv 3) (pe_ix (k_ixT (K := K) rfl) (pe_tup (pa_cons pe_int (pa_cons (pe_op op_pow pe_int pe_int) (pa_cons (pe_op op_pow pe_int pe_int) pa_nil)))) (pe_op op_mod (pe_op op_add (pv 2) (pv 1)) pe_int) (fun _ _ => rfl))) pe_int))
      (pss_one (ps_ret (pe_op op_add (pv 4) (pe_ix (k_ixT (K := K) rfl) (pe_tup (pa_cons pe_int (pa_cons pe_int pa_nil))) (pe_op op_mod (pe_op op_fdivB (pv 3) pe_int) pe_int) (fun _ _ => rfl)))))))), start_eq (σ := [some (.ref a), some (.int i), none, none, none]) rfl ?_⟩
    walk_at "g"
    refine g_slL S.sq ?_
    intro q nq
    rw [S.cut]
    walk_at "g"
    refine g_sum (SqL.of upd_same) ?_
    walk_at "g"
    obtain ⟨v, hv, hmem⟩ := atI_lt h0 h1
    refine g_ixL (sq_new nq S.sq) (atI_map V.int hv) ?_
    walk_at "g"
    refine ⟨⟨(S.bits v hmem).mono (by decide), h0, by omega, S.sum⟩, fun r hr => ?_⟩
    walk_at "g"
    refine g_rI ⟨by decide, by decide, by decide⟩ ?_
    walk_at "g"
    refine g_rI ⟨by decide, by decide, by decide⟩ ?_
    walk_at "g"
    intro q2 nq2
    walk_at "g"
    obtain ⟨m, hm, hm3⟩ := at3 (x := 17) (y := (10 : Int) ^ (5 : Int).toNat) (z := (10 : Int) ^ (39 : Int).toNat) (emod_bounds (ns.sum + i) (b := 3) (by decide)).1 (emod_bounds (ns.sum + i) (b := 3) (by decide)).2
    refine g_ixT (SqT.of upd_same) hm ?_
    have hmp : 0 < m ∧ m ≤ 10 ^ 39 := by
      rcases hm3 with rfl | rfl | rfl <;> decide
    walk_at "g"
    have hb := emod_bounds (r / 5) hmp.1
    refine g_rI (cmul_of (m := 200) (n := 64) (Bt.iff.mpr (Nat.lt_of_lt_of_le (m := 10 ^ 39) (by omega) (by decide))) (Bt.small (by decide)) (by decide)) ?_
    walk_at "g"
    intro q3 nq3
    walk_at "g"
    obtain ⟨m2, hm2, hm4⟩ := at2 (x := 1) (y := 3) (emod_bounds (r / 5 / 7) (b := 2) (by decide)).1 (emod_bounds (r / 5 / 7) (b := 2) (by decide)).2
    refine g_ixT (SqT.of upd_same) hm2 ?_
    walk_at "g"
    have gc := great_can (n := r / 5) hmp.1 hmp.2 hm4
    exact h _ _ (by walk_at "sm") gc.1 gc.2
def sp__law_pair_right (K : PySem.W.Frag) (c : Cs) : Sp := fun vs H Q _ => match vs with | [.int p, .int a, .int b] => (Can p ∧ 1 < p ∧ Bt 4000 p ∧ 0 ≤ a ∧ a < p ∧ 0 ≤ b ∧ b < p ∧ a ≠ b) ∧ (∀ H', Same H H' → Q (.bl true) H') | _ => False
theorem u__law_pair_right {K : PySem.W.Frag} {c : Cs} {H : Hp} {Q : VK} {E : XK} {p : Int} {a : Int} {b : Int} (h : (Can p ∧ 1 < p ∧ Bt 4000 p ∧ 0 ≤ a ∧ a < p ∧ 0 ≤ b ∧ b < p ∧ a ≠ b) ∧ (∀ H', Same H H' → Q (.bl true) H')) : sp__law_pair_right K c [.int p, .int a, .int b] H Q E := h
local macro_rules | `(tactic| walk_at "u") => `(tactic| with_reducible refine u__law_pair_right ?_)
set_option maxHeartbeats 4000000 in
theorem d__law_pair_right {P : Program} {w : World} {K : PySem.W.Frag} {mg : PySem.Str → Option Value} {base : Heap} {c : Cs} (T : Top K mg c) : Df P w K mg base CX0 5 "_law_pair_right" ["_law_people", "_law_one", "_law_other"] (sp__law_pair_right K c) := by
  have c_third := d_third (P := P) (w := w) (base := base) T
  have c__law_whole := d__law_whole (P := P) (w := w) (base := base) T
  refine T.f__law_pair_right.ok sc__law_pair_right (fun _ _ _ _ _ _ us hl => match us, hl with | [_, _, _], _ => rfl) (fun vs H Q E h => ?_) (fun f cdv A outer s H vs Q E hr h => ?_)
  · unfold sp__law_pair_right at h; split at h
    · rfl
    · exact h.elim
  · unfold sp__law_pair_right at h; split at h
    case h_2 => exact h.elim
    rename_i p a b
    obtain ⟨⟨hc, h1, hp, ha, ha', hb, hb', hab⟩, h⟩ := h
    obtain ⟨t0, t1, t2, t3, t4, t5⟩ := third_ok hc h1 ha ha' hb hb' hab
    have tc := thirdOf_comm p b a
    refine ⟨_, (pss_cons (ps_set (i := 3) sc__law_pair_right.nd rfl (.inl rfl) (pe_fn c_third hr (by rfl) pass0 (pa_cons (pv 0) (pa_cons (pv 1) (pa_cons (pv 2) pa_nil)))))
      (pss_cons (ps_if (PW.pt (pw_or (pt_not (pt_val (pe_fn c__law_whole hr (by rfl) pass0 (pa_cons (pv 3) pa_nil)))) (pw_or (pt_not (pt_chain op_le op_lt pe_int (pv 3) (pv 0))) (pw_or1 (pt_cmpR (k_in (K := K) rfl) (pv 3) (pe_lst (pa_cons (pv 1) (pa_cons (pv 2) pa_nil))) (by rfl))))))
      (pss_one (ps_ret pe_bl))
      pss_nil)
      (pss_cons (ps_if (pt_cmpR op_neI (pe_fn c_third hr (by rfl) pass0 (pa_cons (pv 0) (pa_cons (pv 2) (pa_cons (pv 1) pa_nil)))) (pv 3) (nomark _))
      (pss_one (ps_ret pe_bl))
      pss_nil)
      (pss_one (ps_ret (pe_and (pe_cmpR op_eqI (pe_fn c_third hr (by rfl) pass0 (pa_cons (pv 0) (pa_cons (pv 1) (pa_cons (pv 3) pa_nil)))) (pv 2) (nomark _)) (pe_one (pe_cmpR op_eqI (pe_fn c_third hr (by rfl) pass0 (pa_cons (pv 0) (pa_cons (pv 3) (pa_cons (pv 2) pa_nil)))) (pv 1) (nomark _))))))))), start_eq (σ := [some (.int p), some (.int a), some (.int b), none]) rfl ?_⟩
    walk_at "g"
    refine ⟨⟨hc, h1, hp, ha, ha', hb, hb', hab⟩, fun H1 s1 => ?_⟩
    generalize hz : thirdOf p a b = z at *
    walk_at "g"
    refine ifT t0 ?_
    walk_at "g"
    refine ifNF t1 ?_
    walk_at "g"
    intro q nq
    refine g_inL (ns := [a, b]) (SqL.of upd_same) ?_
    walk_at "g"
    refine ifF (by simp; omega) ?_
    walk_at "g"
    refine ⟨⟨hc, h1, hp, hb, hb', ha, ha', Ne.symm hab⟩, fun H2 s2 => ?_⟩
    rw [tc]
    walk_at "g"
    refine ifNF rfl ?_
    walk_at "g"
    refine ⟨⟨hc, h1, hp, ha, ha', t0, t1, Ne.symm t2⟩, fun H3 s3 => ?_⟩
    rw [t4]
    walk_at "g"
    refine ifT rfl ?_
    walk_at "g"
    refine ⟨⟨hc, h1, hp, t0, t1, hb, hb', t3⟩, fun H4 s4 => ?_⟩
    rw [t5]
    walk_at "g"
    rw [decide_eq_true rfl]
    exact h _ (s1.trans ((same_new nq).trans (s2.trans (s3.trans s4))))
def sp__law_can_right (K : PySem.W.Frag) (c : Cs) : Sp := fun vs H Q _ => match vs with | [.int p] => (1 ≤ p ∧ Bt 3990 p) ∧ (∀ H', Same H H' → Q (.bl true) H') | _ => False
theorem u__law_can_right {K : PySem.W.Frag} {c : Cs} {H : Hp} {Q : VK} {E : XK} {p : Int} (h : (1 ≤ p ∧ Bt 3990 p) ∧ (∀ H', Same H H' → Q (.bl true) H')) : sp__law_can_right K c [.int p] H Q E := h
local macro_rules | `(tactic| walk_at "u") => `(tactic| with_reducible refine u__law_can_right ?_)
set_option maxHeartbeats 4000000 in
theorem d__law_can_right {P : Program} {w : World} {K : PySem.W.Frag} {mg : PySem.Str → Option Value} {base : Heap} {c : Cs} (T : Top K mg c) : Df P w K mg base CX0 4 "_law_can_right" ["_law_people"] (sp__law_can_right K c) := by
  have c_can := d_can (P := P) (w := w) (base := base) T
  have c_Can_shows := d_Can_shows (P := P) (w := w) (base := base) T
  have c_Unpaired_shows := d_Unpaired_shows (P := P) (w := w) (base := base) T
  have c_Unshared_shows := d_Unshared_shows (P := P) (w := w) (base := base) T
  refine T.f__law_can_right.ok sc__law_can_right (fun _ _ _ _ _ _ us hl => match us, hl with | [_], _ => rfl) (fun vs H Q E h => ?_) (fun f cdv A outer s H vs Q E hr h => ?_)
  · unfold sp__law_can_right at h; split at h
    · rfl
    · exact h.elim
  · unfold sp__law_can_right at h; split at h
    case h_2 => exact h.elim
    rename_i p
    obtain ⟨⟨h0, hp⟩, h⟩ := h
    have hp4 : Bt 4000 p := hp.mono (by decide)
    have hpb : ∀ o : Int, 0 ≤ o → o ≤ p + 6 → Bt 4000 o := fun o z1 z2 => Bt.le z1 z2 ((Bt.addc (k := 3991) hp ((Bt.small (x := 6) (by decide)).mono (by decide : 64 ≤ 3990)) (by decide) (by decide)).mono (by decide))
    refine ⟨_, (pss_cons (ps_set (i := 1) sc__law_can_right.nd rfl (.inl rfl) (pe_fn c_can hr (by rfl) pass0 (pa_cons (pv 0) pa_nil)))
      (pss_cons (ps_set (i := 2) sc__law_can_right.nd rfl (.inl rfl) (pe_lst (pa_cons (pe_callB (k_isi (K := K) rfl) (by rfl) T.z_isinstance (by decide +kernel) (pa_cons (pv 1) (pa_cons (pe_glob (v := .ref c.Can) (by rfl) T.mg_Can rfl) pa_nil))) (pa_cons (pe_callB (k_isi (K := K) rfl) (by rfl) T.z_isinstance (by decide +kernel) (pa_cons (pv 1) (pa_cons (pe_glob (v := .ref c.Unpaired) (by rfl) T.mg_Unpaired rfl) pa_nil))) (pa_cons (pe_callB (k_isi (K := K) rfl) (by rfl) T.z_isinstance (by decide +kernel) (pa_cons (pv 1) (pa_cons (pe_glob (v := .ref c.Unshared) (by rfl) T.mg_Unshared rfl) pa_nil))) pa_nil)))))
      (pss_cons (ps_set (i := 3) sc__law_can_right.nd rfl (.inl rfl) (pe_lst (pa_cons (pe_callB (k_isi (K := K) rfl) (by rfl) T.z_isinstance (by decide +kernel) (pa_cons (pv 1) (pa_cons (pe_glob (v := .ref c.Plan) (by rfl) T.mg_Plan rfl) pa_nil))) (pa_cons (pe_callB (k_isi (K := K) rfl) (by rfl) T.z_isinstance (by decide +kernel) (pa_cons (pv 1) (pa_cons (pe_glob (v := .ref c.Apart) (by rfl) T.mg_Apart rfl) pa_nil))) (pa_cons (pe_callB (k_isi (K := K) rfl) (by rfl) T.z_isinstance (by decide +kernel) (pa_cons (pv 1) (pa_cons (pe_glob (v := .ref c.Twice) (by rfl) T.mg_Twice rfl) pa_nil))) pa_nil)))))
      (pss_cons (ps_set (i := 4) sc__law_can_right.nd rfl (.inl rfl) (pe_lst (pa_cons (pe_cmpR (k_in (K := K) rfl) (pe_op op_mod (pv 0) pe_int) (pe_lst (pa_cons pe_int (pa_cons pe_int pa_nil))) (by rfl)) (pa_cons (pe_cmpR op_eqI (pe_op op_mod (pv 0) pe_int) pe_int (nomark _)) (pa_cons (pe_cmpR op_eqI (pe_op op_mod (pv 0) pe_int) pe_int (nomark _)) pa_nil)))))
      (pss_cons (ps_if (PW.pt (pw_or (pt_not (pt_val (pe_callB (k_isi (K := K) rfl) (by rfl) T.z_isinstance (by decide +kernel) (pa_cons (pv 1) (pa_cons (pe_glob (v := .ref c.Answer) (by rfl) T.mg_Answer rfl) pa_nil))))) (pw_or (pt_cmpR (k_neD (K := K) rfl hr.units) (pv 2) (pv 4) (nomark _)) (pw_or (pt_val (pe_callB (k_any (K := K) rfl rfl) (by rfl) T.z_any (by decide +kernel) (pa_cons (pv 3) pa_nil))) (pw_or1 (pt_cmpR op_isnot_bl (pe_either (pe_mt c_Can_shows T.cf_Can hr pass0 (pv 1) (pa_cons (pv 0) pa_nil)) (pe_either (pe_mt c_Unpaired_shows T.cf_Unpaired hr pass0 (pv 1) (pa_cons (pv 0) pa_nil)) (pe_mt c_Unshared_shows T.cf_Unshared hr pass0 (pv 1) (pa_cons (pv 0) pa_nil)))) pe_bl (nomark _)))))))
      (pss_one (ps_ret pe_bl))
      pss_nil)
      (pss_cons (ps_for PassesOwn.never rfl (pi_rangeA (by rfl) T.z_range (pa_cons (pv 0) (pa_cons (pe_op op_add (pv 0) pe_int) pa_nil))) (pg_name (i := 5) sc__law_can_right.nd rfl (.inl rfl))
      (pss_cons (ps_par (by rfl) sc__law_can_right.nd (i := 6) (j := 7) rfl rfl (by decide) rfl rfl (pa_cons (pe_cmpR op_eqI (pe_op op_mod (pv 5) pe_int) pe_int (nomark _)) (pa_cons (pe_cmpR op_eqI (pe_op op_mod (pv 5) pe_int) pe_int (nomark _)) pa_nil)) (by rfl))
      (pss_cons (ps_set (i := 8) sc__law_can_right.nd rfl (.inl rfl) (pe_lst (pa_cons (pe_mt c_Can_shows T.cf_Can hr pass0 (pe_makeO T.mk_Can (by rfl) T.mg_Can) (pa_cons (pv 5) pa_nil)) (pa_cons (pe_mt c_Unpaired_shows T.cf_Unpaired hr pass0 (pe_makeO T.mk_Unpaired (by rfl) T.mg_Unpaired) (pa_cons (pv 5) pa_nil)) (pa_cons (pe_mt c_Unshared_shows T.cf_Unshared hr pass0 (pe_makeO T.mk_Unshared (by rfl) T.mg_Unshared) (pa_cons (pv 5) pa_nil)) pa_nil)))))
      (pss_cons (ps_if (PW.pt (pw_or (pt_not (pt_val (pe_callB (k_all (K := K) rfl rfl) (by rfl) T.z_all (by decide +kernel) (pa_cons (pe_lc (own := [("_law_one", 9)]) (g := (gName 9)) (tt := tYes) rfl sc__law_can_right.nd (k_plist (K := K) rfl (pv 8)) (blkOk_by (own := [("_law_one", 9)]) (N := ["_law_people", "_law_found", "_law_kinds", "_law_wrong", "_law_due", "_law_other", "_law_even", "_law_fifth", "_law_said", "_law_one"]) (sc := defScope s__law_can_right) (by decide +kernel)) (fun _ _ _ _ _ => (pg_name (i := 9) sc__law_can_right.nd rfl (.inl rfl))) (fun _ _ _ _ _ => pts_nil) (fun _ _ _ _ _ => (pe_callB (k_isi (K := K) rfl) (by rfl) T.z_isinstance (by decide +kernel) (pa_cons (pv 9) (pa_cons (pe_bltn (v := .ty "bool") (by rfl) T.z_bool (by decide +kernel) rfl) pa_nil))))) pa_nil)))) (pw_or1 (pt_cmpR (k_neD (K := K) rfl hr.units) (pv 8) (pe_lst (pa_cons (pe_and (pe_not (pv 6)) (pe_one (pe_not (pv 7)))) (pa_cons (pv 6) (pa_cons (pv 7) pa_nil)))) (nomark _)))))
      (pss_one (ps_ret pe_bl))
      pss_nil)
      (pss_one (ps_if (pt_cmpR op_ne (pe_either (pe_mt c_Can_shows T.cf_Can hr pass0 (pv 1) (pa_cons (pv 5) pa_nil)) (pe_either (pe_mt c_Unpaired_shows T.cf_Unpaired hr pass0 (pv 1) (pa_cons (pv 5) pa_nil)) (pe_mt c_Unshared_shows T.cf_Unshared hr pass0 (pv 1) (pa_cons (pv 5) pa_nil)))) (pe_ix (k_ixL (K := K) rfl) (pv 8) (k_bm (K := K) rfl PySem.F.plainAttrs_list PySem.F.slot_list_index PySem.F.type_list_index (k_index (K := K) rfl) (pv 2) (pa_cons pe_bl pa_nil)) (fun _ _ => rfl)) (nomark _))
      (pss_one (ps_ret pe_bl))
      pss_nil))))))
      (pss_one (ps_ret pe_bl)))))))), start_eq (σ := [some (.int p), none, none, none, none, none, none, none, none, none]) rfl ?_⟩
    have h6 : p % 2 = 0 ∨ p % 6 = 5 ∨ (p % 6 = 1 ∨ p % 6 = 3) := by omega
    rcases h6 with h6 | h6 | h6
    · have p1 : decide (p % 6 = 1 ∨ p % 6 = 3) = false := decide_eq_false (by omega)
      have p2 : decide (p % 2 = 0) = true := decide_eq_true (by omega)
      have p5 : decide (p % 6 = 5) = false := decide_eq_false (by omega)
      have kC := T.kit_Unpaired_Can
      have kU := T.kit_Unpaired_Unpaired
      have kS := T.kit_Unpaired_Unshared
      have kP := T.kit_Unpaired_Plan
      have kA := T.kit_Unpaired_Apart
      have kT := T.kit_Unpaired_Twice
      have kN := T.kit_Unpaired_Answer
      have cf := T.cf_Unpaired
      have hk : kindOf c p = c.Unpaired := by unfold kindOf; simp (disch := omega) only [if_pos, if_neg]
      walk_at "g"
      refine ⟨⟨h0, hp4⟩, fun x dx nx ndx nex => ?_⟩
      rw [hk]
      walk_at "g"
      refine fun qk nk => ?_
      walk_at "g"
      refine fun qw nw => ?_
      walk_at "g"
      refine fun q13 n13 => ?_
      walk_at "g"
      refine fun qd nd => ?_
      simp only [p1, p2, p5]
      walk_at "g"
      refine .inr <| .inl ?_
      walk_at "g"
      refine ⟨⟨h0, hp4⟩, ?_⟩
      simp only [p1, p2, p5]
      walk_at "g"
      have hx : (upd (upd (upd (upd (upd (upd H dx (.own x)) x (.ins c.Unpaired dx [])) qk (.lst [.bl false, .bl true, .bl false])) qw (.lst [.bl false, .bl false, .bl false])) q13 (.lst [.int 1, .int 3])) qd (.lst [.bl false, .bl true, .bl false])) x = some (.ins c.Unpaired dx []) := by walk_at "at"
      have hq : (upd (upd (upd (upd (upd (upd H dx (.own x)) x (.ins c.Unpaired dx [])) qk (.lst [.bl false, .bl true, .bl false])) qw (.lst [.bl false, .bl false, .bl false])) q13 (.lst [.int 1, .int 3])) qd (.lst [.bl false, .bl true, .bl false])) qk = some (.lst [.bl false, .bl true, .bl false]) := by walk_at "at"
      have hs0 : Same H (upd (upd (upd (upd (upd (upd H dx (.own x)) x (.ins c.Unpaired dx [])) qk (.lst [.bl false, .bl true, .bl false])) qw (.lst [.bl false, .bl false, .bl false])) q13 (.lst [.int 1, .int 3])) qd (.lst [.bl false, .bl true, .bl false])) := by walk_at "sm"
      generalize (upd (upd (upd (upd (upd (upd H dx (.own x)) x (.ins c.Unpaired dx [])) qk (.lst [.bl false, .bl true, .bl false])) qw (.lst [.bl false, .bl false, .bl false])) q13 (.lst [.int 1, .int 3])) qd (.lst [.bl false, .bl true, .bl false])) = H1 at *
      refine for_range (lo := p) (fun i σ H2 => ∃ y1 y2 y3 y4 y5, σ = [some (.int p), some (.ref x), some (.ref qk), some (.ref qw), some (.ref qd), y1, y2, y3, y4, y5] ∧ Same H1 H2) ⟨_, _, _, _, _, rfl, Same.refl _⟩ (fun i σ H2 hi ⟨y1, y2, y3, y4, y5, e, sm⟩ => ?_) (fun σ H2 ⟨y1, y2, y3, y4, y5, e, sm⟩ => ?_)
      · subst e
        have hi6 : (i : Int) < 6 := by omega
        have ho : 1 ≤ p + i := by omega
        have hob : Bt 4000 (p + i) := hpb _ (by omega) (by omega)
        clear hi hi6
        generalize p + (i : Int) = o at *
        have hx2 := sm _ _ hx
        have hq2 := sm _ _ hq
        have h6 : o % 2 = 0 ∨ o % 6 = 5 ∨ (o % 6 = 1 ∨ o % 6 = 3) := by omega
        rcases h6 with h6 | h6 | h6
        · have o1 : decide (o % 6 = 1 ∨ o % 6 = 3) = false := decide_eq_false (by omega)
          have o2 : decide (o % 2 = 0) = true := decide_eq_true (by omega)
          have o5 : decide (o % 6 = 5) = false := decide_eq_false (by omega)
          walk_at "ga"
          refine ⟨⟨ho, hob⟩, ?_⟩
          walk_at "ga"
          refine ⟨⟨ho, hob⟩, ?_⟩
          walk_at "ga"
          refine ⟨⟨ho, hob⟩, ?_⟩
          simp only [o1, o2, o5]
          walk_at "g"
          refine fun q3 n3 => ?_
          walk_at "g"
          refine ⟨_, rfl, ⟨_, SqL.of upd_same⟩, fun D nD => lc_map (xs := [.bl false, .bl true, .bl false]) (fun _ => .bl true) nD (SqL.of upd_same) (fun _ => rfl) (fun y H' hy _ R hR => ?_) (by decide) ?_⟩
          · have hy2 : ∃ b, y = .bl b := by
              simp only [List.mem_cons, List.not_mem_nil, or_false] at hy
              rcases hy with rfl | rfl | rfl <;> exact ⟨_, rfl⟩
            obtain ⟨b, rfl⟩ := hy2
            walk_at "ga"
            exact hR
          rw [List.map_cons, List.map_cons, List.map_cons, List.map_nil]
          walk_at "ga"
          refine .inr <| .inl ?_
          walk_at "ga"
          refine ⟨⟨ho, hob⟩, ?_⟩
          simp only [o1, o2, o5]
          walk_at "ga"
          refine ⟨qk, [.bl false, .bl true, .bl false], .bl true, 1, .bl true, rfl, rfl, by walk_at "sq", rfl, rfl, rfl, rfl, fun m z hm e => by
              obtain rfl : m = 0 := by omega
              cases e; rfl, ?_⟩
          refine g_ixL (by walk_at "sq") (by rfl) ?_
          walk_at "ga"
          exact ⟨_, _, _, _, _, rfl, sm.trans (by walk_at "sm")⟩
        · have o1 : decide (o % 6 = 1 ∨ o % 6 = 3) = false := decide_eq_false (by omega)
          have o2 : decide (o % 2 = 0) = false := decide_eq_false (by omega)
          have o5 : decide (o % 6 = 5) = true := decide_eq_true (by omega)
          walk_at "ga"
          refine ⟨⟨ho, hob⟩, ?_⟩
          walk_at "ga"
          refine ⟨⟨ho, hob⟩, ?_⟩
          walk_at "ga"
          refine ⟨⟨ho, hob⟩, ?_⟩
          simp only [o1, o2, o5]
          walk_at "g"
          refine fun q3 n3 => ?_
          walk_at "g"
          refine ⟨_, rfl, ⟨_, SqL.of upd_same⟩, fun D nD => lc_map (xs := [.bl false, .bl false, .bl true]) (fun _ => .bl true) nD (SqL.of upd_same) (fun _ => rfl) (fun y H' hy _ R hR => ?_) (by decide) ?_⟩
          · have hy2 : ∃ b, y = .bl b := by
              simp only [List.mem_cons, List.not_mem_nil, or_false] at hy
              rcases hy with rfl | rfl | rfl <;> exact ⟨_, rfl⟩
            obtain ⟨b, rfl⟩ := hy2
            walk_at "ga"
            exact hR
          rw [List.map_cons, List.map_cons, List.map_cons, List.map_nil]
          walk_at "ga"
          refine .inr <| .inl ?_
          walk_at "ga"
          refine ⟨⟨ho, hob⟩, ?_⟩
          simp only [o1, o2, o5]
          walk_at "ga"
          refine ⟨qk, [.bl false, .bl true, .bl false], .bl true, 1, .bl true, rfl, rfl, by walk_at "sq", rfl, rfl, rfl, rfl, fun m z hm e => by
              obtain rfl : m = 0 := by omega
              cases e; rfl, ?_⟩
          refine g_ixL (by walk_at "sq") (by rfl) ?_
          walk_at "ga"
          exact ⟨_, _, _, _, _, rfl, sm.trans (by walk_at "sm")⟩
        · have o1 : decide (o % 6 = 1 ∨ o % 6 = 3) = true := decide_eq_true (by omega)
          have o2 : decide (o % 2 = 0) = false := decide_eq_false (by omega)
          have o5 : decide (o % 6 = 5) = false := decide_eq_false (by omega)
          walk_at "ga"
          refine ⟨⟨ho, hob⟩, ?_⟩
          walk_at "ga"
          refine ⟨⟨ho, hob⟩, ?_⟩
          walk_at "ga"
          refine ⟨⟨ho, hob⟩, ?_⟩
          simp only [o1, o2, o5]
          walk_at "g"
          refine fun q3 n3 => ?_
          walk_at "g"
          refine ⟨_, rfl, ⟨_, SqL.of upd_same⟩, fun D nD => lc_map (xs := [.bl true, .bl false, .bl false]) (fun _ => .bl true) nD (SqL.of upd_same) (fun _ => rfl) (fun y H' hy _ R hR => ?_) (by decide) ?_⟩
          · have hy2 : ∃ b, y = .bl b := by
              simp only [List.mem_cons, List.not_mem_nil, or_false] at hy
              rcases hy with rfl | rfl | rfl <;> exact ⟨_, rfl⟩
            obtain ⟨b, rfl⟩ := hy2
            walk_at "ga"
            exact hR
          rw [List.map_cons, List.map_cons, List.map_cons, List.map_nil]
          walk_at "ga"
          refine .inr <| .inl ?_
          walk_at "ga"
          refine ⟨⟨ho, hob⟩, ?_⟩
          simp only [o1, o2, o5]
          walk_at "ga"
          refine ⟨qk, [.bl false, .bl true, .bl false], .bl true, 1, .bl true, rfl, rfl, by walk_at "sq", rfl, rfl, rfl, rfl, fun m z hm e => by
              obtain rfl : m = 0 := by omega
              cases e; rfl, ?_⟩
          refine g_ixL (by walk_at "sq") (by rfl) ?_
          walk_at "ga"
          exact ⟨_, _, _, _, _, rfl, sm.trans (by walk_at "sm")⟩
      · subst e
        walk_at "g"
        exact h _ (hs0.trans sm)
    · have p1 : decide (p % 6 = 1 ∨ p % 6 = 3) = false := decide_eq_false (by omega)
      have p2 : decide (p % 2 = 0) = false := decide_eq_false (by omega)
      have p5 : decide (p % 6 = 5) = true := decide_eq_true (by omega)
      have kC := T.kit_Unshared_Can
      have kU := T.kit_Unshared_Unpaired
      have kS := T.kit_Unshared_Unshared
      have kP := T.kit_Unshared_Plan
      have kA := T.kit_Unshared_Apart
      have kT := T.kit_Unshared_Twice
      have kN := T.kit_Unshared_Answer
      have cf := T.cf_Unshared
      have hk : kindOf c p = c.Unshared := by unfold kindOf; simp (disch := omega) only [if_pos, if_neg]
      walk_at "g"
      refine ⟨⟨h0, hp4⟩, fun x dx nx ndx nex => ?_⟩
      rw [hk]
      walk_at "g"
      refine fun qk nk => ?_
      walk_at "g"
      refine fun qw nw => ?_
      walk_at "g"
      refine fun q13 n13 => ?_
      walk_at "g"
      refine fun qd nd => ?_
      simp only [p1, p2, p5]
      walk_at "g"
      refine .inr <| .inr ?_
      walk_at "g"
      refine ⟨⟨h0, hp4⟩, ?_⟩
      simp only [p1, p2, p5]
      walk_at "g"
      have hx : (upd (upd (upd (upd (upd (upd H dx (.own x)) x (.ins c.Unshared dx [])) qk (.lst [.bl false, .bl false, .bl true])) qw (.lst [.bl false, .bl false, .bl false])) q13 (.lst [.int 1, .int 3])) qd (.lst [.bl false, .bl false, .bl true])) x = some (.ins c.Unshared dx []) := by walk_at "at"
      have hq : (upd (upd (upd (upd (upd (upd H dx (.own x)) x (.ins c.Unshared dx [])) qk (.lst [.bl false, .bl false, .bl true])) qw (.lst [.bl false, .bl false, .bl false])) q13 (.lst [.int 1, .int 3])) qd (.lst [.bl false, .bl false, .bl true])) qk = some (.lst [.bl false, .bl false, .bl true]) := by walk_at "at"
      have hs0 : Same H (upd (upd (upd (upd (upd (upd H dx (.own x)) x (.ins c.Unshared dx [])) qk (.lst [.bl false, .bl false, .bl true])) qw (.lst [.bl false, .bl false, .bl false])) q13 (.lst [.int 1, .int 3])) qd (.lst [.bl false, .bl false, .bl true])) := by walk_at "sm"
      generalize (upd (upd (upd (upd (upd (upd H dx (.own x)) x (.ins c.Unshared dx [])) qk (.lst [.bl false, .bl false, .bl true])) qw (.lst [.bl false, .bl false, .bl false])) q13 (.lst [.int 1, .int 3])) qd (.lst [.bl false, .bl false, .bl true])) = H1 at *
      refine for_range (lo := p) (fun i σ H2 => ∃ y1 y2 y3 y4 y5, σ = [some (.int p), some (.ref x), some (.ref qk), some (.ref qw), some (.ref qd), y1, y2, y3, y4, y5] ∧ Same H1 H2) ⟨_, _, _, _, _, rfl, Same.refl _⟩ (fun i σ H2 hi ⟨y1, y2, y3, y4, y5, e, sm⟩ => ?_) (fun σ H2 ⟨y1, y2, y3, y4, y5, e, sm⟩ => ?_)
      · subst e
        have hi6 : (i : Int) < 6 := by omega
        have ho : 1 ≤ p + i := by omega
        have hob : Bt 4000 (p + i) := hpb _ (by omega) (by omega)
        clear hi hi6
        generalize p + (i : Int) = o at *
        have hx2 := sm _ _ hx
        have hq2 := sm _ _ hq
        have h6 : o % 2 = 0 ∨ o % 6 = 5 ∨ (o % 6 = 1 ∨ o % 6 = 3) := by omega
        rcases h6 with h6 | h6 | h6
        · have o1 : decide (o % 6 = 1 ∨ o % 6 = 3) = false := decide_eq_false (by omega)
          have o2 : decide (o % 2 = 0) = true := decide_eq_true (by omega)
          have o5 : decide (o % 6 = 5) = false := decide_eq_false (by omega)
          walk_at "ga"
          refine ⟨⟨ho, hob⟩, ?_⟩
          walk_at "ga"
          refine ⟨⟨ho, hob⟩, ?_⟩
          walk_at "ga"
          refine ⟨⟨ho, hob⟩, ?_⟩
          simp only [o1, o2, o5]
          walk_at "g"
          refine fun q3 n3 => ?_
          walk_at "g"
          refine ⟨_, rfl, ⟨_, SqL.of upd_same⟩, fun D nD => lc_map (xs := [.bl false, .bl true, .bl false]) (fun _ => .bl true) nD (SqL.of upd_same) (fun _ => rfl) (fun y H' hy _ R hR => ?_) (by decide) ?_⟩
          · have hy2 : ∃ b, y = .bl b := by
              simp only [List.mem_cons, List.not_mem_nil, or_false] at hy
              rcases hy with rfl | rfl | rfl <;> exact ⟨_, rfl⟩
            obtain ⟨b, rfl⟩ := hy2
            walk_at "ga"
            exact hR
          rw [List.map_cons, List.map_cons, List.map_cons, List.map_nil]
          walk_at "ga"
          refine .inr <| .inr ?_
          walk_at "ga"
          refine ⟨⟨ho, hob⟩, ?_⟩
          simp only [o1, o2, o5]
          walk_at "ga"
          refine ⟨qk, [.bl false, .bl false, .bl true], .bl true, 2, .bl true, rfl, rfl, by walk_at "sq", rfl, rfl, rfl, rfl, fun m z hm e => by
              have q : m = 0 ∨ m = 1 := by omega
              rcases q with rfl | rfl <;> (cases e; rfl), ?_⟩
          refine g_ixL (by walk_at "sq") (by rfl) ?_
          walk_at "ga"
          exact ⟨_, _, _, _, _, rfl, sm.trans (by walk_at "sm")⟩
        · have o1 : decide (o % 6 = 1 ∨ o % 6 = 3) = false := decide_eq_false (by omega)
          have o2 : decide (o % 2 = 0) = false := decide_eq_false (by omega)
          have o5 : decide (o % 6 = 5) = true := decide_eq_true (by omega)
          walk_at "ga"
          refine ⟨⟨ho, hob⟩, ?_⟩
          walk_at "ga"
          refine ⟨⟨ho, hob⟩, ?_⟩
          walk_at "ga"
          refine ⟨⟨ho, hob⟩, ?_⟩
          simp only [o1, o2, o5]
          walk_at "g"
          refine fun q3 n3 => ?_
          walk_at "g"
          refine ⟨_, rfl, ⟨_, SqL.of upd_same⟩, fun D nD => lc_map (xs := [.bl false, .bl false, .bl true]) (fun _ => .bl true) nD (SqL.of upd_same) (fun _ => rfl) (fun y H' hy _ R hR => ?_) (by decide) ?_⟩
          · have hy2 : ∃ b, y = .bl b := by
              simp only [List.mem_cons, List.not_mem_nil, or_false] at hy
              rcases hy with rfl | rfl | rfl <;> exact ⟨_, rfl⟩
            obtain ⟨b, rfl⟩ := hy2
            walk_at "ga"
            exact hR
          rw [List.map_cons, List.map_cons, List.map_cons, List.map_nil]
          walk_at "ga"
          refine .inr <| .inr ?_
          walk_at "ga"
          refine ⟨⟨ho, hob⟩, ?_⟩
          simp only [o1, o2, o5]
          walk_at "ga"
          refine ⟨qk, [.bl false, .bl false, .bl true], .bl true, 2, .bl true, rfl, rfl, by walk_at "sq", rfl, rfl, rfl, rfl, fun m z hm e => by
              have q : m = 0 ∨ m = 1 := by omega
              rcases q with rfl | rfl <;> (cases e; rfl), ?_⟩
          refine g_ixL (by walk_at "sq") (by rfl) ?_
          walk_at "ga"
          exact ⟨_, _, _, _, _, rfl, sm.trans (by walk_at "sm")⟩
        · have o1 : decide (o % 6 = 1 ∨ o % 6 = 3) = true := decide_eq_true (by omega)
          have o2 : decide (o % 2 = 0) = false := decide_eq_false (by omega)
          have o5 : decide (o % 6 = 5) = false := decide_eq_false (by omega)
          walk_at "ga"
          refine ⟨⟨ho, hob⟩, ?_⟩
          walk_at "ga"
          refine ⟨⟨ho, hob⟩, ?_⟩
          walk_at "ga"
          refine ⟨⟨ho, hob⟩, ?_⟩
          simp only [o1, o2, o5]
          walk_at "g"
          refine fun q3 n3 => ?_
          walk_at "g"
          refine ⟨_, rfl, ⟨_, SqL.of upd_same⟩, fun D nD => lc_map (xs := [.bl true, .bl false, .bl false]) (fun _ => .bl true) nD (SqL.of upd_same) (fun _ => rfl) (fun y H' hy _ R hR => ?_) (by decide) ?_⟩
          · have hy2 : ∃ b, y = .bl b := by
              simp only [List.mem_cons, List.not_mem_nil, or_false] at hy
              rcases hy with rfl | rfl | rfl <;> exact ⟨_, rfl⟩
            obtain ⟨b, rfl⟩ := hy2
            walk_at "ga"
            exact hR
          rw [List.map_cons, List.map_cons, List.map_cons, List.map_nil]
          walk_at "ga"
          refine .inr <| .inr ?_
          walk_at "ga"
          refine ⟨⟨ho, hob⟩, ?_⟩
          simp only [o1, o2, o5]
          walk_at "ga"
          refine ⟨qk, [.bl false, .bl false, .bl true], .bl true, 2, .bl true, rfl, rfl, by walk_at "sq", rfl, rfl, rfl, rfl, fun m z hm e => by
              have q : m = 0 ∨ m = 1 := by omega
              rcases q with rfl | rfl <;> (cases e; rfl), ?_⟩
          refine g_ixL (by walk_at "sq") (by rfl) ?_
          walk_at "ga"
          exact ⟨_, _, _, _, _, rfl, sm.trans (by walk_at "sm")⟩
      · subst e
        walk_at "g"
        exact h _ (hs0.trans sm)
    · have p1 : decide (p % 6 = 1 ∨ p % 6 = 3) = true := decide_eq_true (by omega)
      have p2 : decide (p % 2 = 0) = false := decide_eq_false (by omega)
      have p5 : decide (p % 6 = 5) = false := decide_eq_false (by omega)
      have kC := T.kit_Can_Can
      have kU := T.kit_Can_Unpaired
      have kS := T.kit_Can_Unshared
      have kP := T.kit_Can_Plan
      have kA := T.kit_Can_Apart
      have kT := T.kit_Can_Twice
      have kN := T.kit_Can_Answer
      have cf := T.cf_Can
      have hk : kindOf c p = c.Can := by unfold kindOf; simp (disch := omega) only [if_pos, if_neg]
      walk_at "g"
      refine ⟨⟨h0, hp4⟩, fun x dx nx ndx nex => ?_⟩
      rw [hk]
      walk_at "g"
      refine fun qk nk => ?_
      walk_at "g"
      refine fun qw nw => ?_
      walk_at "g"
      refine fun q13 n13 => ?_
      walk_at "g"
      refine fun qd nd => ?_
      simp only [p1, p2, p5]
      walk_at "g"
      refine .inl ?_
      walk_at "g"
      refine ⟨⟨h0, hp4⟩, ?_⟩
      simp only [p1, p2, p5]
      walk_at "g"
      have hx : (upd (upd (upd (upd (upd (upd H dx (.own x)) x (.ins c.Can dx [])) qk (.lst [.bl true, .bl false, .bl false])) qw (.lst [.bl false, .bl false, .bl false])) q13 (.lst [.int 1, .int 3])) qd (.lst [.bl true, .bl false, .bl false])) x = some (.ins c.Can dx []) := by walk_at "at"
      have hq : (upd (upd (upd (upd (upd (upd H dx (.own x)) x (.ins c.Can dx [])) qk (.lst [.bl true, .bl false, .bl false])) qw (.lst [.bl false, .bl false, .bl false])) q13 (.lst [.int 1, .int 3])) qd (.lst [.bl true, .bl false, .bl false])) qk = some (.lst [.bl true, .bl false, .bl false]) := by walk_at "at"
      have hs0 : Same H (upd (upd (upd (upd (upd (upd H dx (.own x)) x (.ins c.Can dx [])) qk (.lst [.bl true, .bl false, .bl false])) qw (.lst [.bl false, .bl false, .bl false])) q13 (.lst [.int 1, .int 3])) qd (.lst [.bl true, .bl false, .bl false])) := by walk_at "sm"
      generalize (upd (upd (upd (upd (upd (upd H dx (.own x)) x (.ins c.Can dx [])) qk (.lst [.bl true, .bl false, .bl false])) qw (.lst [.bl false, .bl false, .bl false])) q13 (.lst [.int 1, .int 3])) qd (.lst [.bl true, .bl false, .bl false])) = H1 at *
      refine for_range (lo := p) (fun i σ H2 => ∃ y1 y2 y3 y4 y5, σ = [some (.int p), some (.ref x), some (.ref qk), some (.ref qw), some (.ref qd), y1, y2, y3, y4, y5] ∧ Same H1 H2) ⟨_, _, _, _, _, rfl, Same.refl _⟩ (fun i σ H2 hi ⟨y1, y2, y3, y4, y5, e, sm⟩ => ?_) (fun σ H2 ⟨y1, y2, y3, y4, y5, e, sm⟩ => ?_)
      · subst e
        have hi6 : (i : Int) < 6 := by omega
        have ho : 1 ≤ p + i := by omega
        have hob : Bt 4000 (p + i) := hpb _ (by omega) (by omega)
        clear hi hi6
        generalize p + (i : Int) = o at *
        have hx2 := sm _ _ hx
        have hq2 := sm _ _ hq
        have h6 : o % 2 = 0 ∨ o % 6 = 5 ∨ (o % 6 = 1 ∨ o % 6 = 3) := by omega
        rcases h6 with h6 | h6 | h6
        · have o1 : decide (o % 6 = 1 ∨ o % 6 = 3) = false := decide_eq_false (by omega)
          have o2 : decide (o % 2 = 0) = true := decide_eq_true (by omega)
          have o5 : decide (o % 6 = 5) = false := decide_eq_false (by omega)
          walk_at "ga"
          refine ⟨⟨ho, hob⟩, ?_⟩
          walk_at "ga"
          refine ⟨⟨ho, hob⟩, ?_⟩
          walk_at "ga"
          refine ⟨⟨ho, hob⟩, ?_⟩
          simp only [o1, o2, o5]
          walk_at "g"
          refine fun q3 n3 => ?_
          walk_at "g"
          refine ⟨_, rfl, ⟨_, SqL.of upd_same⟩, fun D nD => lc_map (xs := [.bl false, .bl true, .bl false]) (fun _ => .bl true) nD (SqL.of upd_same) (fun _ => rfl) (fun y H' hy _ R hR => ?_) (by decide) ?_⟩
          · have hy2 : ∃ b, y = .bl b := by
              simp only [List.mem_cons, List.not_mem_nil, or_false] at hy
              rcases hy with rfl | rfl | rfl <;> exact ⟨_, rfl⟩
            obtain ⟨b, rfl⟩ := hy2
            walk_at "ga"
            exact hR
          rw [List.map_cons, List.map_cons, List.map_cons, List.map_nil]
          walk_at "ga"
          refine .inl ?_
          walk_at "ga"
          refine ⟨⟨ho, hob⟩, ?_⟩
          simp only [o1, o2, o5]
          walk_at "ga"
          refine ⟨qk, [.bl true, .bl false, .bl false], .bl true, 0, .bl true, rfl, rfl, by walk_at "sq", rfl, rfl, rfl, rfl, fun m z hm _ => absurd hm (Nat.not_lt_zero m), ?_⟩
          refine g_ixL (by walk_at "sq") (by rfl) ?_
          walk_at "ga"
          exact ⟨_, _, _, _, _, rfl, sm.trans (by walk_at "sm")⟩
        · have o1 : decide (o % 6 = 1 ∨ o % 6 = 3) = false := decide_eq_false (by omega)
          have o2 : decide (o % 2 = 0) = false := decide_eq_false (by omega)
          have o5 : decide (o % 6 = 5) = true := decide_eq_true (by omega)
          walk_at "ga"
          refine ⟨⟨ho, hob⟩, ?_⟩
          walk_at "ga"
          refine ⟨⟨ho, hob⟩, ?_⟩
          walk_at "ga"
          refine ⟨⟨ho, hob⟩, ?_⟩
          simp only [o1, o2, o5]
          walk_at "g"
          refine fun q3 n3 => ?_
          walk_at "g"
          refine ⟨_, rfl, ⟨_, SqL.of upd_same⟩, fun D nD => lc_map (xs := [.bl false, .bl false, .bl true]) (fun _ => .bl true) nD (SqL.of upd_same) (fun _ => rfl) (fun y H' hy _ R hR => ?_) (by decide) ?_⟩
          · have hy2 : ∃ b, y = .bl b := by
              simp only [List.mem_cons, List.not_mem_nil, or_false] at hy
              rcases hy with rfl | rfl | rfl <;> exact ⟨_, rfl⟩
            obtain ⟨b, rfl⟩ := hy2
            walk_at "ga"
            exact hR
          rw [List.map_cons, List.map_cons, List.map_cons, List.map_nil]
          walk_at "ga"
          refine .inl ?_
          walk_at "ga"
          refine ⟨⟨ho, hob⟩, ?_⟩
          simp only [o1, o2, o5]
          walk_at "ga"
          refine ⟨qk, [.bl true, .bl false, .bl false], .bl true, 0, .bl true, rfl, rfl, by walk_at "sq", rfl, rfl, rfl, rfl, fun m z hm _ => absurd hm (Nat.not_lt_zero m), ?_⟩
          refine g_ixL (by walk_at "sq") (by rfl) ?_
          walk_at "ga"
          exact ⟨_, _, _, _, _, rfl, sm.trans (by walk_at "sm")⟩
        · have o1 : decide (o % 6 = 1 ∨ o % 6 = 3) = true := decide_eq_true (by omega)
          have o2 : decide (o % 2 = 0) = false := decide_eq_false (by omega)
          have o5 : decide (o % 6 = 5) = false := decide_eq_false (by omega)
          walk_at "ga"
          refine ⟨⟨ho, hob⟩, ?_⟩
          walk_at "ga"
          refine ⟨⟨ho, hob⟩, ?_⟩
          walk_at "ga"
          refine ⟨⟨ho, hob⟩, ?_⟩
          simp only [o1, o2, o5]
          walk_at "g"
          refine fun q3 n3 => ?_
          walk_at "g"
          refine ⟨_, rfl, ⟨_, SqL.of upd_same⟩, fun D nD => lc_map (xs := [.bl true, .bl false, .bl false]) (fun _ => .bl true) nD (SqL.of upd_same) (fun _ => rfl) (fun y H' hy _ R hR => ?_) (by decide) ?_⟩
          · have hy2 : ∃ b, y = .bl b := by
              simp only [List.mem_cons, List.not_mem_nil, or_false] at hy
              rcases hy with rfl | rfl | rfl <;> exact ⟨_, rfl⟩
            obtain ⟨b, rfl⟩ := hy2
            walk_at "ga"
            exact hR
          rw [List.map_cons, List.map_cons, List.map_cons, List.map_nil]
          walk_at "ga"
          refine .inl ?_
          walk_at "ga"
          refine ⟨⟨ho, hob⟩, ?_⟩
          simp only [o1, o2, o5]
          walk_at "ga"
          refine ⟨qk, [.bl true, .bl false, .bl false], .bl true, 0, .bl true, rfl, rfl, by walk_at "sq", rfl, rfl, rfl, rfl, fun m z hm _ => absurd hm (Nat.not_lt_zero m), ?_⟩
          refine g_ixL (by walk_at "sq") (by rfl) ?_
          walk_at "ga"
          exact ⟨_, _, _, _, _, rfl, sm.trans (by walk_at "sm")⟩
      · subst e
        walk_at "g"
        exact h _ (hs0.trans sm)
theorem few_can {k : Int} (h0 : 0 ≤ k) (h : k < 9) : ∃ m, atI [V.int 3, V.int 7, V.int 9, V.int 13, V.int 15, V.int 19, V.int 21, V.int 25, V.int 27] k = some (.int m) ∧ Can m ∧ 1 < m ∧ m ≤ 27 := by
  have e : k = 0 ∨ k = 1 ∨ k = 2 ∨ k = 3 ∨ k = 4 ∨ k = 5 ∨ k = 6 ∨ k = 7 ∨ k = 8 := by omega
  unfold Can
  rcases e with rfl | rfl | rfl | rfl | rfl | rfl | rfl | rfl | rfl
  · exact ⟨3, rfl, by decide⟩
  · exact ⟨7, rfl, by decide⟩
  · exact ⟨9, rfl, by decide⟩
  · exact ⟨13, rfl, by decide⟩
  · exact ⟨15, rfl, by decide⟩
  · exact ⟨19, rfl, by decide⟩
  · exact ⟨21, rfl, by decide⟩
  · exact ⟨25, rfl, by decide⟩
  · exact ⟨27, rfl, by decide⟩
theorem great_bits {p : Int} (h0 : 0 ≤ p) (h : p ≤ 6 * 10 ^ 39 + 3) : Bt 3990 p := ((Bt.iff (n := 200)).mpr (Nat.lt_of_le_of_lt (m := 6 * 10 ^ 39 + 3) (by omega) (by decide))).mono (by decide)
theorem at_pred {ns : List Int} {i : Int} (h0 : 0 ≤ i) (h : i < ns.length) : ∃ v, atI ns (i - 1) = some v ∧ v ∈ ns := by
  by_cases e : i = 0
  · subst e; exact atI_neg1 (by omega)
  · exact atI_lt (by omega) (by omega)
def sp_law (K : PySem.W.Frag) (c : Cs) : Sp := fun vs H Q _ => match vs with | [.ref a] => ∃ ns : List Int, ScriptAt K H a ns ∧ (∀ H', Q (.bl true) H') | _ => False
theorem u_law {K : PySem.W.Frag} {c : Cs} {H : Hp} {Q : VK} {E : XK} {a : Addr} (h : ∃ ns : List Int, ScriptAt K H a ns ∧ (∀ H', Q (.bl true) H')) : sp_law K c [.ref a] H Q E := h
local macro_rules | `(tactic| walk_at "u") => `(tactic| with_reducible refine u_law ?_)
set_option maxHeartbeats 4000000 in
theorem d_law {P : Program} {w : World} {K : PySem.W.Frag} {mg : PySem.Str → Option Value} {base : Heap} {c : Cs} (T : Top K mg c) {f : Addr} {fd : FuncData} (F : Fun K "law" "law" s_law f fd) : FnOk P w K mg base CX0 6 f fd ["_law_script"] (sp_law K c) := by
  have c__law_great := d__law_great (P := P) (w := w) (base := base) T
  have c__law_can_right := d__law_can_right (P := P) (w := w) (base := base) T
  have c__law_number := d__law_number (P := P) (w := w) (base := base) T
  have c__law_pair_right := d__law_pair_right (P := P) (w := w) (base := base) T
  refine F.ok sc_law (fun vs H Q E h => ?_) (fun cdv A outer s H vs Q E hr h => ?_)
  · unfold sp_law at h; split at h
    · rfl
    · exact h.elim
  · unfold sp_law at h; split at h
    case h_2 => exact h.elim
    rename_i a
    obtain ⟨ns, S, h⟩ := h
    have hl := S.len
    have hsum := S.sum
    refine ⟨_, (pss_cons (ps_set (i := 1) sc_law.nd rfl (.inl rfl) (pe_callB (k_sum (K := K) rfl rfl) (by rfl) T.z_sum (by decide +kernel) (pa_cons (pe_slice (k_slL (K := K) rfl) (pv 0) po_none (po_some pe_int)) pa_nil)))
      (pss_cons (ps_for PassesOwn.never rfl (pi_range1 (by rfl) T.z_range (pa_cons (pe_callB (call_min2I rfl) (by rfl) T.z_min (by decide +kernel) (pa_cons pe_int (pa_cons (pe_callB (k_len (K := K) rfl) (by rfl) T.z_len (by decide +kernel) (pa_cons (pv 0) pa_nil)) pa_nil))) pa_nil)) (pg_name (i := 2) sc_law.nd rfl (.inl rfl))
      (pss_cons (ps_set (i := 3) sc_law.nd rfl (.inl rfl) (pe_fn c__law_great hr (by rfl) pass0 (pa_cons (pv 0) (pa_cons (pv 2) pa_nil))))
      (C8.pss_cut (ps_if (pt_cmpR op_gt (pv 3) pe_int (nomark _))
      (pss_cons (ps_set (i := 4) sc_law.nd rfl (.inl rfl) (pe_op op_mod (pe_fn c__law_number hr (by rfl) pass0 (pa_cons (pe_ix (k_ixL (K := K) rfl) (pv 0) (pe_op op_sub (pv 2) pe_int) (fun _ _ => rfl)) (pa_cons (pe_op op_add (pv 2) pe_int) (pa_cons (pv 1) pa_nil)))) (pv 3)))
      (pss_cons (ps_set (i := 5) sc_law.nd rfl (.inl rfl) (pe_op op_mod (pe_op op_fdivB (pe_fn c__law_number hr (by rfl) pass0 (pa_cons (pe_ix (k_ixL (K := K) rfl) (pv 0) (pe_op op_fdivB (pv 2) pe_int) (fun _ _ => rfl)) (pa_cons (pe_op op_add (pv 2) pe_int) (pa_cons (pv 1) pa_nil)))) pe_int) (pv 3)))
      (pss_cons (ps_set (i := 6) sc_law.nd rfl (.inl rfl) (pe_lst (pa_cons (pe_tup (pa_cons (pv 4) (pa_cons (pv 5) pa_nil))) (pa_cons (pe_tup (pa_cons (pv 4) (pa_cons (pe_op op_sub (pv 3) pe_int) pa_nil))) (pa_cons (pe_tup (pa_cons pe_int (pa_cons (pe_op op_sub (pe_op op_sub (pv 3) pe_int) (pv 4)) pa_nil))) (pa_cons (pe_tup (pa_cons (pv 4) (pa_cons (pe_op op_mod (pe_op op_add (pv 4) (pe_op op_fdivB (pv 3) pe_int)) (pv 3)) pa_nil))) pa_nil))))))
      (pss_one (ps_for PassesOwn.never rfl (k_plist (K := K) rfl (pe_slice (k_slL (K := K) rfl) (pv 6) po_none (po_some (pe_ifExp (pt_cmpR op_lt (pv 2) pe_int (nomark _)) pe_int pe_int)))) (k_gtup (K := K) rfl rfl (pgs_cons (pg_name (i := 7) sc_law.nd rfl (.inl rfl)) (pgs_cons (pg_name (i := 8) sc_law.nd rfl (.inl rfl)) pgs_nil)))
      (pss_one (ps_if (PW.pt (pw_and (pt_cmpR op_neI (pv 7) (pv 8) (nomark _)) (pw_and1 (pt_not (pt_val (pe_fn c__law_pair_right hr (by rfl) pass0 (pa_cons (pv 3) (pa_cons (pv 7) (pa_cons (pv 8) pa_nil)))))))))
      (pss_one (ps_ret pe_bl))
      pss_nil)))))))
      pss_nil)
      (pss_one (ps_if (PW.pt (pw_and (pt_cmpR op_lt (pv 2) pe_int (nomark _)) (pw_and1 (pt_not (pt_val (pe_fn c__law_can_right hr (by rfl) pass0 (pa_cons (pe_callB (call_max2I rfl) (by rfl) T.z_max (by decide +kernel) (pa_cons pe_int (pa_cons (pe_op op_sub (pv 3) (pv 2)) pa_nil))) pa_nil)))))))
      (pss_one (ps_ret pe_bl))
      pss_nil)))))
      (pss_cons (ps_set (i := 9) sc_law.nd rfl (.inl rfl) (pe_ix (k_ixT (K := K) rfl) (pe_tup (pa_cons pe_int (pa_cons pe_int (pa_cons pe_int (pa_cons pe_int (pa_cons pe_int (pa_cons pe_int (pa_cons pe_int (pa_cons pe_int (pa_cons pe_int pa_nil)))))))))) (pe_op op_mod (pv 1) pe_int) (fun _ _ => rfl)))
      (C8.pss_cut (ps_if (pt_cmpR op_eqI (pe_op op_mod (pe_op op_fdivB (pv 1) pe_int) pe_int) pe_int (nomark _))
      (pss_one (ps_for PassesOwn.never rfl (pi_range1 (by rfl) T.z_range (pa_cons (pv 9) pa_nil)) (pg_name (i := 5) sc_law.nd rfl (.inl rfl))
      (pss_one (ps_for PassesOwn.never rfl (pi_range1 (by rfl) T.z_range (pa_cons (pv 5) pa_nil)) (pg_name (i := 4) sc_law.nd rfl (.inl rfl))
      (pss_one (ps_if (pt_not (pt_val (pe_fn c__law_pair_right hr (by rfl) pass0 (pa_cons (pv 9) (pa_cons (pv 4) (pa_cons (pv 5) pa_nil))))))
      (pss_one (ps_ret pe_bl))
      pss_nil))))))
      pss_nil)
      (pss_one (ps_ret (pe_callB (k_all (K := K) rfl rfl) (by rfl) T.z_all (by decide +kernel) (pa_cons (pe_lc (own := [("_law_people", 3)]) (g := (gName 3)) (tt := tYes) rfl sc_law.nd (pi_rangeA (by rfl) T.z_range (pa_cons pe_int (pa_cons pe_int pa_nil))) (blkOk_by (own := [("_law_people", 3)]) (N := ["_law_script", "_law_whole_here", "_law_at", "_law_people", "_law_one", "_law_other", "_law_pairs", "_law_near", "_law_far", "_law_few"]) (sc := defScope s_law) (by decide +kernel)) (fun _ _ _ _ _ => (pg_name (i := 3) sc_law.nd rfl (.inl rfl))) (fun _ _ _ _ _ => pts_nil) (fun _ _ _ _ _ => (pe_fn c__law_can_right hr (by rfl) pass0 (pa_cons (pv 3) pa_nil)))) pa_nil)))))))), start_eq (σ := [some (.ref a), none, none, none, none, none, none, none, none, none]) rfl ?_⟩
    walk_at "g"
    refine g_slL S.sq ?_
    intro q0 nq0
    rw [S.cut]
    walk_at "g"
    refine g_sum (SqL.of upd_same) ?_
    walk_at "g"
    refine g_len (sq_new nq0 S.sq) ?_
    rw [List.length_map]
    walk_at "g"
    refine ⟨by omega, by omega, ?_⟩
    have S1 := S.same (same_new (o := .lst (ns.map V.int)) nq0)
    generalize upd H q0 (.lst (ns.map V.int)) = H1 at *
    refine for_range (lo := 0) (fun i σ H2 => ∃ y2 y3 y4 y5 y6 y7 y8 y9, σ = [some (.ref a), some (.int ns.sum), y2, y3, y4, y5, y6, y7, y8, y9] ∧ Same H1 H2) ⟨_, _, _, _, _, _, _, _, rfl, Same.refl _⟩ (fun i σ H2 hi ⟨y2, y3, y4, y5, y6, y7, y8, y9, e, sm⟩ => ?_) (fun σ H2 ⟨y2, y3, y4, y5, y6, y7, y8, y9, e, sm⟩ => ?_)
    · subst e
      have S2 := S1.same sm
      rw [Int.zero_add]
      have hi2 : (i : Int) < ns.length := by omega
      have hi0 : (0 : Int) ≤ i := by omega
      walk_at "g"
      refine ⟨ns, S2, ⟨hi0, hi2⟩, fun H3 p s3 hc hp => ?_⟩
      have hp1 := hc.1
      have hpb : Bt 3990 p := great_bits (by omega) hp
      have S3 := S2.same s3
      walk_at "g"
      refine ⟨fun σ' H' => ∃ z4 z5 z6 z7 z8, σ' = [some (.ref a), some (.int ns.sum), some (.int i), some (.int p), z4, z5, z6, z7, z8, y9] ∧ Same H3 H', ?use, ?rest⟩
      case use =>
        walk_at "g"
        refine ifD (fun c1 => ?_) (fun c1 => ?_)
        · obtain ⟨v1, hv1, m1⟩ := at_pred hi0 hi2
          obtain ⟨v2, hv2, m2⟩ := atI_lt (xs := ns) (i := (i : Int) / 2) (by omega) (by omega)
          walk_at "g"
          refine g_ixL S3.sq (atI_map V.int hv1) ?_
          walk_at "g"
          refine ⟨⟨(S.bits v1 m1).mono (by decide), by omega, by omega, hsum⟩, fun r1 hr1 => ?_⟩
          walk_at "g"
          refine g_ixL S3.sq (atI_map V.int hv2) ?_
          walk_at "g"
          refine ⟨⟨(S.bits v2 m2).mono (by decide), by omega, by omega, hsum⟩, fun r2 hr2 => ?_⟩
          have b1 := emod_bounds r1 (b := p) (by omega)
          have b2 := emod_bounds (r2 / 3) (b := p) (by omega)
          have b3 := emod_bounds (r1 % p + p / 3) (b := p) (by omega)
          walk_at "g"
          generalize r1 % p = u1 at *
          generalize r2 / 3 % p = u2 at *
          intro t1 n1
          walk_at "g"
          intro t2 n2
          walk_at "g"
          intro t3 n3
          walk_at "g"
          intro t4 n4
          walk_at "g"
          intro pl npl
          walk_at "g"
          have mem4 : ∀ x ∈ [V.ref t1, V.ref t2, V.ref t3, V.ref t4], ∃ t u v, x = .ref t ∧ (upd (upd (upd (upd (upd H3 t1 (.tup [.int u1, .int u2])) t2 (.tup [.int u1, .int (p - 1)])) t3 (.tup [.int 0, .int (p - 1 - u1)])) t4 (.tup [.int u1, .int ((u1 + p / 3) % p)])) pl (.lst [.ref t1, .ref t2, .ref t3, .ref t4])) t = some (.tup [.int u, .int v]) ∧ 0 ≤ u ∧ u < p ∧ 0 ≤ v ∧ v < p := by
            intro x hx
            simp only [List.mem_cons, List.not_mem_nil, or_false] at hx
            rcases hx with rfl | rfl | rfl | rfl
            · exact ⟨t1, u1, u2, rfl, by walk_at "at", by omega, by omega, by omega, by omega⟩
            · exact ⟨t2, u1, p - 1, rfl, by walk_at "at", by omega, by omega, by omega, by omega⟩
            · exact ⟨t3, 0, p - 1 - u1, rfl, by walk_at "at", by omega, by omega, by omega, by omega⟩
            · exact ⟨t4, u1, (u1 + p / 3) % p, rfl, by walk_at "at", by omega, by omega, by omega, by omega⟩
          have s5 : Same H3 (upd (upd (upd (upd (upd H3 t1 (.tup [.int u1, .int u2])) t2 (.tup [.int u1, .int (p - 1)])) t3 (.tup [.int 0, .int (p - 1 - u1)])) t4 (.tup [.int u1, .int ((u1 + p / 3) % p)])) pl (.lst [.ref t1, .ref t2, .ref t3, .ref t4])) := by walk_at "sm"
          have epl : (upd (upd (upd (upd (upd H3 t1 (.tup [.int u1, .int u2])) t2 (.tup [.int u1, .int (p - 1)])) t3 (.tup [.int 0, .int (p - 1 - u1)])) t4 (.tup [.int u1, .int ((u1 + p / 3) % p)])) pl (.lst [.ref t1, .ref t2, .ref t3, .ref t4])) pl = some (.lst [.ref t1, .ref t2, .ref t3, .ref t4]) := upd_same
          generalize upd (upd (upd (upd (upd H3 t1 (.tup [.int u1, .int u2])) t2 (.tup [.int u1, .int (p - 1)])) t3 (.tup [.int 0, .int (p - 1 - u1)])) t4 (.tup [.int u1, .int ((u1 + p / 3) % p)])) pl (.lst [.ref t1, .ref t2, .ref t3, .ref t4]) = H5 at *
          refine g_ifCC ?_
          generalize (if (i : Int) < 9 then (4 : Int) else 1) = k
          walk_at "g"
          refine g_slL (SqL.of epl) ?_
          intro sl nsl
          refine ⟨_, rfl, ⟨_, SqL.of upd_same⟩, ?_⟩
          have s6 := same_new (o := .lst (cutV [V.ref t1, V.ref t2, V.ref t3, V.ref t4] none (some k))) nsl
          refine for_list (xs := cutV [V.ref t1, V.ref t2, V.ref t3, V.ref t4] none (some k)) (fun _ σ H6 => ∃ z7 z8, σ = [some (.ref a), some (.int ns.sum), some (.int i), some (.int p), some (.int u1), some (.int u2), some (.ref pl), z7, z8, y9] ∧ Same (upd H5 sl (.lst (cutV [V.ref t1, V.ref t2, V.ref t3, V.ref t4] none (some k)))) H6) ⟨_, _, rfl, Same.refl _⟩ (fun _ σ H6 _ ⟨_, _, _, s7⟩ => s7.seq (SqL.of upd_same)) (fun j x σ H6 hx ⟨z7, z8, e7, s7⟩ => ?_) (fun σ H6 ⟨z7, z8, e7, s7⟩ => ?_)
          · subst e7
            obtain ⟨t, u, v, rfl, ht, k1, k2, k3, k4⟩ := mem4 x (mem_cut (List.mem_of_getElem? hx))
            have ht6 := s7 _ _ (s6 _ _ ht)
            refine g_gtup (SqT.of ht6) rfl ?_
            walk_at "g"
            refine ifND (fun c2 => ?_) (fun c2 => ?_)
            · walk_at "g"
              refine ⟨⟨hc, by omega, hpb.mono (by decide), k1, k2, k3, k4, c2⟩, fun H7 s8 => ?_⟩
              walk_at "g"
              exact ⟨_, _, rfl, s7.trans s8⟩
            · walk_at "g"
              exact ⟨_, _, rfl, s7⟩
          · subst e7
            exact ⟨_, _, _, _, _, rfl, s5.trans (s6.trans s7)⟩
        · walk_at "g"
          exact ⟨_, _, _, _, _, rfl, Same.refl _⟩
      rintro σ' H4 ⟨z4, z5, z6, z7, z8, rfl, s4⟩
      walk_at "g"
      refine ifD (fun c9 => ?_) (fun c9 => ?_)
      · walk_at "g"
        refine ⟨⟨by omega, Bt.le (by omega) (by omega) hpb⟩, fun H5 s5 => ?_⟩
        walk_at "g"
        exact ⟨_, _, _, _, _, _, _, _, rfl, sm.trans (s3.trans (s4.trans s5))⟩
      · walk_at "g"
        exact ⟨_, _, _, _, _, _, _, _, rfl, sm.trans (s3.trans s4)⟩
    · subst e
      walk_at "g"
      intro q9 nq9
      walk_at "g"
      obtain ⟨m, hm, hc, hm1, hm27⟩ := few_can (emod_bounds ns.sum (b := 9) (by decide)).1 (emod_bounds ns.sum (b := 9) (by decide)).2
      refine g_ixT (SqT.of upd_same) hm ?_
      walk_at "g"
      have hmb : Bt 4000 m := (Bt.small (by omega)).mono (by decide)
      refine ⟨fun σ' H' => ∃ z4 z5, σ' = [some (.ref a), some (.int ns.sum), y2, y3, z4, z5, y6, y7, y8, some (.int m)], ?use3, ?rest3⟩
      case use3 =>
        walk_at "g"
        refine ifD (fun c1 => ?_) (fun c1 => ?_)
        · walk_at "g"
          refine ⟨by omega, by omega, ?_⟩
          refine for_range (lo := 0) (fun _ σ H6 => ∃ z4 z5, σ = [some (.ref a), some (.int ns.sum), y2, y3, z4, z5, y6, y7, y8, some (.int m)]) ⟨_, _, rfl⟩ (fun j σ H6 hj ⟨z4, z5, e⟩ => ?_) (fun σ H6 ⟨z4, z5, e⟩ => ?_)
          · subst e
            rw [Int.zero_add]
            walk_at "g"
            refine ⟨by omega, by omega, ?_⟩
            refine for_range (lo := 0) (fun _ σ H6 => ∃ z4, σ = [some (.ref a), some (.int ns.sum), y2, y3, z4, some (.int j), y6, y7, y8, some (.int m)]) ⟨_, rfl⟩ (fun j2 σ H6 hj2 ⟨z4, e⟩ => ?_) (fun σ H6 ⟨z4, e⟩ => ?_)
            · subst e
              rw [Int.zero_add]
              walk_at "g"
              refine ⟨⟨hc, hm1, hmb, by omega, by omega, by omega, by omega, by omega⟩, fun H7 s7 => ?_⟩
              walk_at "g"
              exact ⟨_, rfl⟩
            · subst e
              exact ⟨_, _, rfl⟩
          · subst e
            exact ⟨_, _, rfl⟩
        · walk_at "g"
          exact ⟨_, _, rfl⟩
      rintro σ' H4 ⟨z4, z5, rfl⟩
      walk_at "g"
      intro D nD
      refine lc_growR (n := (7 - 1 : Int).toNat) (lo := 1) (fun _ v _ => v = .bl true) nD (fun _ => rfl) (fun _ _ _ _ _ _ r => r) (fun j H5 hj s5 _ T hT => ?_) (by decide) (fun ys H5 s5 e5 l5 r5 => ?_)
      · have hj6 : j < 6 := hj
        walk_at "g"
        refine ⟨⟨by omega, (Bt.small (by omega)).mono (by decide)⟩, fun H6 s6 => hT _ _ s6 rfl⟩
      · have ey : ys = [true, true, true, true, true, true].map V.bl := by
          refine List.ext_getElem? fun j => ?_
          by_cases hj : j < 6
          · have hj' : j < ys.length := by omega
            have e1 : ys[j]? = some ys[j] := List.getElem?_eq_getElem hj'
            rw [e1, r5 j _ e1]
            have q : j = 0 ∨ j = 1 ∨ j = 2 ∨ j = 3 ∨ j = 4 ∨ j = 5 := by omega
            rcases q with rfl | rfl | rfl | rfl | rfl | rfl <;> rfl
          · rw [List.getElem?_eq_none (by rw [l5]; show 6 ≤ j; omega), List.getElem?_eq_none (by simp; omega)]
        subst ey
        walk_at "g"
        refine g_all (SqL.of e5) ?_
        exact h _
def cs0 : Cs := ⟨0, 0, 0, 0, 0, 0, 0, 0, 0, 0, 0, 0, 0⟩
theorem all_mk {P : Program} {w : World} {K : PySem.W.Frag} {mg : PySem.Str → Option Value} {fa : Addr} {c : Cs} (hfa : mg "law" = some (.ref fa)) (T : Top K mg c) :
    ∃ fd : FuncData, (∀ (s : Shared) (v : Value), BindsTo s fd ⟨[v], []⟩ [("_law_script", v)]) ∧ ∀ base : Heap, K.In base → base.Ns mainGlobals mg → FnOk P w K mg base CX0 6 fa fd ["_law_script"] (sp_law K cs0) := by
  obtain ⟨f, fd, F, m⟩ := T.f_law.ex
  have e := hfa.symm.trans m
  cases e
  have F0 := F
  obtain ⟨⟨oc, od, kV, doc, pm, an, cdv, ct, osl, rfl, lk, hcd⟩, kp⟩ := F
  exact ⟨_, fun s v => .of_eq rfl, fun base _ _ => d_law T F0⟩
theorem top_mk {K : PySem.W.Frag} {mg : PySem.Str → Option Value} {cAnswer cCan cUnpaired cUnshared cPlan cApart cTwice cThreeError cBadPeople cBadPerson cBadThrees cBadNumber cNoPlan : Addr}
    (f_is_number : Dfn K mg "is_number" s_is_number)
    (f_check_people : Dfn K mg "check_people" s_check_people)
    (f_is_even : Dfn K mg "is_even" s_is_even)
    (f_is_unshared : Dfn K mg "is_unshared" s_is_unshared)
    (f_times_together : Dfn K mg "times_together" s_times_together)
    (f_is_plan : Dfn K mg "is_plan" s_is_plan)
    (f_wide_of : Dfn K mg "wide_of" s_wide_of)
    (f_met : Dfn K mg "met" s_met)
    (f_meets : Dfn K mg "meets" s_meets)
    (f_third_of : Dfn K mg "third_of" s_third_of)
    (f_can : Dfn K mg "can" s_can)
    (f_check_plan : Dfn K mg "check_plan" s_check_plan)
    (f_third : Dfn K mg "third" s_third)
    (f__law_number : Dfn K mg "_law_number" s__law_number)
    (f__law_whole : Dfn K mg "_law_whole" s__law_whole)
    (f__law_great : Dfn K mg "_law_great" s__law_great)
    (f__law_pair_right : Dfn K mg "_law_pair_right" s__law_pair_right)
    (f__law_can_right : Dfn K mg "_law_can_right" s__law_can_right)
    (f_law : Dfn K mg "law" s_law)
    (z_isinstance : mg "isinstance" = none)
    (z_min : mg "min" = none)
    (z_max : mg "max" = none)
    (z_len : mg "len" = none)
    (z_sum : mg "sum" = none)
    (z_range : mg "range" = none)
    (z_all : mg "all" = none)
    (z_any : mg "any" = none)
    (z_int : mg "int" = none)
    (z_bool : mg "bool" = none)
    (mg_Answer : mg "Answer" = some (.ref cAnswer))
    (cf_Answer : CF K cAnswer)
    (mk_Answer : MkO K cAnswer)
    (mg_Can : mg "Can" = some (.ref cCan))
    (cf_Can : CF K cCan)
    (mk_Can : MkO K cCan)
    (m_Can_shows : Mfn K cCan "shows" "Can.shows" s_Can_shows)
    (mg_Unpaired : mg "Unpaired" = some (.ref cUnpaired))
    (cf_Unpaired : CF K cUnpaired)
    (mk_Unpaired : MkO K cUnpaired)
    (m_Unpaired_shows : Mfn K cUnpaired "shows" "Unpaired.shows" s_Unpaired_shows)
    (mg_Unshared : mg "Unshared" = some (.ref cUnshared))
    (cf_Unshared : CF K cUnshared)
    (mk_Unshared : MkO K cUnshared)
    (m_Unshared_shows : Mfn K cUnshared "shows" "Unshared.shows" s_Unshared_shows)
    (mg_Plan : mg "Plan" = some (.ref cPlan))
    (cf_Plan : CF K cPlan)
    (mk_Plan : MkO K cPlan)
    (m_Plan_shows : Mfn K cPlan "shows" "Plan.shows" s_Plan_shows)
    (mg_Apart : mg "Apart" = some (.ref cApart))
    (cf_Apart : CF K cApart)
    (mi_Apart : MkI K cApart "Apart.__init__" s_Apart_init)
    (m_Apart_shows : Mfn K cApart "shows" "Apart.shows" s_Apart_shows)
    (mg_Twice : mg "Twice" = some (.ref cTwice))
    (cf_Twice : CF K cTwice)
    (mi_Twice : MkI K cTwice "Twice.__init__" s_Twice_init)
    (m_Twice_shows : Mfn K cTwice "shows" "Twice.shows" s_Twice_shows)
    (kit_Can_Can : PySem.W.kitOne K (.ref cCan) (.ref cCan) = some true)
    (kit_Can_Unpaired : PySem.W.kitOne K (.ref cCan) (.ref cUnpaired) = some false)
    (kit_Can_Unshared : PySem.W.kitOne K (.ref cCan) (.ref cUnshared) = some false)
    (kit_Can_Plan : PySem.W.kitOne K (.ref cCan) (.ref cPlan) = some false)
    (kit_Can_Apart : PySem.W.kitOne K (.ref cCan) (.ref cApart) = some false)
    (kit_Can_Twice : PySem.W.kitOne K (.ref cCan) (.ref cTwice) = some false)
    (kit_Can_Answer : PySem.W.kitOne K (.ref cCan) (.ref cAnswer) = some true)
    (kit_Unpaired_Can : PySem.W.kitOne K (.ref cUnpaired) (.ref cCan) = some false)
    (kit_Unpaired_Unpaired : PySem.W.kitOne K (.ref cUnpaired) (.ref cUnpaired) = some true)
    (kit_Unpaired_Unshared : PySem.W.kitOne K (.ref cUnpaired) (.ref cUnshared) = some false)
    (kit_Unpaired_Plan : PySem.W.kitOne K (.ref cUnpaired) (.ref cPlan) = some false)
    (kit_Unpaired_Apart : PySem.W.kitOne K (.ref cUnpaired) (.ref cApart) = some false)
    (kit_Unpaired_Twice : PySem.W.kitOne K (.ref cUnpaired) (.ref cTwice) = some false)
    (kit_Unpaired_Answer : PySem.W.kitOne K (.ref cUnpaired) (.ref cAnswer) = some true)
    (kit_Unshared_Can : PySem.W.kitOne K (.ref cUnshared) (.ref cCan) = some false)
    (kit_Unshared_Unpaired : PySem.W.kitOne K (.ref cUnshared) (.ref cUnpaired) = some false)
    (kit_Unshared_Unshared : PySem.W.kitOne K (.ref cUnshared) (.ref cUnshared) = some true)
    (kit_Unshared_Plan : PySem.W.kitOne K (.ref cUnshared) (.ref cPlan) = some false)
    (kit_Unshared_Apart : PySem.W.kitOne K (.ref cUnshared) (.ref cApart) = some false)
    (kit_Unshared_Twice : PySem.W.kitOne K (.ref cUnshared) (.ref cTwice) = some false)
    (kit_Unshared_Answer : PySem.W.kitOne K (.ref cUnshared) (.ref cAnswer) = some true)
    : Top K mg ⟨cAnswer, cCan, cUnpaired, cUnshared, cPlan, cApart, cTwice, cThreeError, cBadPeople, cBadPerson, cBadThrees, cBadNumber, cNoPlan⟩ := ⟨f_is_number, f_check_people, f_is_even, f_is_unshared, f_times_together, f_is_plan, f_wide_of, f_met, f_meets, f_third_of, f_can, f_check_plan, f_third, f__law_number, f__law_whole, f__law_great, f__law_pair_right, f__law_can_right, f_law, z_isinstance, z_min, z_max, z_len, z_sum, z_range, z_all, z_any, z_int, z_bool, mg_Answer, cf_Answer, mk_Answer, mg_Can, cf_Can, mk_Can, m_Can_shows, mg_Unpaired, cf_Unpaired, mk_Unpaired, m_Unpaired_shows, mg_Unshared, cf_Unshared, mk_Unshared, m_Unshared_shows, mg_Plan, cf_Plan, mk_Plan, m_Plan_shows, mg_Apart, cf_Apart, mi_Apart, m_Apart_shows, mg_Twice, cf_Twice, mi_Twice, m_Twice_shows, kit_Can_Can, kit_Can_Unpaired, kit_Can_Unshared, kit_Can_Plan, kit_Can_Apart, kit_Can_Twice, kit_Can_Answer, kit_Unpaired_Can, kit_Unpaired_Unpaired, kit_Unpaired_Unshared, kit_Unpaired_Plan, kit_Unpaired_Apart, kit_Unpaired_Twice, kit_Unpaired_Answer, kit_Unshared_Can, kit_Unshared_Unpaired, kit_Unshared_Unshared, kit_Unshared_Plan, kit_Unshared_Apart, kit_Unshared_Twice, kit_Unshared_Answer⟩
end G66
open PySem PySem.W PyProof.Rows
set_option maxHeartbeats 0 in
theorem PySem.Challenge.cw_pairthrees_k01_whole_thirds_holds : PySem.Challenge.rw_pairthrees_k01_whole_thirds.Holds := by
  w_on; o_law; k_head; (case hw => w_witness2)
  k_fill
  refine L2.walk_ofB (l := PySem.Challenge.rw_pairthrees_k01_whole_thirds) (n := 63) (k := 6) (x := "_law_script") (CX := fun _ => L2.CX0) (sp := fun w => G66.sp_law _ G66.cs0) rfl (by decide) rfl ⟨rfl, by decide, by decide⟩ (fun w h Y => PySem.W.kIn_of Y) ?F (fun w H a ns hl hb _ hS => ⟨ns, ⟨hS, hl, hb⟩, fun _ => rfl⟩) (fun _ _ _ _ _ h => h)
  case F =>
    intro w mg fa h KX G hmg
    refine' G66.all_mk hmg (G66.top_mk (cThreeError := 0) (cBadPeople := 0) (cBadPerson := 0) (cBadThrees := 0) (cBadNumber := 0) (cNoPlan := 0)
      (G66.dfn_mk KX G ?f_is_numbera ?f_is_numberl ?f_is_numberc ?f_is_numberk)
      (G66.dfn_mk KX G ?f_check_peoplea ?f_check_peoplel ?f_check_peoplec ?f_check_peoplek)
      (G66.dfn_mk KX G ?f_is_evena ?f_is_evenl ?f_is_evenc ?f_is_evenk)
      (G66.dfn_mk KX G ?f_is_unshareda ?f_is_unsharedl ?f_is_unsharedc ?f_is_unsharedk)
      (G66.dfn_mk KX G ?f_times_togethera ?f_times_togetherl ?f_times_togetherc ?f_times_togetherk)
      (G66.dfn_mk KX G ?f_is_plana ?f_is_planl ?f_is_planc ?f_is_plank)
      (G66.dfn_mk KX G ?f_wide_ofa ?f_wide_ofl ?f_wide_ofc ?f_wide_ofk)
      (G66.dfn_mk KX G ?f_meta ?f_metl ?f_metc ?f_metk)
      (G66.dfn_mk KX G ?f_meetsa ?f_meetsl ?f_meetsc ?f_meetsk)
      (G66.dfn_mk KX G ?f_third_ofa ?f_third_ofl ?f_third_ofc ?f_third_ofk)
      (G66.dfn_mk KX G ?f_cana ?f_canl ?f_canc ?f_cank)
      (G66.dfn_mk KX G ?f_check_plana ?f_check_planl ?f_check_planc ?f_check_plank)
      (G66.dfn_mk KX G ?f_thirda ?f_thirdl ?f_thirdc ?f_thirdk)
      (G66.dfn_mk KX G ?f__law_numbera ?f__law_numberl ?f__law_numberc ?f__law_numberk)
      (G66.dfn_mk KX G ?f__law_wholea ?f__law_wholel ?f__law_wholec ?f__law_wholek)
      (G66.dfn_mk KX G ?f__law_greata ?f__law_greatl ?f__law_greatc ?f__law_greatk)
      (G66.dfn_mk KX G ?f__law_pair_righta ?f__law_pair_rightl ?f__law_pair_rightc ?f__law_pair_rightk)
      (G66.dfn_mk KX G ?f__law_can_righta ?f__law_can_rightl ?f__law_can_rightc ?f__law_can_rightk)
      (G66.dfn_mk KX G ?f_lawa ?f_lawl ?f_lawc ?f_lawk)
      (PySem.W.mg_none_of KX G ?z_isinstancea)
      (PySem.W.mg_none_of KX G ?z_mina)
      (PySem.W.mg_none_of KX G ?z_maxa)
      (PySem.W.mg_none_of KX G ?z_lena)
      (PySem.W.mg_none_of KX G ?z_suma)
      (PySem.W.mg_none_of KX G ?z_rangea)
      (PySem.W.mg_none_of KX G ?z_alla)
      (PySem.W.mg_none_of KX G ?z_anya)
      (PySem.W.mg_none_of KX G ?z_inta)
      (PySem.W.mg_none_of KX G ?z_boola)
      (PySem.W.mg_of KX G ?mg_Answera)
      (⟨⟨?cf_Answera, ?cf_Answerb, ?cf_Answerc, ?cf_Answerd⟩, ?cf_Answere, ?cf_Answerf, ?cf_Answerg, ?cf_Answerh⟩)
      (⟨?mk_Answera, ?mk_Answerb, ?mk_Answerc⟩)
      (PySem.W.mg_of KX G ?mg_Cana)
      (⟨⟨?cf_Cana, ?cf_Canb, ?cf_Canc, ?cf_Cand⟩, ?cf_Cane, ?cf_Canf, ?cf_Cang, ?cf_Canh⟩)
      (⟨?mk_Cana, ?mk_Canb, ?mk_Canc⟩)
      (G66.mfn_mk ?m_Can_showsat ?m_Can_showsl ?m_Can_showsc ?m_Can_showsk ?m_Can_showsn)
      (PySem.W.mg_of KX G ?mg_Unpaireda)
      (⟨⟨?cf_Unpaireda, ?cf_Unpairedb, ?cf_Unpairedc, ?cf_Unpairedd⟩, ?cf_Unpairede, ?cf_Unpairedf, ?cf_Unpairedg, ?cf_Unpairedh⟩)
      (⟨?mk_Unpaireda, ?mk_Unpairedb, ?mk_Unpairedc⟩)
      (G66.mfn_mk ?m_Unpaired_showsat ?m_Unpaired_showsl ?m_Unpaired_showsc ?m_Unpaired_showsk ?m_Unpaired_showsn)
      (PySem.W.mg_of KX G ?mg_Unshareda)
      (⟨⟨?cf_Unshareda, ?cf_Unsharedb, ?cf_Unsharedc, ?cf_Unsharedd⟩, ?cf_Unsharede, ?cf_Unsharedf, ?cf_Unsharedg, ?cf_Unsharedh⟩)
      (⟨?mk_Unshareda, ?mk_Unsharedb, ?mk_Unsharedc⟩)
      (G66.mfn_mk ?m_Unshared_showsat ?m_Unshared_showsl ?m_Unshared_showsc ?m_Unshared_showsk ?m_Unshared_showsn)
      (PySem.W.mg_of KX G ?mg_Plana)
      (⟨⟨?cf_Plana, ?cf_Planb, ?cf_Planc, ?cf_Pland⟩, ?cf_Plane, ?cf_Planf, ?cf_Plang, ?cf_Planh⟩)
      (⟨?mk_Plana, ?mk_Planb, ?mk_Planc⟩)
      (G66.mfn_mk ?m_Plan_showsat ?m_Plan_showsl ?m_Plan_showsc ?m_Plan_showsk ?m_Plan_showsn)
      (PySem.W.mg_of KX G ?mg_Aparta)
      (⟨⟨?cf_Aparta, ?cf_Apartb, ?cf_Apartc, ?cf_Apartd⟩, ?cf_Aparte, ?cf_Apartf, ?cf_Apartg, ?cf_Aparth⟩)
      (G66.mki_mk ?mi_Apartat ?mi_Apartl ?mi_Apartc ?mi_Apartk ?mi_Apartm ?mi_Apartn ?mi_Aparto)
      (G66.mfn_mk ?m_Apart_showsat ?m_Apart_showsl ?m_Apart_showsc ?m_Apart_showsk ?m_Apart_showsn)
      (PySem.W.mg_of KX G ?mg_Twicea)
      (⟨⟨?cf_Twicea, ?cf_Twiceb, ?cf_Twicec, ?cf_Twiced⟩, ?cf_Twicee, ?cf_Twicef, ?cf_Twiceg, ?cf_Twiceh⟩)
      (G66.mki_mk ?mi_Twiceat ?mi_Twicel ?mi_Twicec ?mi_Twicek ?mi_Twicem ?mi_Twicen ?mi_Twiceo)
      (G66.mfn_mk ?m_Twice_showsat ?m_Twice_showsl ?m_Twice_showsc ?m_Twice_showsk ?m_Twice_showsn)
      (G66.kit_mk ?kit_Can_Cana ?kit_Can_Canb ?kit_Can_Canc ?kit_Can_Cand)
      (G66.kit_mk ?kit_Can_Unpaireda ?kit_Can_Unpairedb ?kit_Can_Unpairedc ?kit_Can_Unpairedd)
      (G66.kit_mk ?kit_Can_Unshareda ?kit_Can_Unsharedb ?kit_Can_Unsharedc ?kit_Can_Unsharedd)
      (G66.kit_mk ?kit_Can_Plana ?kit_Can_Planb ?kit_Can_Planc ?kit_Can_Pland)
      (G66.kit_mk ?kit_Can_Aparta ?kit_Can_Apartb ?kit_Can_Apartc ?kit_Can_Apartd)
      (G66.kit_mk ?kit_Can_Twicea ?kit_Can_Twiceb ?kit_Can_Twicec ?kit_Can_Twiced)
      (G66.kit_mk ?kit_Can_Answera ?kit_Can_Answerb ?kit_Can_Answerc ?kit_Can_Answerd)
      (G66.kit_mk ?kit_Unpaired_Cana ?kit_Unpaired_Canb ?kit_Unpaired_Canc ?kit_Unpaired_Cand)
      (G66.kit_mk ?kit_Unpaired_Unpaireda ?kit_Unpaired_Unpairedb ?kit_Unpaired_Unpairedc ?kit_Unpaired_Unpairedd)
      (G66.kit_mk ?kit_Unpaired_Unshareda ?kit_Unpaired_Unsharedb ?kit_Unpaired_Unsharedc ?kit_Unpaired_Unsharedd)
      (G66.kit_mk ?kit_Unpaired_Plana ?kit_Unpaired_Planb ?kit_Unpaired_Planc ?kit_Unpaired_Pland)
      (G66.kit_mk ?kit_Unpaired_Aparta ?kit_Unpaired_Apartb ?kit_Unpaired_Apartc ?kit_Unpaired_Apartd)
      (G66.kit_mk ?kit_Unpaired_Twicea ?kit_Unpaired_Twiceb ?kit_Unpaired_Twicec ?kit_Unpaired_Twiced)
      (G66.kit_mk ?kit_Unpaired_Answera ?kit_Unpaired_Answerb ?kit_Unpaired_Answerc ?kit_Unpaired_Answerd)
      (G66.kit_mk ?kit_Unshared_Cana ?kit_Unshared_Canb ?kit_Unshared_Canc ?kit_Unshared_Cand)
      (G66.kit_mk ?kit_Unshared_Unpaireda ?kit_Unshared_Unpairedb ?kit_Unshared_Unpairedc ?kit_Unshared_Unpairedd)
      (G66.kit_mk ?kit_Unshared_Unshareda ?kit_Unshared_Unsharedb ?kit_Unshared_Unsharedc ?kit_Unshared_Unsharedd)
      (G66.kit_mk ?kit_Unshared_Plana ?kit_Unshared_Planb ?kit_Unshared_Planc ?kit_Unshared_Pland)
      (G66.kit_mk ?kit_Unshared_Aparta ?kit_Unshared_Apartb ?kit_Unshared_Apartc ?kit_Unshared_Apartd)
      (G66.kit_mk ?kit_Unshared_Twicea ?kit_Unshared_Twiceb ?kit_Unshared_Twicec ?kit_Unshared_Twiced)
      (G66.kit_mk ?kit_Unshared_Answera ?kit_Unshared_Answerb ?kit_Unshared_Answerc ?kit_Unshared_Answerd))
    (case f_is_numbera => k_is)
    (case f_is_numberl => k_is)
    (case f_is_numberc => k_is)
    (case f_is_numberk => k_is)
    (case f_check_peoplea => k_is)
    (case f_check_peoplel => k_is)
    (case f_check_peoplec => k_is)
    (case f_check_peoplek => k_is)
    (case f_is_evena => k_is)
    (case f_is_evenl => k_is)
    (case f_is_evenc => k_is)
    (case f_is_evenk => k_is)
    (case f_is_unshareda => k_is)
    (case f_is_unsharedl => k_is)
    (case f_is_unsharedc => k_is)
    (case f_is_unsharedk => k_is)
    (case f_times_togethera => k_is)
    (case f_times_togetherl => k_is)
    (case f_times_togetherc => k_is)
    (case f_times_togetherk => k_is)
    (case f_is_plana => k_is)
    (case f_is_planl => k_is)
    (case f_is_planc => k_is)
    (case f_is_plank => k_is)
    (case f_wide_ofa => k_is)
    (case f_wide_ofl => k_is)
    (case f_wide_ofc => k_is)
    (case f_wide_ofk => k_is)
    (case f_meta => k_is)
    (case f_metl => k_is)
    (case f_metc => k_is)
    (case f_metk => k_is)
    (case f_meetsa => k_is)
    (case f_meetsl => k_is)
    (case f_meetsc => k_is)
    (case f_meetsk => k_is)
    (case f_third_ofa => k_is)
    (case f_third_ofl => k_is)
    (case f_third_ofc => k_is)
    (case f_third_ofk => k_is)
    (case f_cana => k_is)
    (case f_canl => k_is)
    (case f_canc => k_is)
    (case f_cank => k_is)
    (case f_check_plana => k_is)
    (case f_check_planl => k_is)
    (case f_check_planc => k_is)
    (case f_check_plank => k_is)
    (case f_thirda => k_is)
    (case f_thirdl => k_is)
    (case f_thirdc => k_is)
    (case f_thirdk => k_is)
    (case f__law_numbera => k_is)
    (case f__law_numberl => k_is)
    (case f__law_numberc => k_is)
    (case f__law_numberk => k_is)
    (case f__law_wholea => k_is)
    (case f__law_wholel => k_is)
    (case f__law_wholec => k_is)
    (case f__law_wholek => k_is)
    (case f__law_greata => k_is)
    (case f__law_greatl => k_is)
    (case f__law_greatc => k_is)
    (case f__law_greatk => k_is)
    (case f__law_pair_righta => k_is)
    (case f__law_pair_rightl => k_is)
    (case f__law_pair_rightc => k_is)
    (case f__law_pair_rightk => k_is)
    (case f__law_can_righta => k_is)
    (case f__law_can_rightl => k_is)
    (case f__law_can_rightc => k_is)
    (case f__law_can_rightk => k_is)
    (case f_lawa => k_is)
    (case f_lawl => k_is)
    (case f_lawc => k_is)
    (case f_lawk => k_is)
    (case z_isinstancea => k_is)
    (case z_mina => k_is)
    (case z_maxa => k_is)
    (case z_lena => k_is)
    (case z_suma => k_is)
    (case z_rangea => k_is)
    (case z_alla => k_is)
    (case z_anya => k_is)
    (case z_inta => k_is)
    (case z_boola => k_is)
    (case mg_Answera => k_is)
    (case cf_Answera => k_is)
    (case cf_Answerb => k_is)
    (case cf_Answerc => k_is)
    (case cf_Answerd => k_is)
    (case cf_Answere => k_is)
    (case cf_Answerf => k_is)
    (case cf_Answerg => k_is)
    (case cf_Answerh => k_is)
    (case mk_Answera => k_is)
    (case mk_Answerb => k_is)
    (case mk_Answerc => k_is)
    (case mg_Cana => k_is)
    (case cf_Cana => k_is)
    (case cf_Canb => k_is)
    (case cf_Canc => k_is)
    (case cf_Cand => k_is)
    (case cf_Cane => k_is)
    (case cf_Canf => k_is)
    (case cf_Cang => k_is)
    (case cf_Canh => k_is)
    (case mk_Cana => k_is)
    (case mk_Canb => k_is)
    (case mk_Canc => k_is)
    (case m_Can_showsat => k_is)
    (case m_Can_showsl => k_is)
    (case m_Can_showsc => k_is)
    (case m_Can_showsk => k_is)
    (case m_Can_showsn => k_is)
    (case mg_Unpaireda => k_is)
    (case cf_Unpaireda => k_is)
    (case cf_Unpairedb => k_is)
    (case cf_Unpairedc => k_is)
    (case cf_Unpairedd => k_is)
    (case cf_Unpairede => k_is)
    (case cf_Unpairedf => k_is)
    (case cf_Unpairedg => k_is)
    (case cf_Unpairedh => k_is)
    (case mk_Unpaireda => k_is)
    (case mk_Unpairedb => k_is)
    (case mk_Unpairedc => k_is)
    (case m_Unpaired_showsat => k_is)
    (case m_Unpaired_showsl => k_is)
    (case m_Unpaired_showsc => k_is)
    (case m_Unpaired_showsk => k_is)
    (case m_Unpaired_showsn => k_is)
    (case mg_Unshareda => k_is)
    (case cf_Unshareda => k_is)
    (case cf_Unsharedb => k_is)
    (case cf_Unsharedc => k_is)
    (case cf_Unsharedd => k_is)
    (case cf_Unsharede => k_is)
    (case cf_Unsharedf => k_is)
    (case cf_Unsharedg => k_is)
    (case cf_Unsharedh => k_is)
    (case mk_Unshareda => k_is)
    (case mk_Unsharedb => k_is)
    (case mk_Unsharedc => k_is)
    (case m_Unshared_showsat => k_is)
    (case m_Unshared_showsl => k_is)
    (case m_Unshared_showsc => k_is)
    (case m_Unshared_showsk => k_is)
    (case m_Unshared_showsn => k_is)
    (case mg_Plana => k_is)
    (case cf_Plana => k_is)
    (case cf_Planb => k_is)
    (case cf_Planc => k_is)
    (case cf_Pland => k_is)
    (case cf_Plane => k_is)
    (case cf_Planf => k_is)
    (case cf_Plang => k_is)
    (case cf_Planh => k_is)
    (case mk_Plana => k_is)
    (case mk_Planb => k_is)
    (case mk_Planc => k_is)
    (case m_Plan_showsat => k_is)
    (case m_Plan_showsl => k_is)
    (case m_Plan_showsc => k_is)
    (case m_Plan_showsk => k_is)
    (case m_Plan_showsn => k_is)
    (case mg_Aparta => k_is)
    (case cf_Aparta => k_is)
    (case cf_Apartb => k_is)
    (case cf_Apartc => k_is)
    (case cf_Apartd => k_is)
    (case cf_Aparte => k_is)
    (case cf_Apartf => k_is)
    (case cf_Apartg => k_is)
    (case cf_Aparth => k_is)
    (case mi_Apartat => k_is)
    (case mi_Apartl => k_is)
    (case mi_Apartc => k_is)
    (case mi_Apartk => k_is)
    (case mi_Apartm => k_is)
    (case mi_Apartn => k_is)
    (case mi_Aparto => k_is)
    (case m_Apart_showsat => k_is)
    (case m_Apart_showsl => k_is)
    (case m_Apart_showsc => k_is)
    (case m_Apart_showsk => k_is)
    (case m_Apart_showsn => k_is)
    (case mg_Twicea => k_is)
    (case cf_Twicea => k_is)
    (case cf_Twiceb => k_is)
    (case cf_Twicec => k_is)
    (case cf_Twiced => k_is)
    (case cf_Twicee => k_is)
    (case cf_Twicef => k_is)
    (case cf_Twiceg => k_is)
    (case cf_Twiceh => k_is)
    (case mi_Twiceat => k_is)
    (case mi_Twicel => k_is)
    (case mi_Twicec => k_is)
    (case mi_Twicek => k_is)
    (case mi_Twicem => k_is)
    (case mi_Twicen => k_is)
    (case mi_Twiceo => k_is)
    (case m_Twice_showsat => k_is)
    (case m_Twice_showsl => k_is)
    (case m_Twice_showsc => k_is)
    (case m_Twice_showsk => k_is)
    (case m_Twice_showsn => k_is)
    (case kit_Can_Cana => k_is)
    (case kit_Can_Canb => k_is)
    (case kit_Can_Canc => k_is)
    (case kit_Can_Unpaireda => k_is)
    (case kit_Can_Unpairedb => k_is)
    (case kit_Can_Unpairedc => k_is)
    (case kit_Can_Unshareda => k_is)
    (case kit_Can_Unsharedb => k_is)
    (case kit_Can_Unsharedc => k_is)
    (case kit_Can_Plana => k_is)
    (case kit_Can_Planb => k_is)
    (case kit_Can_Planc => k_is)
    (case kit_Can_Aparta => k_is)
    (case kit_Can_Apartb => k_is)
    (case kit_Can_Apartc => k_is)
    (case kit_Can_Twicea => k_is)
    (case kit_Can_Twiceb => k_is)
    (case kit_Can_Twicec => k_is)
    (case kit_Can_Answera => k_is)
    (case kit_Can_Answerb => k_is)
    (case kit_Can_Answerc => k_is)
    (case kit_Unpaired_Cana => k_is)
    (case kit_Unpaired_Canb => k_is)
    (case kit_Unpaired_Canc => k_is)
    (case kit_Unpaired_Unpaireda => k_is)
    (case kit_Unpaired_Unpairedb => k_is)
    (case kit_Unpaired_Unpairedc => k_is)
    (case kit_Unpaired_Unshareda => k_is)
    (case kit_Unpaired_Unsharedb => k_is)
    (case kit_Unpaired_Unsharedc => k_is)
    (case kit_Unpaired_Plana => k_is)
    (case kit_Unpaired_Planb => k_is)
    (case kit_Unpaired_Planc => k_is)
    (case kit_Unpaired_Aparta => k_is)
    (case kit_Unpaired_Apartb => k_is)
    (case kit_Unpaired_Apartc => k_is)
    (case kit_Unpaired_Twicea => k_is)
    (case kit_Unpaired_Twiceb => k_is)
    (case kit_Unpaired_Twicec => k_is)
    (case kit_Unpaired_Answera => k_is)
    (case kit_Unpaired_Answerb => k_is)
    (case kit_Unpaired_Answerc => k_is)
    (case kit_Unshared_Cana => k_is)
    (case kit_Unshared_Canb => k_is)
    (case kit_Unshared_Canc => k_is)
    (case kit_Unshared_Unpaireda => k_is)
    (case kit_Unshared_Unpairedb => k_is)
    (case kit_Unshared_Unpairedc => k_is)
    (case kit_Unshared_Unshareda => k_is)
    (case kit_Unshared_Unsharedb => k_is)
    (case kit_Unshared_Unsharedc => k_is)
    (case kit_Unshared_Plana => k_is)
    (case kit_Unshared_Planb => k_is)
    (case kit_Unshared_Planc => k_is)
    (case kit_Unshared_Aparta => k_is)
    (case kit_Unshared_Apartb => k_is)
    (case kit_Unshared_Apartc => k_is)
    (case kit_Unshared_Twicea => k_is)
    (case kit_Unshared_Twiceb => k_is)
    (case kit_Unshared_Twicec => k_is)
    (case kit_Unshared_Answera => k_is)
    (case kit_Unshared_Answerb => k_is)
    (case kit_Unshared_Answerc => k_is)
    (case kit_Can_Cand => decide)
    (case kit_Can_Unpairedd => decide)
    (case kit_Can_Unsharedd => decide)
    (case kit_Can_Pland => decide)
    (case kit_Can_Apartd => decide)
    (case kit_Can_Twiced => decide)
    (case kit_Can_Answerd => decide)
    (case kit_Unpaired_Cand => decide)
    (case kit_Unpaired_Unpairedd => decide)
    (case kit_Unpaired_Unsharedd => decide)
    (case kit_Unpaired_Pland => decide)
    (case kit_Unpaired_Apartd => decide)
    (case kit_Unpaired_Twiced => decide)
    (case kit_Unpaired_Answerd => decide)
    (case kit_Unshared_Cand => decide)
    (case kit_Unshared_Unpairedd => decide)
    (case kit_Unshared_Unsharedd => decide)
    (case kit_Unshared_Pland => decide)
    (case kit_Unshared_Apartd => decide)
    (case kit_Unshared_Twiced => decide)
    (case kit_Unshared_Answerd => decide)
