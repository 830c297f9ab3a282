import PyProof.Rows.All
import Wide.All
import OpenK.AllK
import Wide.FinOn
import HandS.ForMost
import HandS.Exc
import HandS.TryOnly
import HandS.ExcOwn
import HandS.WordsExc
import HandS.Wide
import HandS.WideMore
import HandS.Flow
import HandS.IsInst
import HandS.Style
import HandS.SortInts
import HandS.TupAny
import PyProof.LongRange
import HandS.HotCalls
import HandS.ExcIs
import HandS.ExcCtx
import HandS.Iter
import HandS.Comp
import PySem.Challenge.RW_stairsum_k36_two_coins
set_option Elab.async false
set_option linter.all false
set_option maxRecDepth 100000
set_option maxHeartbeats 4000000
set_option Elab.async false
set_option linter.all false
set_option maxRecDepth 100000
set_option maxHeartbeats 4000000
/-! The prelude: heaps, readings step by step, sizes, defs of the top by name. -/
namespace Sd
open PySem PySem.Spec PyProof.Rows L2

/-! ### heaps -/
def Ex (H H' : Hp) : Prop := ∀ a o, H a = some o → H' a = some o
/-- all but what stands at d is kept -/
def Kp (d : Addr) (H H' : Hp) : Prop := ∀ a o, a ≠ d → H a = some o → H' a = some o
theorem Ex.at {H H' : Hp} {a : Addr} {o : HO} (e : Ex H H') (h : H a = some o) : H' a = some o := e a o h
theorem Ex.refl {H : Hp} : Ex H H := fun _ _ h => h
theorem Ex.trans {H H1 H2 : Hp} (a : Ex H H1) (b : Ex H1 H2) : Ex H H2 := fun x o h => b x o (a x o h)
theorem Ex.kp {H H' : Hp} {d : Addr} (e : Ex H H') : Kp d H H' := fun a o _ h => e a o h
theorem Kp.refl {H : Hp} {d : Addr} : Kp d H H := fun _ _ _ h => h
theorem Kp.trans {H H1 H2 : Hp} {d : Addr} (a : Kp d H H1) (b : Kp d H1 H2) : Kp d H H2 := fun x o n h => b x o n (a x o n h)
theorem Ex.kpd {H H1 H2 : Hp} {d : Addr} (e : Ex H H1) (n : H d = none) (b : Kp d H1 H2) : Ex H H2 := fun x o h => b x o (ne_of_none h n) (e x o h)
theorem Ex.new {H : Hp} {p : Addr} {o : HO} (h : H p = none) : Ex H (upd H p o) := fun a u e => by
  rw [upd_ne (ne_of_none e h)]
  exact e
theorem Kp.upd {H : Hp} {d : Addr} {o : HO} : Kp d H (upd H d o) := fun a u n e => by
  rw [upd_ne n]
  exact e
theorem free_back {H H' : Hp} {p : Addr} (e : Ex H H') (h : H' p = none) : H p = none := by
  cases h1 : H p with
  | none => rfl
  | some o =>
    rw [e p o h1] at h
    cases h
theorem rd_up {H H' : Hp} {a : Addr} {u : HO} (e : Ex H H') (h : Rd H a u) : Rd H' a u := by
  rcases h with h | ⟨o, h⟩
  · exact Or.inl (e a _ h)
  · exact Or.inr ⟨o, e a _ h⟩
theorem sql_up {K : PySem.W.Frag} {H H' : Hp} {a : Addr} {xs : List V} (e : Ex H H') (h : SqL K H a xs) : SqL K H' a xs := by
  rcases h with h | h
  · exact Or.inl (rd_up e h)
  · exact Or.inr h
theorem sqt_up {K : PySem.W.Frag} {H H' : Hp} {a : Addr} {xs : List V} (e : Ex H H') (h : SqT K H a xs) : SqT K H' a xs := by
  rcases h with h | h
  · exact Or.inl (rd_up e h)
  · exact Or.inr h
/-- the list of drawn digits at d -/
def Dr (H : Hp) (d : Addr) : Prop := ∃ x y : Int, H d = some (.lst [.int x, .int y]) ∧ 0 ≤ y ∧ y < 2147483647
theorem Dr.up {H H' : Hp} {d : Addr} (D : Dr H d) (e : Ex H H') : Dr H' d := by
  obtain ⟨x, y, h, r⟩ := D
  exact ⟨x, y, e _ _ h, r⟩
theorem Kp.tup {H H' : Hp} {d p : Addr} {xs : List V} (k : Kp d H H') (D : Dr H d) (h : H p = some (.tup xs)) : H' p = some (.tup xs) := by
  obtain ⟨x, y, e, _⟩ := D
  exact k _ _ (ne_of h e (by intro z; cases z)) h
theorem Kp.frz {H H' : Hp} {d p : Addr} {o : Obj} {u : HO} (k : Kp d H H') (D : Dr H d) (h : H p = some (.frz o u)) : H' p = some (.frz o u) := by
  obtain ⟨x, y, e, _⟩ := D
  exact k _ _ (ne_of h e (by intro z; cases z)) h
theorem Dr.free {H : Hp} {d p : Addr} (D : Dr H d) (h : H p = none) : p ≠ d := fun e => by
  obtain ⟨x, y, k, _⟩ := D
  rw [e, k] at h
  cases h
theorem free_kp {H H' : Hp} {d p : Addr} (e : Kp d H H') (D' : Dr H' d) (h : H' p = none) : H p = none := by
  cases q : H p with
  | none => rfl
  | some o =>
    rw [e p o (D'.free h) q] at h
    cases h
theorem sqt_kp {K : PySem.W.Frag} {H H' : Hp} {d a : Addr} {xs : List V} (e : Kp d H H') (D : Dr H d) (h : SqT K H a xs) : SqT K H' a xs := by
  rcases h with (h | ⟨o, h⟩) | h
  · exact Or.inl (Or.inl (e.tup D h))
  · exact Or.inl (Or.inr ⟨o, e.frz D h⟩)
  · exact Or.inr h

/-! ### sizes -/
def Sz (n : Nat) (x : Int) : Prop := x.natAbs < 2 ^ n
theorem Sz.mono {n m : Nat} {x : Int} (h : Sz n x) (l : n ≤ m) : Sz m x := Nat.lt_of_lt_of_le h (Nat.pow_le_pow_right (by decide) l)
theorem Sz.mul {n m : Nat} {x y : Int} (h : Sz n x) (k : Sz m y) : Sz (n + m) (x * y) := wide_lt h k
theorem Sz.add {n m : Nat} {x y : Int} (h : Sz n x) (k : Sz m y) : Sz (n + m + 1) (x + y) := by
  have h' : x.natAbs < 2 ^ n := h
  have k' : y.natAbs < 2 ^ m := k
  have a : 2 ^ n ≤ 2 ^ (n + m) := Nat.pow_le_pow_right (by decide) (Nat.le_add_right _ _)
  have b : 2 ^ m ≤ 2 ^ (n + m) := Nat.pow_le_pow_right (by decide) (Nat.le_add_left _ _)
  show (x + y).natAbs < 2 ^ (n + m + 1)
  rw [Nat.pow_succ]
  omega
theorem Sz.neg {n : Nat} {x : Int} (h : Sz n x) : Sz n (-x) := by
  show (-x).natAbs < 2 ^ n
  rw [Int.natAbs_neg]
  exact h
theorem Sz.sub {n m : Nat} {x y : Int} (h : Sz n x) (k : Sz m y) : Sz (n + m + 1) (x - y) := by
  have := h.add k.neg
  rw [Int.sub_eq_add_neg]
  exact this
theorem Sz.div {n : Nat} {x y : Int} (h : Sz n x) (p : 0 < y) : Sz n (x / y) := by
  have h' : x.natAbs < 2 ^ n := h
  show (x / y).natAbs < 2 ^ n
  have l : (x / y).natAbs ≤ x.natAbs := by
    have e := Int.emod_add_mul_ediv x y
    have e1 := Int.emod_nonneg x (show y ≠ 0 by omega)
    have e2 := Int.emod_lt_of_pos x p
    by_cases hx : 0 ≤ x
    · have q0 : 0 ≤ x / y := Int.ediv_nonneg hx (by omega)
      have q1 : x / y ≤ x := Int.ediv_le_self _ hx
      omega
    · have q0 : x / y < 0 := Int.ediv_neg_of_neg_of_pos (by omega) p
      have q1 : x ≤ x / y := by
        have : (x / y) * y ≤ (x / y) * 1 := Int.mul_le_mul_of_nonpos_left (by omega) (by omega)
        have e' : x / y * y ≥ x - (y - 1) := by
          have : y * (x / y) = x / y * y := Int.mul_comm _ _
          omega
        by_cases hq : x / y = -1
        · omega
        · have q2 : x / y + 1 ≤ -1 := by omega
          have q3 : (x / y + 1) * y ≤ (x / y + 1) * 1 := Int.mul_le_mul_of_nonpos_left (by omega) (by omega)
          have q4 : (x / y + 1) * y = x / y * y + y := by rw [Int.add_mul, Int.one_mul]
          have : y * (x / y) = x / y * y := Int.mul_comm _ _
          omega
      omega
  omega
theorem Sz.mod {n : Nat} {x y : Int} (h : Sz n y) (p : 0 < y) : Sz n (x % y) := by
  have e1 := Int.emod_nonneg x (show y ≠ 0 by omega)
  have e2 := Int.emod_lt_of_pos x p
  have h' : y.natAbs < 2 ^ n := h
  show (x % y).natAbs < 2 ^ n
  omega
theorem Sz.le {n : Nat} {x y : Int} (h : Sz n y) (a : -y ≤ x) (b : x ≤ y) : Sz n x := by
  have h' : y.natAbs < 2 ^ n := h
  show x.natAbs < 2 ^ n
  omega
theorem Sz.lit {x : Int} (h : x.natAbs < 2 ^ 200 := by decide) : Sz 200 x := h
theorem mulW {i j : Int} {n m : Nat} (a : Sz n i) (b : Sz m j) (h : n + m ≤ 900000 := by decide) : CMulW i j :=
  wide_mul (a.mono (Nat.le_succ n)) (b.mono (Nat.le_succ m)) (Nat.succ_pos _) (Nat.succ_pos _) (by omega)
theorem divW {i j : Int} {n : Nat} (p : 0 < j) (a : Sz n j) (h : n ≤ 8999 := by decide) : CDivW i j :=
  wide_div p (a.mono (Nat.le_succ n)) (Nat.succ_pos _) (by omega)

/-- a product of two numbers, one small or both of a known size -/
def CMulX (i j : Int) : Prop := CMul i j ∨ CMulW i j
theorem op_mulX {X : Cx} : OpR X (binaryOp .Mult) (rI CMulX fun i j => .int (i * j)) := opI fun _ _ _ _ _ _ _ hc q => mul_int q (hc.elim (fun h => h.ok) (fun h => h.ok))
theorem mulX {i j : Int} {n m : Nat} (a : Sz n i) (b : Sz m j) (h : n + m ≤ 900000 := by decide) : CMulX i j := .inr (mulW a b h)
theorem mulR {i j : Int} (h : -(2 ^ 64) < j ∧ j < 2 ^ 64) : CMulX i j := .inl (.inr h)
theorem mulL {i j : Int} (h : -(2 ^ 64) < i ∧ i < 2 ^ 64) : CMulX i j := .inl (.inl h)
/-! ### defs of the top, by their names -/
/-- the def named x stands as st -/
def DefAt (K : PySem.W.Frag) (mg : Str → Option Value) (x : Str) (st : Stmt) (ps : List Str) : Prop :=
  ∃ f fd, Fun K x x st f fd ∧ mg x = some (.ref f) ∧ Binds K fd ps []
/-- the def named x keeps the promise sp -/
def Has (P : Program) (w : World) (K : PySem.W.Frag) (mg : Str → Option Value) (base : Heap) (CX : CXT) (k : Nat) (x : Str) (ps : List Str) (sp : Sp) : Prop :=
  ∃ f fd, mg x = some (.ref f) ∧ PySem.W.keepIn K (.ref f) = true ∧ Binds K fd ps [] ∧ FnOk P w K mg base CX k f fd ps sp
theorem def_mk {K : PySem.W.Frag} {h : Heap} {mg : Str → Option Value} {x : Str} {st : Stmt} {ps : List Str} {f : Addr} {oc : Value} {od an : Option Addr} {osl : Array (Option Value)} {kV doc pm cdv ct : Value} (X : K.In h) (G : h.Ns mainGlobals mg)
    (a : PySem.W.nsIn K mainGlobals x = some (some (.ref f))) (l : K.lookup f = some ⟨oc, od, .func (PySem.W.fnOf x x (defArgs st) (defBody st) (defScope st) .none kV doc pm an cdv ct), osl⟩)
    (c : PySem.W.codeIn K cdv x = true) (k : PySem.W.keepIn K (.ref f) = true)
    (b : ∀ (kV doc pm : Value) (an : Option Addr) (cdv ct : Value) (us : List Value), us.length = ps.length → bindArgs (PySem.W.fnOf x x (defArgs st) (defBody st) (defScope st) .none kV doc pm an cdv ct) ⟨us, []⟩ = pure (ps.zip us)) : DefAt K mg x st ps :=
  ⟨f, _, fun_mk l c k, PySem.W.mg_of X G a, (fun_mk l c k).binds b⟩
section
variable {P : Program} {w : World} {K : PySem.W.Frag} {mg : Str → Option Value} {base : Heap}
theorem DefAt.ok {x : Str} {st : Stmt} {N ps : List Str} {k : Nat} {sp : Sp} (D : DefAt K mg x st ps) (S : FnScope N ps (defScope st)) (len : ∀ vs H Q E, sp vs H Q E → vs.length = ps.length)
    (hbody : ∀ (f : Addr) (cdv : Value) (A : Around) (outer : List Env) (s : Shared) (H : Hp) (vs : List V) (Q : VK) (E : XK), Room k (A.deeper (envOfC x (defScope st) s.heap.objs.size f cdv)) → sp vs H Q E →
      ∃ t, PSs (cxOf CX0 P w K mg base N x (defScope st) f cdv A outer s H E).nox (defBody st) t ∧ t { nx := fun _ H' => Q .non H', rt := Q } (start N vs) H) : Has P w K mg base CX0 (k + 1) x ps sp := by
  obtain ⟨f, fd, F, m, b⟩ := D
  exact ⟨f, fd, m, F.kp, b, F.ok S len fun cdv A outer s H vs Q E hr h => hbody f cdv A outer s H vs Q E hr h⟩
theorem Has.mono {CX : CXT} {x : Str} {ps : List Str} {j k : Nat} {sp : Sp} (G : Has P w K mg base CX j x ps sp) (h : j ≤ k) : Has P w K mg base CX k x ps sp := by
  obtain ⟨f, fd, m, kp, b, F⟩ := G
  exact ⟨f, fd, m, kp, b, F.mono h⟩
end
/-- f(e, ..), f a def of the top; nothing is raised -/
def tCal (sp : Sp) (E : XK) (t : TA) : TE := fun σ H Q => t σ H fun vs H1 => sp vs H1 Q E
section
variable {X : Cx} {x : Str} {p pos : Pos} {e : Expr} {es : List Expr} {t : TA} {k : Nat} {ps : List Str} {sp : Sp}
theorem pcall (G : Has X.prog X.w X.K X.mg X.base CX0 k x ps sp) (hr : Room k X.A) (ha : PA X (e :: es) t) (hg : Gl X x := by rfl)
    (hdb : (x == ("__debug__" : Str)) = false := by decide) (he : starEach (e :: es) X.env = (false, eval e X.env) :: starEach es X.env := by rfl) (hpl : (backTo pos (starEach es X.env)).any (·.1) = false := by rfl) :
    PE X (.Call (.Name x p) (e :: es) [] pos) (tCal sp E0 t) := by
  obtain ⟨f, fd, m, kp, b, F⟩ := G
  have q := pe_call (p := p) F hr hg m kp b (dvs := []) .nil pass0 ha hdb he hpl
  refine ⟨fun pins s σ H Q I h => q.run pins s σ H Q I ?_⟩
  have h' : t σ H fun vs H1 => sp vs H1 Q E0 := h
  show t σ H fun vs H1 => sp (vs ++ []) H1 Q E0
  have ee : (fun (vs : List V) (H1 : Hp) => sp (vs ++ []) H1 Q E0) = fun vs H1 => sp vs H1 Q E0 := by
    funext vs H1
    rw [List.append_nil]
  rw [ee]
  exact h'
end

theorem cx_K {CX : CXT} {P : Program} {w : World} {K : PySem.W.Frag} {mg : Str → Option Value} {base : Heap} {N : List Str} {qual : Str} {scope : Scope} {f : Addr} {cd : Value} {A : Around} {outer : List Env} {s : Shared} {H : Hp} {E : XK} :
    (cxOf CX P w K mg base N qual scope f cd A outer s H E).K = K := rfl
/-- a statement, then the rest, with a word between them -/
def tCut (t u : TS) : TS := fun D σ H => ∃ M : L2.St → Hp → Prop, t { D with nx := M } σ H ∧ ∀ σ' H', M σ' H' → u D σ' H'
theorem pcut {X : Cx} {st : Stmt} {rest : List Stmt} {t u : TS} (h1 : PS X st t) (h2 : PSs X rest u) : PSs X (st :: rest) (tCut t u) := by
  refine ⟨fun pins s σ H D I h => ?_⟩
  obtain ⟨M, hm, hu⟩ := h
  refine wpAny_execs_cons (thn (h1.run pins s σ H { D with nx := M } I hm) fun f s1 q => ?_)
  cases f with
  | next =>
    obtain ⟨σ', H', I', q⟩ := q
    exact h2.run pins s1 σ' H' D I' (hu σ' H' q)
  | ret v => exact q
  | brk => exact q
  | cont => exact q
/-- a op b op c op d, a test -/
def tChain3 (r r' r'' : R2) (ta tb tc td : TE) : TT := fun σ H Q => ta σ H fun x H1 => tb σ H1 fun y H2 => r x y H2 fun z H3 => ∃ k, z = .bl k ∧
  (if k = true then tc σ H3 fun w' H4 => r' y w' H4 fun z2 H5 => ∃ k2, z2 = .bl k2 ∧ (if k2 = true then td σ H5 fun u' H6 => r'' w' u' H6 fun z3 H7 => ∃ k3, z3 = .bl k3 ∧ Q k3 H7 else Q false H5) else Q false H3)
theorem pt_chain3 {X : Cx} {a b c d : Expr} {ta tb tc td : TE} {pos : Pos} {op op' op'' : CmpOp} {r r' r'' : R2} (ho : OpR X (compareOp op) r) (ho' : OpR X (compareOp op') r') (ho'' : OpR X (compareOp op'') r'') (ha : PE X a ta) (hb : PE X b tb) (hc : PE X c tc) (hd : PE X d td)
    (hm : lastMarks [op, op', op''] [b, c, d] = false := by with_unfolding_all rfl) : PT X (.Compare a [op, op', op''] [b, c, d] pos) (tChain3 r r' r'' ta tb tc td) := by
  refine ⟨fun pins s σ H Q I h => ?_⟩
  refine isTrue_chain (thn (ha.run pins s σ H _ I h) fun v s1 ⟨x, H1, I1, r1, q1⟩ => test_link (thn (hb.run pins s1 σ H1 _ I1 q1) fun u s2 ⟨y, H2, I2, r2, q2⟩ =>
    thn (ho pins s2 σ H2 x y v u _ I2 r1 r2 q2) fun d s3 ⟨z, H3, I3, r3, k, e, q3⟩ => ?_)) hm
  subst e
  cases r3
  refine wpAny_truthy_bool ?_
  cases k with
  | false => exact ite_ff ⟨H3, I3, q3⟩
  | true =>
    refine ite_tt (test_link (thn (hc.run pins s3 σ H3 _ I3 q3) fun w' s4 ⟨z', H4, I4, r4, q4⟩ => thn (ho' pins s4 σ H4 y z' u w' _ I4 r2 r4 q4) fun d' s5 ⟨z2, H5, I5, r5, k2, e2, q5⟩ => ?_))
    subst e2
    cases r5
    refine wpAny_truthy_bool ?_
    cases k2 with
    | false => exact ite_ff ⟨H5, I5, q5⟩
    | true =>
      refine ite_tt (test_last (thn (hd.run pins s5 σ H5 _ I5 q5) fun w2 s6 ⟨z6, H6, I6, r6, q6⟩ => thn (ho'' pins s6 σ H6 z' z6 w' w2 _ I6 r4 r6 q6) fun d7 s7 ⟨z7, H7, I7, r7, k7, e7, q7⟩ => ?_))
      subst e7
      cases r7
      exact wpAny_truthy_bool ⟨H7, I7, q7⟩
/-! ### readings, step by step -/
section
variable {K : PySem.W.Frag} {σ : L2.St} {H : Hp} {Q : VK} {QT : Bool → Hp → Prop} {QA : List V → Hp → Prop} {ta tb tc te : TE} {t u : TT} {tr : TA} {v x y : V} {i j : Int} {D : Ends} {s1 s2 : TS}
theorem r_var {n : Nat} (h : σ[n]? = some (some v)) (k : Q v H) : tVar n σ H Q := ⟨v, h, k⟩
theorem r_c (k : Q v H) : tC v σ H Q := k
theorem r_op {r : R2} (k : ta σ H fun x H1 => tb σ H1 fun y H2 => r x y H2 Q) : tOp r ta tb σ H Q := k
theorem r_un {r : V → Hp → VK → Prop} (k : ta σ H fun x H1 => r x H1 Q) : tUn r ta σ H Q := k
theorem r_I0 {g : Int → Int → V} (k : Q (g i j) H) : rI0 g (.int i) (.int j) H Q := ⟨i, j, rfl, rfl, k⟩
theorem r_I {C : Int → Int → Prop} {g : Int → Int → V} (c : C i j) (k : Q (g i j) H) : rI C g (.int i) (.int j) H Q := ⟨i, j, rfl, rfl, c, k⟩
theorem r_mul (c : CMulX i j) (k : Q (.int (i * j)) H) : rI CMulX (fun i j => .int (i * j)) (.int i) (.int j) H Q := r_I c k
theorem r_div (c : CDivW i j) (k : Q (.int (i / j)) H) : rI CDivW (fun i j => .int (i / j)) (.int i) (.int j) H Q := r_I c k
theorem r_mod (c : 0 < j) (k : Q (.int (i % j)) H) : rI (fun _ j => 0 < j) (fun i j => .int (i % j)) (.int i) (.int j) H Q := ⟨i, j, rfl, rfl, c, k⟩
theorem r_pow (c : CPow i j) (k : Q (.int (i ^ j.toNat)) H) : rI CPow (fun i j => .int (i ^ j.toNat)) (.int i) (.int j) H Q := r_I c k
theorem r_p6 (k : Q (.int 1000000) H) : rI CPow (fun i j => .int (i ^ j.toNat)) (.int 10) (.int 6) H Q := r_I ⟨by decide, by decide, by decide⟩ (by rw [show (10 : Int) ^ Int.toNat 6 = 1000000 by decide +kernel]; exact k)
theorem r_p15 (k : Q (.int 1000000000000000) H) : rI CPow (fun i j => .int (i ^ j.toNat)) (.int 10) (.int 15) H Q := r_I ⟨by decide, by decide, by decide⟩ (by rw [show (10 : Int) ^ Int.toNat 15 = 1000000000000000 by decide +kernel]; exact k)
theorem r_p18 (k : Q (.int 1000000000000000000) H) : rI CPow (fun i j => .int (i ^ j.toNat)) (.int 10) (.int 18) H Q := r_I ⟨by decide, by decide, by decide⟩ (by rw [show (10 : Int) ^ Int.toNat 18 = 1000000000000000000 by decide +kernel]; exact k)
theorem r_p24 (k : Q (.int 1000000000000000000000000) H) : rI CPow (fun i j => .int (i ^ j.toNat)) (.int 10) (.int 24) H Q := r_I ⟨by decide, by decide, by decide⟩ (by rw [show (10 : Int) ^ Int.toNat 24 = 1000000000000000000000000 by decide +kernel]; exact k)
theorem r_p29 (k : Q (.int 100000000000000000000000000000) H) : rI CPow (fun i j => .int (i ^ j.toNat)) (.int 10) (.int 29) H Q := r_I ⟨by decide, by decide, by decide⟩ (by rw [show (10 : Int) ^ Int.toNat 29 = 100000000000000000000000000000 by decide +kernel]; exact k)
theorem r_p30 (k : Q (.int 1000000000000000000000000000000) H) : rI CPow (fun i j => .int (i ^ j.toNat)) (.int 10) (.int 30) H Q := r_I ⟨by decide, by decide, by decide⟩ (by rw [show (10 : Int) ^ Int.toNat 30 = 1000000000000000000000000000000 by decide +kernel]; exact k)
theorem r_p60 (k : Q (.int 1000000000000000000000000000000000000000000000000000000000000) H) : rI CPow (fun i j => .int (i ^ j.toNat)) (.int 10) (.int 60) H Q := r_I ⟨by decide, by decide, by decide⟩ (by rw [show (10 : Int) ^ Int.toNat 60 = 1000000000000000000000000000000000000000000000000000000000000 by decide +kernel]; exact k)
theorem r_U {g : Int → V} (k : Q (g i) H) : rU g (.int i) H Q := ⟨i, rfl, k⟩
theorem r_eqI (k : Q (.bl (decide (i = j))) H) : rEq (.int i) (.int j) H Q := ⟨rfl, by
  have e : decide (V.int i = V.int j) = decide (i = j) := by
    by_cases h : i = j
    · subst h
      rw [decide_eq_true rfl, decide_eq_true rfl]
    · rw [decide_eq_false h, decide_eq_false (fun z => h (V.int.inj z))]
  rw [e]
  exact k⟩
theorem r_neI (k : Q (.bl (!decide (i = j))) H) : rNe (.int i) (.int j) H Q := ⟨rfl, by
  have e : decide (V.int i = V.int j) = decide (i = j) := by
    by_cases h : i = j
    · subst h
      rw [decide_eq_true rfl, decide_eq_true rfl]
    · rw [decide_eq_false h, decide_eq_false (fun z => h (V.int.inj z))]
  rw [e]
  exact k⟩
theorem r_eqB {a b : Bool} (k : Q (.bl (a == b)) H) : rEq (.bl a) (.bl b) H Q := ⟨rfl, by rw [dec_bl]; exact k⟩
theorem r_neB {a b : Bool} (k : Q (.bl (!(a == b))) H) : rNe (.bl a) (.bl b) H Q := ⟨rfl, by rw [dec_bl]; exact k⟩
theorem r_eqS {a b : Str} (k : Q (.bl (a == b)) H) : rEq (.str a) (.str b) H Q := ⟨rfl, by rw [dec_str]; exact k⟩
theorem r_neS {a b : Str} (k : Q (.bl (!(a == b))) H) : rNe (.str a) (.str b) H Q := ⟨rfl, by rw [dec_str]; exact k⟩
theorem r_test (k : te σ H fun x H' => ∃ b, x = .bl b ∧ QT b H') : tTest te σ H QT := k
theorem r_tB (k : te σ H fun x H' => ∃ b, x = .bl b ∧ QT b H') : tB te σ H QT := k
theorem r_bl {b : Bool} (k : QT b H) : ∃ b', V.bl b = .bl b' ∧ QT b' H := ⟨b, rfl, k⟩
theorem r_not (k : t σ H fun b H1 => QT (!b) H1) : tNot t σ H QT := k
theorem r_and (k : t σ H fun b H1 => if b = true then u σ H1 QT else QT false H1) : tAnd t u σ H QT := k
theorem r_or (k : t σ H fun b H1 => if b = true then QT true H1 else u σ H1 QT) : tOr t u σ H QT := k
theorem r_notV (k : ta σ H fun x H1 => ∃ c, x = .bl c ∧ Q (.bl (!c)) H1) : tNotV ta σ H Q := k
theorem r_andV (k : ta σ H fun x H1 => ∃ c, x = .bl c ∧ if c = true then tb σ H1 Q else Q (.bl false) H1) : tAndV ta tb σ H Q := k
theorem r_orV (k : ta σ H fun x H1 => ∃ c, x = .bl c ∧ if c = true then Q (.bl true) H1 else tb σ H1 Q) : tOrV ta tb σ H Q := k
theorem r_blV {b : Bool} {R : Bool → Prop} (k : R b) : ∃ c, V.bl b = .bl c ∧ R c := ⟨b, rfl, k⟩
theorem r_chain {r r' : R2} (k : ta σ H fun x H1 => tb σ H1 fun y H2 => r x y H2 fun z H3 => ∃ k, z = .bl k ∧ (if k = true then tc σ H3 fun w' H4 => r' y w' H4 Q else Q (.bl false) H3)) : tChain r r' ta tb tc σ H Q := k
theorem r_chain3 {r r' r'' : R2} {td : TE} (k : ta σ H fun x H1 => tb σ H1 fun y H2 => r x y H2 fun z H3 => ∃ k, z = .bl k ∧ (if k = true then tc σ H3 fun w' H4 => r' y w' H4 fun z2 H5 => ∃ k2, z2 = .bl k2 ∧ (if k2 = true then td σ H5 fun u' H6 => r'' w' u' H6 fun z3 H7 => ∃ k3, z3 = .bl k3 ∧ QT k3 H7 else QT false H5) else QT false H3)) : tChain3 r r' r'' ta tb tc td σ H QT := k
theorem r_if (k : t σ H fun c H1 => if c = true then ta σ H1 Q else tb σ H1 Q) : tIf t ta tb σ H Q := k
theorem r_cons (k : ta σ H fun x H1 => tr σ H1 fun xs H2 => QA (x :: xs) H2) : tCons ta tr σ H QA := k
theorem r_nil (k : QA [] H) : tNil σ H QA := k
theorem r_cal {sp : Sp} {E : XK} (k : tr σ H fun vs H1 => sp vs H1 Q E) : tCal sp E tr σ H Q := k
/-- a new tuple, a new list -/
def NewT (xs : List V) (H : Hp) (Q : VK) : Prop := xs.length ≤ sizeLine ∧ ∀ p, H p = none → Q (.ref p) (upd H p (.tup xs))
def NewL (xs : List V) (H : Hp) (Q : VK) : Prop := xs.length ≤ sizeLine ∧ ∀ p, H p = none → Q (.ref p) (upd H p (.lst xs))
theorem r_tup (k : tr σ H fun xs H1 => NewT xs H1 Q) : tTup tr σ H Q := k
theorem r_lst (k : tr σ H fun xs H1 => NewL xs H1 Q) : tLst tr σ H Q := k
theorem sz_of {n : Nat} (h : n ≤ 100000) : n ≤ sizeLine := Nat.le_trans h (by decide)
theorem r_newT {xs : List V} (h : xs.length ≤ 100000) (k : ∀ p H1, H p = none → Ex H H1 → H1 p = some (.tup xs) → Q (.ref p) H1) : NewT xs H Q := ⟨sz_of h, fun p hp => k p _ hp (Ex.new hp) upd_same⟩
theorem r_newL {xs : List V} (h : xs.length ≤ 100000) (k : ∀ p H1, H p = none → Ex H H1 → H1 p = some (.lst xs) → Q (.ref p) H1) : NewL xs H Q := ⟨sz_of h, fun p hp => k p _ hp (Ex.new hp) upd_same⟩
theorem r_ixT {p : Addr} {xs : List V} (h : SqT K H p xs) (a : atI xs i = some v) (k : Q v H) : rIxT K (.ref p) (.int i) H Q := ⟨p, xs, i, v, rfl, rfl, h, a, k⟩
theorem r_ixL {p : Addr} {xs : List V} (h : SqL K H p xs) (a : atI xs i = some v) (k : Q v H) : rIxL K (.ref p) (.int i) H Q := ⟨p, xs, i, v, rfl, rfl, h, a, k⟩
/-! statements -/
theorem r_seq (k : s1 { D with nx := s2 D } σ H) : tSeq s1 s2 D σ H := k
theorem r_asg {n : Nat} (k : te σ H fun x H1 => D.nx (σ.set n (some x)) H1) : tAsg te (gName n) D σ H := k
theorem r_asgG {g : TG} (k : te σ H fun x H1 => g x σ H1 D.nx) : tAsg te g D σ H := k
theorem r_drop (k : te σ H fun _ H1 => D.nx σ H1) : tDrop te D σ H := k
theorem r_ret (k : te σ H D.rt) : tRet te D σ H := k
theorem r_retN (k : D.rt .non H) : tRetN D σ H := k
theorem r_ifS (k : t σ H fun b H1 => if b = true then s1 D σ H1 else s2 D σ H1) : tIfS t s1 s2 D σ H := k
theorem r_next (k : D.nx σ H) : tNext D σ H := k
theorem r_gTup {p : Addr} {xs : List V} {n : Nat} {g : TGs} {QS : L2.St → Hp → Prop} (h : SqT K H p xs) (l : xs.length = n) (k : g xs σ H QS) : gTup K n g (.ref p) σ H QS := ⟨p, xs, rfl, h, l, k⟩
theorem r_gCons {g : TG} {gs : TGs} {xs : List V} {QS : L2.St → Hp → Prop} (k : g x σ H fun σ' H' => gs xs σ' H' QS) : gCons g gs (x :: xs) σ H QS := ⟨x, xs, rfl, k⟩
theorem r_gNil {QS : L2.St → Hp → Prop} (k : QS σ H) : gNil [] σ H QS := ⟨rfl, k⟩
theorem r_gName {n : Nat} {QS : L2.St → Hp → Prop} (k : QS (σ.set n (some x)) H) : gName n x σ H QS := k
theorem r_par {n m : Nat} (k : tr σ H fun vs H1 => ∃ v w, vs = [v, w] ∧ D.nx ((σ.set n (some v)).set m (some w)) H1) : tPar n m tr D σ H := k
theorem r_parE {R : V → V → Prop} (k : R x y) : ∃ v w, [x, y] = [v, w] ∧ R v w := ⟨x, y, rfl, k⟩
theorem r_par3 {n m l : Nat} (k : tr σ H fun vs H1 => ∃ u v w, vs = [u, v, w] ∧ D.nx (((σ.set n (some u)).set m (some v)).set l (some w)) H1) : tPar3 n m l tr D σ H := k
theorem r_parE3 {z : V} {R : V → V → V → Prop} (k : R x y z) : ∃ u v w, [x, y, z] = [u, v, w] ∧ R u v w := ⟨x, y, z, rfl, k⟩
theorem r_aug {n : Nat} {f : Int → Int → Int} (h : σ[n]? = some (some (.int i))) (k : te σ H fun y H1 => ipI f (.int i) y H1 fun z H2 => D.nx (σ.set n (some z)) H2) : tAug n te (ipI f) D σ H := ⟨.int i, h, k⟩
theorem r_ipI {f : Int → Int → Int} (k : Q (.int (f i j)) H) : ipI f (.int i) (.int j) H Q := ⟨i, j, rfl, rfl, k⟩
theorem r_cut {t u : TS} (M : L2.St → Hp → Prop) (h : t { D with nx := M } σ H) (k : ∀ σ' H', M σ' H' → u D σ' H') : tCut t u D σ H := ⟨M, h, k⟩
/-! tests decided -/
theorem r_nx {f : L2.St → Hp → Prop} {g : VK} {b c : L2.St → Hp → Prop} (k : f σ H) : Ends.nx ⟨f, g, b, c⟩ σ H := k
theorem r_nxS {f : L2.St → Hp → Prop} {g : VK} {b c : L2.St → Hp → Prop} {n : Nat} {z : Option V} {l' : L2.St} (h : σ.set n z = l') (k : f l' H) : Ends.nx ⟨f, g, b, c⟩ (σ.set n z) H := by rw [h]; exact k
theorem set_z {x v : Option V} {l : L2.St} : List.set (x :: l) 0 v = v :: l := rfl
theorem set_s {x v : Option V} {n : Nat} {l l' : L2.St} (h : l.set n v = l') : List.set (x :: l) (n + 1) v = x :: l' := by rw [← h]; rfl
theorem set_in {v : Option V} {n : Nat} {e e' l' : L2.St} (h1 : e = e') (h2 : e'.set n v = l') : e.set n v = l' := by rw [h1]; exact h2
theorem r_rt {f : L2.St → Hp → Prop} {g : VK} {b c : L2.St → Hp → Prop} (k : g v H) : Ends.rt ⟨f, g, b, c⟩ v H := k
theorem not_t {b : Bool} (h : b = false) : (!b) = true := by rw [h]; rfl
theorem not_f {b : Bool} (h : b = true) : (!b) = false := by rw [h]; rfl
theorem if_T {b : Bool} {A B : Prop} (h : b = true) (k : A) : if b = true then A else B := by rw [if_pos h]; exact k
theorem if_F {b : Bool} {A B : Prop} (h : b = false) (k : B) : if b = true then A else B := by
  rw [h, if_neg Bool.false_ne_true]
  exact k
theorem if_2 {b : Bool} {A B : Prop} (h1 : b = true → A) (h2 : b = false → B) : if b = true then A else B := by
  cases b with
  | true => exact if_T rfl (h1 rfl)
  | false => exact if_F rfl (h2 rfl)
/-- what is set into the tuple of the draws -/
theorem r_setL {o : Addr} {xs : List V} {k0 : Nat} {z : V} {Qh : Hp → Prop} (h : H o = some (.lst xs)) (hi : ixN xs.length i = some k0) (k : Qh (upd H o (.lst (xs.set k0 z)))) : rSetL (.ref o) (.int i) z H Qh := ⟨o, xs, i, k0, rfl, rfl, h, hi, k⟩
theorem r_gSub {to ti : TE} {ts : TSet} {QS : L2.St → Hp → Prop} (k : to σ H fun o H1 => ti σ H1 fun i H2 => ts o i v H2 fun H3 => QS σ H3) : gSub to ti ts v σ H QS := k
end

/-! calls of built-ins, walks -/
def rLen (K : PySem.W.Frag) : List V → Hp → VK → Prop := fun xs H Q => ∃ p ys, xs = [.ref p] ∧ (SqL K H p ys ∨ SqT K H p ys) ∧ Q (.int ys.length) H
theorem cl_len {X : Cx} : CallR X (.builtin "len") (rLen X.K) := call_len_seq
def rLenStr : List V → Hp → VK → Prop := fun xs H Q => ∃ z, xs = [.str z] ∧ z.length ≤ sizeLine ∧ Q (.int z.length) H
theorem cl_lenS {X : Cx} : CallR X (.builtin "len") rLenStr := call_len_str
def rAbs : List V → Hp → VK → Prop := fun xs H Q => ∃ i, xs = [.int i] ∧ Q (.int (if i < 0 then -i else i)) H
theorem cl_abs {X : Cx} : CallR X (.builtin "abs") rAbs := call_abs
def rMax2 : List V → Hp → VK → Prop := fun xs H Q => ∃ i j, xs = [.int i, .int j] ∧ Q (.int (if j > i then j else i)) H
def rMin2 : List V → Hp → VK → Prop := fun xs H Q => ∃ i j, xs = [.int i, .int j] ∧ Q (.int (if j < i then j else i)) H
theorem cl_max2 {X : Cx} (hc : X.calm = true) : CallR X (.builtin "max") rMax2 := call_max2 hc
theorem cl_min2 {X : Cx} (hc : X.calm = true) : CallR X (.builtin "min") rMin2 := call_min2 hc
def rInt1 : List V → Hp → VK → Prop := fun xs H Q => (∃ i, xs = [.int i] ∧ Q (.int i) H) ∨ ∃ k, xs = [.bl k] ∧ Q (.int (if k then 1 else 0)) H
theorem cl_int1 {X : Cx} : CallR X (.type "int") rInt1 := call_int1
def rBool1 : List V → Hp → VK → Prop := fun xs H Q => (∃ i, xs = [.int i] ∧ Q (.bl (i != 0)) H) ∨ ∃ k, xs = [.bl k] ∧ Q (.bl k) H
theorem cl_bool1 {X : Cx} : CallR X (.type "bool") rBool1 := call_bool1
def rStrI : List V → Hp → VK → Prop := fun xs H Q => ∃ i, xs = [.int i] ∧ i.natAbs.log2 < 1920 ∧ Q (.str (toString i)) H
theorem cl_strI {X : Cx} : CallR X (.type "str") rStrI := call_str_int
section
variable {K : PySem.W.Frag} {σ : L2.St} {H : Hp} {Q : VK} {QT : Bool → Hp → Prop} {ta tb tc te : TE} {t u : TT} {tr : TA} {v x y : V} {i j : Int} {D : Ends} {s1 s2 : TS} {g : TG}
theorem r_CB {r : List V → Hp → VK → Prop} (k : tr σ H fun vs H1 => r vs H1 Q) : tCB r tr σ H Q := k
theorem r_lenL {p : Addr} {ys : List V} (h : SqL K H p ys) (k : Q (.int (ys.length : Nat)) H) : rLen K [.ref p] H Q := ⟨p, ys, rfl, .inl h, k⟩
theorem r_lenT {p : Addr} {ys : List V} (h : SqT K H p ys) (k : Q (.int (ys.length : Nat)) H) : rLen K [.ref p] H Q := ⟨p, ys, rfl, .inr h, k⟩
theorem r_lenS {z : Str} (h : z.length ≤ sizeLine) (k : Q (.int (z.length : Nat)) H) : rLenStr [.str z] H Q := ⟨z, rfl, h, k⟩
theorem r_abs (k : Q (.int (i.natAbs : Int)) H) : rAbs [.int i] H Q := ⟨i, rfl, by
  have e : (if i < 0 then -i else i) = (i.natAbs : Int) := by split <;> omega
  rw [e]
  exact k⟩
theorem r_max2 (k : Q (.int (max i j)) H) : rMax2 [.int i, .int j] H Q := ⟨i, j, rfl, by
  have e : (if j > i then j else i) = max i j := by split <;> omega
  rw [e]
  exact k⟩
theorem r_min2 (k : Q (.int (min i j)) H) : rMin2 [.int i, .int j] H Q := ⟨i, j, rfl, by
  have e : (if j < i then j else i) = min i j := by split <;> omega
  rw [e]
  exact k⟩
theorem r_intI (k : Q (.int i) H) : rInt1 [.int i] H Q := .inl ⟨i, rfl, k⟩
theorem r_intB {b : Bool} (k : Q (.int (if b = true then 1 else 0)) H) : rInt1 [.bl b] H Q := .inr ⟨b, rfl, k⟩
theorem r_isII (k : Q (.bl true) H) : rIsi K [.int i, .ty "int"] H Q := ⟨_, _, _, _, _, rfl, .ty _, .base (.int _), kit_ty (by decide +kernel), k⟩
theorem r_isIB (k : Q (.bl false) H) : rIsi K [.int i, .ty "bool"] H Q := ⟨_, _, _, _, _, rfl, .ty _, .base (.int _), kit_ty (by decide +kernel), k⟩
theorem r_isTT {p : Addr} {xs : List V} (h : H p = some (.tup xs)) (k : Q (.bl true) H) : rIsi K [.ref p, .ty "tuple"] H Q := ⟨_, _, _, _, _, rfl, .ty _, .base (.tup h), kit_ty (by decide +kernel), k⟩
theorem r_isLL {p : Addr} {xs : List V} (h : H p = some (.lst xs)) (k : Q (.bl true) H) : rIsi K [.ref p, .ty "list"] H Q := ⟨_, _, _, _, _, rfl, .ty _, .base (.lst h), kit_ty (by decide +kernel), k⟩
theorem r_isBB {b : Bool} (k : Q (.bl true) H) : rIsi K [.bl b, .ty "bool"] H Q := ⟨_, _, _, _, _, rfl, .ty _, .base (.bl _), kit_ty (by decide +kernel), k⟩
theorem r_isBI {b : Bool} (k : Q (.bl true) H) : rIsi K [.bl b, .ty "int"] H Q := ⟨_, _, _, _, _, rfl, .ty _, .base (.bl _), kit_ty (by decide +kernel), k⟩
theorem r_isSS {z : Str} (k : Q (.bl true) H) : rIsi K [.str z, .ty "str"] H Q := ⟨_, _, _, _, _, rfl, .ty _, .base (.str _), kit_ty (by decide +kernel), k⟩
theorem r_all {p : Addr} {bs : List Bool} (h : SqL K H p (bs.map V.bl)) (k : Q (.bl (bs.all id)) H) : rAll K [.ref p] H Q := ⟨p, bs, rfl, h, k⟩
theorem r_any {p : Addr} {bs : List Bool} (h : SqL K H p (bs.map V.bl)) (k : Q (.bl (bs.any id)) H) : rAny K [.ref p] H Q := ⟨p, bs, rfl, h, k⟩
/-- a loop over J -/
def ForB (J : It) (g : TG) (tb : TS) (D : Ends) (σ : L2.St) (H1 : Hp) : Prop := ∃ W : Nat → Nat → L2.St → Hp → Prop, (∃ m, W 0 m σ H1) ∧ ∀ i m σ H, W i m σ H →
  (J.stop i H ∧ D.nx σ H) ∨ (J.go i H ∧ ∃ Nx : L2.St → Hp → Prop, (∀ σ' H', Nx σ' H' → ∃ m', m' < m ∧ W (i + 1) m' σ' H') ∧ ∀ x H', J.yld i H x H' → g x σ H' fun σ2 H2 => tb { D with nx := Nx, ct := Nx, bk := D.nx } σ2 H2)
def Rng1 (vs : List V) (H : Hp) (R : It → Hp → Prop) : Prop := ∃ j : Int, vs = [.int j] ∧ -(2 ^ 62) ≤ j ∧ j < 2 ^ 62 ∧ R (Itr 0 j.toNat) H
def Rng2 (vs : List V) (H : Hp) (R : It → Hp → Prop) : Prop := ∃ i j : Int, vs = [.int i, .int j] ∧ R (Itr i (j - i).toNat) H
def iRngL (ta : TA) : TI := fun σ H R => ta σ H fun vs H1 => Rng2 vs H1 R
def ItL (K : PySem.W.Frag) (x : V) (H : Hp) (R : It → Hp → Prop) : Prop := ∃ a, x = .ref a ∧ (∃ xs, SqL K H a xs) ∧ R (Itl K a) H
def ItT (K : PySem.W.Frag) (x : V) (H : Hp) (R : It → Hp → Prop) : Prop := ∃ a, x = .ref a ∧ (∃ xs, SqT K H a xs) ∧ R (Itt K a) H
variable {R : It → Hp → Prop} {wi : TI}
theorem r_for (k : wi σ H fun J H1 => ForB J g s1 D σ H1) : tFor wi g s1 D σ H := k
theorem r_iRng1 (k : tr σ H fun vs H1 => Rng1 vs H1 R) : iRng1 tr σ H R := k
theorem r_iRng2 (k : tr σ H fun vs H1 => Rng2 vs H1 R) : iRngL tr σ H R := k
theorem r_iList (k : te σ H fun x H1 => ItL K x H1 R) : iList K te σ H R := k
theorem r_iTup (k : te σ H fun x H1 => ItT K x H1 R) : iTup K te σ H R := k
theorem r_rng1 (h1 : -(2 ^ 62) ≤ i) (h2 : i < 2 ^ 62) (k : R (Itr 0 i.toNat) H) : Rng1 [.int i] H R := ⟨i, rfl, h1, h2, k⟩
theorem r_rng2 (h : -(2 ^ 62) ≤ i ∧ i < 2 ^ 62 ∧ -(2 ^ 62) ≤ j ∧ j < 2 ^ 62) (k : R (Itr i (j - i).toNat) H) : Rng2 [.int i, .int j] H R := ⟨i, j, rfl, k⟩
theorem r_rngL (k : R (Itr i (j - i).toNat) H) : Rng2 [.int i, .int j] H R := ⟨i, j, rfl, k⟩
theorem r_ItL {p : Addr} {xs : List V} (h : SqL K H p xs) (k : R (Itl K p) H) : ItL K (.ref p) H R := ⟨p, rfl, ⟨xs, h⟩, k⟩
theorem r_ItT {p : Addr} {xs : List V} (h : SqT K H p xs) (k : R (Itt K p) H) : ItT K (.ref p) H R := ⟨p, rfl, ⟨xs, h⟩, k⟩
theorem for_rng {lo : Int} {n j : Nat} (Pv : Nat → L2.St → Hp → Prop) (h0 : Pv 0 σ H)
    (hs : ∀ i σ H, i < n → Pv i σ H → s1 { D with nx := Pv (i + 1), ct := Pv (i + 1), bk := D.nx } (σ.set j (some (.int (lo + i)))) H) (hd : ∀ σ H, Pv n σ H → D.nx σ H) : ForB (Itr lo n) (gName j) s1 D σ H := for_range Pv h0 hs hd
theorem for_lst {a : Addr} {xs : List V} (Pv : Nat → L2.St → Hp → Prop) (h0 : Pv 0 σ H) (hl : ∀ i σ H, i ≤ xs.length → Pv i σ H → SqL K H a xs)
    (hs : ∀ i x σ H, xs[i]? = some x → Pv i σ H → g x σ H fun σ2 H2 => s1 { D with nx := Pv (i + 1), ct := Pv (i + 1), bk := D.nx } σ2 H2) (hd : ∀ σ H, Pv xs.length σ H → D.nx σ H) : ForB (Itl K a) g s1 D σ H := for_list Pv h0 hl hs hd
theorem for_tp {a : Addr} {xs : List V} (Pv : Nat → L2.St → Hp → Prop) (h0 : Pv 0 σ H) (hl : ∀ i σ H, i ≤ xs.length → Pv i σ H → SqT K H a xs)
    (hs : ∀ i x σ H, xs[i]? = some x → Pv i σ H → g x σ H fun σ2 H2 => s1 { D with nx := Pv (i + 1), ct := Pv (i + 1), bk := D.nx } σ2 H2) (hd : ∀ σ H, Pv xs.length σ H → D.nx σ H) : ForB (Itt K a) g s1 D σ H := for_tup Pv h0 hl hs hd
/-- a comprehension over J -/
def LcB (J : It) (g : TG) (tt : TT) (te : TE) (vs : List Nat) (σ : L2.St) (H1 : Hp) (Q : VK) : Prop := ∀ D, H1 D = none → ∃ W : Nat → Nat → Hp → Prop, (∃ m, W 0 m (upd H1 D (.lst []))) ∧ ∀ i m H, W i m H →
  (J.stop i H ∧ Q (.ref D) H) ∨ (J.go i H ∧ ∃ Nx : Hp → Prop, (∀ H', Nx H' → ∃ m', m' < m ∧ W (i + 1) m' H') ∧ ∀ x H', J.yld i H x H' → g x (wipe σ vs) H' fun σ2 H2 => wipe σ2 vs = wipe σ vs ∧ tt σ2 H2 fun b H3 =>
    if b = true then te σ2 H3 fun y H4 => ∃ acc, H4 D = some (.lst acc) ∧ acc.length < sizeLine ∧ Nx (upd H4 D (.lst (acc ++ [y]))) else Nx H3)
theorem r_lc {vs : List Nat} (k : wi σ H fun J H1 => LcB J g t te vs σ H1 Q) : tLc wi g t te vs σ H Q := k
end
/-! ranges of any size -/
theorem turn_long {P : Program} {w : World} {K : PySem.W.Frag} {tg : Expr} (it : Addr) (lo : Int) (n : Nat) : Turn P w K tg (Itr lo n) [it] it (fun i h => IsLongIter h it (lo + (i : Nat) * 1) ((n : Int) - (i : Nat)) 1) where
  mem := List.mem_cons_self
  obj := fun i h st b hb => by
    obtain rfl : b = it := by simpa using hb
    exact ⟨_, st, fun v z => by
      have z' : Data.fields _ = Data.cell v := z
      cases z'⟩
  keep := fun i h h' st k => k it List.mem_cons_self _ st
  item := by
    intro X hP hw hK hc i pins s σ H E I hf st hg
    subst hP hw hK
    obtain ⟨f0, f1, f2, f3, f4, f5⟩ := hf it List.mem_cons_self
    refine (Walks.longrange (prog := X.prog) (w := X.w) (I.ok.hd hc) it lo 1 n).item i s _ _ hg st fun v h' tk hv st' kk => ?_
    obtain ⟨t, rfl⟩ := hv
    have I1 : Inv X pins σ H { s with heap := h', toks := tk } := I.turned (fun b o hb e => kk b o (by simpa using hb) e) f0 f1 f3 f4 f5
    exact ⟨_, rfl, go_of (s := { s with heap := h', toks := tk }) (n := "longrange_iterator") st' rfl rfl (by decide) ⟨.int (lo + i), H, I1, ⟨t, by rw [Int.mul_one]⟩, ⟨rfl, rfl⟩, st', fun b hb => (hf b hb).1⟩⟩
  done := by
    intro X hP hw hK hc i pins s σ H E I hf st hg
    subst hP hw hK
    obtain ⟨f0, f1, f2, f3, f4, f5⟩ := hf it List.mem_cons_self
    have hg' : n ≤ i := hg
    exact wpAny_pyNext_long_end (I.ok.hd hc) st (by omega) fun h' eb => ⟨rfl, I.turned (t' := s.toks) (fun b o hb e => eb b o hb e) f0 f1 f3 f4 f5⟩
  self := fun _ _ _ _ _ st h => wpAny_pyIter_longiter st h
theorem size_0 {lo hi : Int} : (((hi - lo).toNat : Nat) : Int) - ((0 : Nat) : Int) = Builtin.Range.rangeSize lo hi 1 := by
  rw [rangeSize_one]
  split <;> omega
theorem rit_0 {h : Heap} {lo hi : Int} : IsRangeIter (h.push { cls := .type "range_iterator", data := .fields #[rawInt lo, rawInt (Builtin.Range.rangeSize lo hi 1), rawInt 1] }) h.objs.size (lo + ((0 : Nat) : Int) * 1) ((((hi - lo).toNat : Nat) : Int) - ((0 : Nat) : Int)) 1 := by
  have e1 : lo + ((0 : Nat) : Int) * 1 = lo := by omega
  rw [e1, size_0]
  exact Heap.get?_push_size _ rfl
theorem lit_0 {h : Heap} {lo hi : Int} : IsLongIter (h.push { cls := .type "longrange_iterator", data := .fields #[rawInt lo, rawInt (Builtin.Range.rangeSize lo hi 1), rawInt 1] }) h.objs.size (lo + ((0 : Nat) : Int) * 1) ((((hi - lo).toNat : Nat) : Int) - ((0 : Nat) : Int)) 1 := by
  have e1 : lo + ((0 : Nat) : Int) * 1 = lo := by omega
  rw [e1, size_0]
  exact Heap.get?_push_size _ rfl
theorem range_any {X : Cx} {tg : Expr} {pins : List (Addr × Obj)} {σ : L2.St} {H : Hp} {s : Shared} {R : It → Hp → Prop} {E : Value → Shared → Prop} {lo hi : Int} {t u v : Tok} {tk : Nat} (I : Inv X pins σ H s)
    (q : R (Itr lo (hi - lo).toNat) H) : wpAny (model X.prog X.w) X.A (pyIter (.ref s.heap.objs.size)) (PIE X pins σ tg R) E { s with heap := s.heap.push { cls := .type "range", data := .fields #[.int lo t, .int hi u, .int 1 v] }, toks := tk } := by
  have I1 : Inv X pins σ H { s with heap := s.heap.push { cls := .type "range", data := .fields #[.int lo t, .int hi u, .int 1 v] }, toks := tk } := I.kept fun b o e => Heap.get?_push_of_some _ e
  have fp : ∀ b ∈ [(s.heap.push { cls := .type "range", data := .fields #[.int lo t, .int hi u, .int 1 v] }).objs.size], FpOk X pins H b := fun b hb => by
    obtain rfl : b = (s.heap.push { cls := .type "range", data := .fields #[.int lo t, .int hi u, .int 1 v] }).objs.size := by simpa using hb
    exact I1.fpOk (Nat.le_refl _) (I1.hok.fresh (Nat.le_refl _))
  cases hs : Builtin.Range.small lo hi 1 with
  | true => exact wpAny_pyIter_range (IsRange.new ..) hs ⟨_, [_], _, _, H, rfl, I1.kept (t' := tk) fun b o e => Heap.get?_push_of_some _ e, turn_range _ lo (hi - lo).toNat, rit_0, fp, q⟩
  | false => exact wpAny_pyIter_longrange (IsRange.new ..) hs ⟨_, [_], _, _, H, rfl, I1.kept (t' := tk) fun b o e => Heap.get?_push_of_some _ e, turn_long _ lo (hi - lo).toNat, lit_0, fp, q⟩
theorem pi_rng2 {X : Cx} {tg : Expr} {a b : Expr} {ta : TA} {p pos : Pos} (hg : Gl X "range") (hm : X.mg "range" = none) (ha : PA X [a, b] ta) (hs : starEach [a, b] X.env = [(false, eval a X.env), (false, eval b X.env)] := by rfl) (hs2 : starEach [b] X.env = [(false, eval b X.env)] := by rfl) :
    PI X tg (.Call (.Name "range" p) [a, b] [] pos) (iRngL ta) := by
  refine ⟨fun pins s σ H R I h => Call_ (ld_blt I hg hm boot_range (PyProof.Rows.callWith_type1 (thn (ha.run pos pins s σ H _ I h) fun us s1 ⟨vs, H1, I1, r1, q1⟩ => ?_) (by rw [hs, hs2]) (by rw [hs2]; rfl)))⟩
  obtain ⟨i, j, rfl, q⟩ := q1
  cases r1 with
  | cons r rr =>
    cases rr with
    | cons r' rr =>
      cases rr
      obtain ⟨t, rfl⟩ := r
      obtain ⟨t', rfl⟩ := r'
      exact call_range_2 (range_any I1 q)
/-- what an expression gives without a change of what is tracked -/
def PureE (te : TE) (σ : L2.St) (H : Hp) (v : V) : Prop := ∀ H1, Ex H H1 → ∀ Q : VK, (∀ H2, Ex H1 H2 → Q v H2) → te σ H1 Q
section
variable {K : PySem.W.Frag} {σ : L2.St} {H : Hp} {Q : VK} {te : TE}
theorem tYes_k {F : Bool → Hp → Prop} (k : F true H) : tYes σ H F := k
theorem len_lt {n : Nat} (h : n ≤ 100000) : n < sizeLine := Nat.lt_of_le_of_lt h (by decide)
/-- [e for j in a range], e pure -/
theorem lc_rngP {lo : Int} {n j : Nat} {vs : List Nat} (f : Nat → V) (hn : n ≤ 100000) (hw : ∀ x, wipe ((wipe σ vs).set j (some x)) vs = wipe σ vs)
    (he : ∀ i : Nat, i < n → PureE te ((wipe σ vs).set j (some (.int (lo + i)))) H (f i)) (k : ∀ p H1, H p = none → Ex H H1 → H1 p = some (.lst ((List.range n).map f)) → Q (.ref p) H1) : LcB (Itr lo n) (gName j) tYes te vs σ H Q := fun Dl hD => by
  refine lc_range (fun i H' => Ex H H' ∧ H' Dl = some (.lst ((List.range i).map f))) ⟨Ex.new hD, upd_same⟩ (fun i H' hi p => ?_) (fun H' p => k Dl H' hD p.1 p.2)
  refine ⟨hw _, ?_⟩
  refine tYes_k ?_
  rw [if_pos rfl]
  refine he i hi H' p.1 _ fun H2 e2 => ⟨_, e2 _ _ p.2, ?_, ?_⟩
  · rw [List.length_map, List.length_range]
    exact len_lt (by omega)
  · refine ⟨fun a o ha => ?_, ?_⟩
    · rw [upd_ne (ne_of_none ha hD)]
      exact e2 _ _ (p.1 _ _ ha)
    · rw [upd_same, List.range_succ, List.map_append]
      rfl
theorem lc_lstP {a : Addr} {xs : List V} {j : Nat} {vs : List Nat} (f : V → V) (hx : SqL K H a xs) (hn : xs.length ≤ 100000) (hw : ∀ x, wipe ((wipe σ vs).set j (some x)) vs = wipe σ vs)
    (he : ∀ (i : Nat) x, xs[i]? = some x → PureE te ((wipe σ vs).set j (some x)) H (f x)) (k : ∀ p H1, H p = none → Ex H H1 → H1 p = some (.lst (xs.map f)) → Q (.ref p) H1) : LcB (Itl K a) (gName j) tYes te vs σ H Q := fun Dl hD => by
  refine lc_list (xs := xs) (fun i H' => Ex H H' ∧ H' Dl = some (.lst ((xs.take i).map f))) ⟨Ex.new hD, upd_same⟩ (fun i H' _ p => sql_up p.1 hx) (fun i x H' hi p => ?_) (fun H' p => k Dl H' hD p.1 (by rw [p.2, List.take_length]))
  refine ⟨hw _, ?_⟩
  refine tYes_k ?_
  rw [if_pos rfl]
  refine he i x hi H' p.1 _ fun H2 e2 => ⟨_, e2 _ _ p.2, ?_, ?_⟩
  · rw [List.length_map, List.length_take]
    exact len_lt (by omega)
  · refine ⟨fun a o ha => ?_, ?_⟩
    · rw [upd_ne (ne_of_none ha hD)]
      exact e2 _ _ (p.1 _ _ ha)
    · rw [upd_same, List.take_add_one, hi, List.map_append]
      rfl
theorem lc_tupP {a : Addr} {xs : List V} {j : Nat} {vs : List Nat} (f : V → V) (hx : SqT K H a xs) (hn : xs.length ≤ 100000) (hw : ∀ x, wipe ((wipe σ vs).set j (some x)) vs = wipe σ vs)
    (he : ∀ (i : Nat) x, xs[i]? = some x → PureE te ((wipe σ vs).set j (some x)) H (f x)) (k : ∀ p H1, H p = none → Ex H H1 → H1 p = some (.lst (xs.map f)) → Q (.ref p) H1) : LcB (Itt K a) (gName j) tYes te vs σ H Q := fun Dl hD => by
  refine lc_tup (xs := xs) (fun i H' => Ex H H' ∧ H' Dl = some (.lst ((xs.take i).map f))) ⟨Ex.new hD, upd_same⟩ (fun i H' _ p => sqt_up p.1 hx) (fun i x H' hi p => ?_) (fun H' p => k Dl H' hD p.1 (by rw [p.2, List.take_length]))
  refine ⟨hw _, ?_⟩
  refine tYes_k ?_
  rw [if_pos rfl]
  refine he i x hi H' p.1 _ fun H2 e2 => ⟨_, e2 _ _ p.2, ?_, ?_⟩
  · rw [List.length_map, List.length_take]
    exact len_lt (by omega)
  · refine ⟨fun a o ha => ?_, ?_⟩
    · rw [upd_ne (ne_of_none ha hD)]
      exact e2 _ _ (p.1 _ _ ha)
    · rw [upd_same, List.take_add_one, hi, List.map_append]
      rfl
end

theorem Sz.b2 {c : Prop} {_ : Decidable c} : Sz 1 (if c then 1 else 0) := by
  show (if c then (1 : Int) else 0).natAbs < 2 ^ 1
  split <;> decide
theorem div_mod_eq (x m : Int) : x / m * m + x % m = x := by
  have := Int.emod_add_mul_ediv x m
  rw [Int.mul_comm] at this
  omega
theorem Sz.small {x : Int} (h : x.natAbs < 1000000000000000000) : Sz 200 x := by
  show x.natAbs < 2 ^ 200
  omega
theorem at_ints {ns : List Int} {i : Int} (h0 : 0 ≤ i) (h1 : i < ns.length) : ∃ z, atI (ns.map V.int) i = some (.int z) ∧ ns[i.toNat]? = some z := by
  have hl : i.toNat < ns.length := by omega
  refine ⟨ns[i.toNat], ?_, List.getElem?_eq_getElem hl⟩
  refine at_of (j := i.toNat) (by omega) ?_
  rw [List.getElem?_map, List.getElem?_eq_getElem hl]
  rfl
theorem at_3 {x y z : V} {i : Int} (h0 : 0 ≤ i) (h1 : i < 3) : ∃ v, atI [x, y, z] i = some v ∧ (v = x ∨ v = y ∨ v = z) := by
  obtain rfl | rfl | rfl : i = 0 ∨ i = 1 ∨ i = 2 := by omega
  · exact ⟨_, rfl, .inl rfl⟩
  · exact ⟨_, rfl, .inr (.inl rfl)⟩
  · exact ⟨_, rfl, .inr (.inr rfl)⟩
theorem Sz.lt {n : Nat} {x y : Int} (h : Sz n y) (a : 0 ≤ x) (b : x < y) : Sz n x := by
  have h' : y.natAbs < 2 ^ n := h
  show x.natAbs < 2 ^ n
  omega
theorem Sz.abs {n : Nat} {x : Int} (h : Sz n x) : Sz n (x.natAbs : Int) := by
  show ((x.natAbs : Int)).natAbs < 2 ^ n
  exact h

section
variable {σ : L2.St} {H : Hp} {D : Ends} {t : TT} {s1 : TS}
/-- a while by its measure -/
theorem while_m (W : Nat → L2.St → Hp → Prop) (m0 : Nat) (h0 : W m0 σ H) (h : ∀ m σ H, W m σ H → t σ H fun b H1 => if b = true then ∃ N : L2.St → Hp → Prop, (∀ σ' H', N σ' H' → ∃ m', m' < m ∧ W m' σ' H') ∧ s1 { D with nx := N, ct := N, bk := D.nx } σ H1 else D.nx σ H1) : tWhile t s1 D σ H :=
  ⟨W, ⟨m0, h0⟩, fun m σ H w => h m σ H w⟩
theorem r_body {m : Nat} {W : Nat → L2.St → Hp → Prop} (N : L2.St → Hp → Prop) (hN : ∀ σ' H', N σ' H' → ∃ m', m' < m ∧ W m' σ' H') (k : s1 { D with nx := N, ct := N, bk := D.nx } σ H) :
    ∃ N : L2.St → Hp → Prop, (∀ σ' H', N σ' H' → ∃ m', m' < m ∧ W m' σ' H') ∧ s1 { D with nx := N, ct := N, bk := D.nx } σ H := ⟨N, hN, k⟩
end

/-- in a turn of the law, begun at H0, drawing from d -/
structure Lw (H0 : Hp) (d : Addr) (H : Hp) : Prop where
  e : Ex H0 H
  n : H0 d = none
  D : Dr H d
theorem Lw.ex {H0 H H' : Hp} {d : Addr} (w : Lw H0 d H) (e : Ex H H') : Lw H0 d H' := ⟨w.e.trans e, w.n, w.D.up e⟩
/-- a list of the turn's own is changed -/
theorem Lw.own {H0 H H' : Hp} {d l : Addr} (w : Lw H0 d H) (nf : H0 l = none) (ne : l ≠ d) (k : Kp l H H') : Lw H0 d H' := by
  obtain ⟨x, y, h, r⟩ := w.D
  exact ⟨w.e.kpd nf k, w.n, x, y, k _ _ (Ne.symm ne) h, r⟩
theorem Lw.kp {H0 H H' : Hp} {d : Addr} (w : Lw H0 d H) (k : Kp d H H') (D : Dr H' d) : Lw H0 d H' := ⟨w.e.kpd w.n k, w.n, D⟩

/-! data compared -/
theorem eqv_ints : ∀ xs ys : List Int, PyData.eqvAll (xs.map PyData.int) (ys.map PyData.int) = decide (xs = ys)
  | [], [] => by rw [decide_eq_true rfl]; rfl
  | [], y :: ys => by rw [decide_eq_false (by intro h; cases h)]; rfl
  | x :: xs, [] => by rw [decide_eq_false (by intro h; cases h)]; rfl
  | x :: xs, y :: ys => by
    show (PyData.eqv (.int x) (.int y) && PyData.eqvAll (xs.map PyData.int) (ys.map PyData.int)) = _
    rw [eqv_ints xs ys]
    show ((x == y) && decide (xs = ys)) = decide (x :: xs = y :: ys)
    by_cases h : x = y
    · subst h
      by_cases h2 : xs = ys
      · subst h2
        rw [decide_eq_true rfl, decide_eq_true rfl, beq_self_eq_true]
        rfl
      · rw [decide_eq_false h2, decide_eq_false (fun z => h2 (List.cons.inj z).2), Bool.and_false]
    · rw [beq_eq_false_iff_ne.mpr h, decide_eq_false (fun z => h (List.cons.inj z).1), Bool.false_and]
theorem lay_ints : ∀ xs : List Int, PyData.canLayAll0 (xs.map PyData.int) = true
  | [] => rfl
  | x :: xs => by
    show (PyData.canLay0 (.int x) && PyData.canLayAll0 (xs.map PyData.int)) = true
    rw [lay_ints xs]
    rfl
theorem dep_ints : ∀ xs : List Int, PyData.depthAll (xs.map PyData.int) ≤ 1
  | [] => Nat.zero_le _
  | x :: xs => by
    show max (PyData.depth (.int x)) (PyData.depthAll (xs.map PyData.int)) ≤ 1
    have h1 : PyData.depth (.int x) ≤ 1 := by
      unfold PyData.depth
      omega
    have := dep_ints xs
    omega
theorem shp_tup (xs : List Int) : SeqAt.shaped (.tuple (xs.map PyData.int)) = true := by
  unfold SeqAt.shaped
  rw [Bool.and_eq_true]
  refine ⟨?_, decide_eq_true ?_⟩
  · unfold PyData.canLay0
    exact lay_ints xs
  · unfold PyData.depth
    have := dep_ints xs
    omega
theorem shp_lst (xs : List Int) : SeqAt.shaped (.list (xs.map PyData.int)) = true := by
  unfold SeqAt.shaped
  rw [Bool.and_eq_true]
  refine ⟨?_, decide_eq_true ?_⟩
  · unfold PyData.canLay0
    exact lay_ints xs
  · unfold PyData.depth
    have := dep_ints xs
    omega
section
variable {K : PySem.W.Frag} {H : Hp} {Q : VK}
theorem dp_ints : ∀ xs : List Int, DpAll K H (xs.map V.int) (xs.map PyData.int)
  | [] => .nil
  | x :: xs => .cons (.int x) (dp_ints xs)
theorem r_eqD {x y : V} {d e : PyData} (hd : Dp K H x d) (he : Dp K H y e) (sd : SeqAt.shaped d = true) (se : SeqAt.shaped e = true) (k : Q (.bl (PyData.eqv d e)) H) : rEqD K x y H Q := ⟨d, e, hd, he, sd, se, k⟩
theorem r_neD {x y : V} {d e : PyData} (hd : Dp K H x d) (he : Dp K H y e) (sd : SeqAt.shaped d = true) (se : SeqAt.shaped e = true) (k : Q (.bl (!PyData.eqv d e)) H) : rNeD K x y H Q := ⟨d, e, hd, he, sd, se, k⟩
theorem eqvT (xs ys : List Int) : PyData.eqv (.tuple (xs.map PyData.int)) (.tuple (ys.map PyData.int)) = decide (xs = ys) := by
  unfold PyData.eqv
  exact eqv_ints xs ys
theorem eqvL (xs ys : List Int) : PyData.eqv (.list (xs.map PyData.int)) (.list (ys.map PyData.int)) = decide (xs = ys) := by
  unfold PyData.eqv
  exact eqv_ints xs ys
/-- two tuples of three whole numbers, two lists of whole numbers -/
theorem r_eqT3 {p q : Addr} {a b c a' b' c' : Int} (h : SqT K H p [.int a, .int b, .int c]) (h' : SqT K H q [.int a', .int b', .int c']) (k : Q (.bl (decide ([a, b, c] = [a', b', c']))) H) : rEqD K (.ref p) (.ref q) H Q :=
  r_eqD (.tup h (dp_ints [a, b, c])) (.tup h' (dp_ints [a', b', c'])) (shp_tup _) (shp_tup _) (by rw [eqvT]; exact k)
theorem r_neT3 {p q : Addr} {a b c a' b' c' : Int} (h : SqT K H p [.int a, .int b, .int c]) (h' : SqT K H q [.int a', .int b', .int c']) (k : Q (.bl (!decide ([a, b, c] = [a', b', c']))) H) : rNeD K (.ref p) (.ref q) H Q :=
  r_neD (.tup h (dp_ints [a, b, c])) (.tup h' (dp_ints [a', b', c'])) (shp_tup _) (shp_tup _) (by rw [eqvT]; exact k)
theorem r_eqL {p q : Addr} {xs ys : List Int} (h : SqL K H p (xs.map V.int)) (h' : SqL K H q (ys.map V.int)) (k : Q (.bl (decide (xs = ys))) H) : rEqD K (.ref p) (.ref q) H Q :=
  r_eqD (.lst h (dp_ints xs)) (.lst h' (dp_ints ys)) (shp_lst _) (shp_lst _) (by rw [eqvL]; exact k)
theorem r_neL {p q : Addr} {xs ys : List Int} (h : SqL K H p (xs.map V.int)) (h' : SqL K H q (ys.map V.int)) (k : Q (.bl (!decide (xs = ys))) H) : rNeD K (.ref p) (.ref q) H Q :=
  r_neD (.lst h (dp_ints xs)) (.lst h' (dp_ints ys)) (shp_lst _) (shp_lst _) (by rw [eqvL]; exact k)
end
theorem at_2 {x y : V} {i : Int} (h0 : 0 ≤ i) (h1 : i < 2) : ∃ v, atI [x, y] i = some v ∧ (v = x ∨ v = y) := by
  obtain rfl | rfl : i = 0 ∨ i = 1 := by omega
  · exact ⟨_, rfl, .inl rfl⟩
  · exact ⟨_, rfl, .inr rfl⟩
/-- what a test gives without a change of what is tracked -/
def PureT (tt : TT) (σ : L2.St) (H : Hp) (b : Bool) : Prop := ∀ H1, Ex H H1 → ∀ Q : Bool → Hp → Prop, (∀ H2, Ex H1 H2 → Q b H2) → tt σ H1 Q
section
variable {K : PySem.W.Frag} {σ : L2.St} {H : Hp} {Q : VK} {te : TE} {tt : TT}
/-- [e for j in a range if t], t and e pure -/
theorem lc_rngF {lo : Int} {n j : Nat} {vs : List Nat} (c : Nat → Bool) (f : Nat → V) (hn : n ≤ 100000) (hw : ∀ x, wipe ((wipe σ vs).set j (some x)) vs = wipe σ vs)
    (ht : ∀ i : Nat, i < n → PureT tt ((wipe σ vs).set j (some (.int (lo + i)))) H (c i))
    (he : ∀ i : Nat, i < n → c i = true → PureE te ((wipe σ vs).set j (some (.int (lo + i)))) H (f i)) (k : ∀ p H1, H p = none → Ex H H1 → H1 p = some (.lst (((List.range n).filter c).map f)) → Q (.ref p) H1) : LcB (Itr lo n) (gName j) tt te vs σ H Q := fun Dl hD => by
  refine lc_range (fun i H' => Ex H H' ∧ H' Dl = some (.lst (((List.range i).filter c).map f))) ⟨Ex.new hD, upd_same⟩ (fun i H' hi p => ?_) (fun H' p => k Dl H' hD p.1 p.2)
  refine ⟨hw _, ht i hi H' p.1 _ fun H2 e2 => ?_⟩
  cases hc : c i with
  | true =>
    rw [if_pos rfl]
    refine he i hi hc H2 (p.1.trans e2) _ fun H3 e3 => ⟨_, e3 _ _ (e2 _ _ p.2), ?_, ?_⟩
    · have l1 := List.length_filter_le c (List.range i)
      rw [List.length_range] at l1
      rw [List.length_map]
      exact len_lt (by omega)
    · refine ⟨fun a o ha => ?_, ?_⟩
      · rw [upd_ne (ne_of_none ha hD)]
        exact e3 _ _ (e2 _ _ (p.1 _ _ ha))
      · rw [upd_same, List.range_succ, List.filter_append, List.map_append]
        simp [hc]
  | false =>
    rw [if_neg Bool.false_ne_true]
    refine ⟨p.1.trans e2, ?_⟩
    rw [List.range_succ, List.filter_append, List.map_append]
    simp [hc, e2 _ _ p.2]
end
/-- a drawn stair -/
structure StB (a b m : Int) : Prop where
  m0 : 0 < m
  m1 : m ≤ 1000000000000000000000000000000000000000000000000000000000000
  za : Sz 620 a
  zb : Sz 620 b
theorem StB.zm {a b m : Int} (S : StB a b m) : Sz 200 m := by
  have := S.m0
  have := S.m1
  show m.natAbs < 2 ^ 200
  omega

section
variable {K : PySem.W.Frag} {σ : L2.St} {H : Hp} {Q : VK} {i : Int}
theorem r_sortI {a : Addr} {ns : List Int} (h : SqL K H a (ns.map V.int)) (k : ∀ (ns' : List Int) p H1, ns'.Perm ns → ns'.Pairwise (· ≤ ·) → H p = none → Ex H H1 → H1 p = some (.lst (ns'.map V.int)) → Q (.ref p) H1) : rSortedI K [.ref a] H Q :=
  ⟨a, ns, rfl, h, fun ns' p h1 h2 hp => k ns' p _ h1 h2 hp (Ex.new hp) upd_same⟩
theorem r_gLst {p : Addr} {xs : List V} {n : Nat} {g : TGs} {QS : L2.St → Hp → Prop} (h : SqL K H p xs) (l : xs.length = n) (k : g xs σ H QS) : gLst K n g (.ref p) σ H QS := ⟨p, xs, rfl, h, l, k⟩
end
theorem sort_2 {ns : List Int} {x y : Int} (h : ns.Perm [x, y]) (s : ns.Pairwise (· ≤ ·)) : ns = [min x y, max x y] := by
  have hl := h.length_eq
  match ns, hl with
  | [u, v], _ =>
    have m1 := h.mem_iff (a := u)
    have m2 := h.mem_iff (a := v)
    have m3 := h.mem_iff (a := x)
    have m4 := h.mem_iff (a := y)
    have huv : u ≤ v := by
      have := List.pairwise_cons.mp s
      exact this.1 v (by simp)
    simp at m1 m2 m3 m4
    have e1 : u = min x y := by omega
    have e2 : v = max x y := by omega
    rw [← e1, ← e2]
theorem sort_3 {ns : List Int} {x y z lo hi : Int} (h : ns.Perm [x, y, z]) (s : ns.Pairwise (· ≤ ·)) (h1 : lo ≤ x ∧ x ≤ hi) (h2 : lo ≤ y ∧ y ≤ hi) (h3 : lo ≤ z ∧ z ≤ hi) : ∃ u v w, ns = [u, v, w] ∧ lo ≤ u ∧ u ≤ v ∧ v ≤ w ∧ w ≤ hi := by
  have hl := h.length_eq
  match ns, hl with
  | [u, v, w], _ =>
    have m1 := h.mem_iff (a := u)
    have m3 := h.mem_iff (a := w)
    have p := List.pairwise_cons.mp s
    have huv : u ≤ v := p.1 v (by simp)
    have hvw : v ≤ w := (List.pairwise_cons.mp p.2).1 w (by simp)
    simp at m1 m3
    exact ⟨u, v, w, rfl, by omega, huv, hvw, by omega⟩
/-! none, True, membership -/
def rIsNn : R2 := fun x y H Q => y = .non ∧ Q (.bl (decide (x = .non))) H
def rNotNn : R2 := fun x y H Q => y = .non ∧ Q (.bl (!decide (x = .non))) H
theorem op_isNn {X : Cx} : OpR X (compareOp .Is) rIsNn := op_isN
theorem op_notNn {X : Cx} : OpR X (compareOp .IsNot) rNotNn := op_notN
section
variable {K : PySem.W.Frag} {H : Hp} {Q : VK} {x : V}
theorem r_isNnI {i : Int} (k : Q (.bl false) H) : rIsNn (.int i) .non H Q := ⟨rfl, k⟩
theorem r_isNnN (k : Q (.bl true) H) : rIsNn .non .non H Q := ⟨rfl, k⟩
theorem r_isNnR {a : Addr} (k : Q (.bl false) H) : rIsNn (.ref a) .non H Q := ⟨rfl, k⟩
theorem r_notNnI {i : Int} (k : Q (.bl true) H) : rNotNn (.int i) .non H Q := ⟨rfl, k⟩
theorem r_notNnN (k : Q (.bl false) H) : rNotNn .non .non H Q := ⟨rfl, k⟩
theorem r_notNnR {a : Addr} (k : Q (.bl true) H) : rNotNn (.ref a) .non H Q := ⟨rfl, k⟩
theorem all_flatI : ∀ ns : List Int, (ns.map V.int).all flatV = true
  | [] => rfl
  | n :: ns => by
    show (true && (ns.map V.int).all flatV) = true
    rw [all_flatI ns]
    rfl
theorem inV_ints (i : Int) : ∀ ns : List Int, inV (.int i) (ns.map V.int) = decide (i ∈ ns)
  | [] => rfl
  | n :: ns => by
    show (eqV (.int n) (.int i) || inV (.int i) (ns.map V.int)) = _
    rw [inV_ints i ns]
    show ((decide (n = i)) || _) = _
    by_cases h : n = i
    · subst h
      rw [decide_eq_true rfl, decide_eq_true (List.mem_cons_self ..)]
      rfl
    · rw [decide_eq_false h, Bool.false_or]
      by_cases h2 : i ∈ ns
      · rw [decide_eq_true h2, decide_eq_true (List.mem_cons_of_mem _ h2)]
      · rw [decide_eq_false h2, decide_eq_false]
        intro z
        rcases List.mem_cons.mp z with z | z
        · exact h z.symm
        · exact h2 z
theorem r_inI {i : Int} {ns : List Int} {p : Addr} (h : SqL K H p (ns.map V.int)) (k : Q (.bl (decide (i ∈ ns))) H) : rIn K false (.int i) (.ref p) H Q :=
  ⟨p, _, rfl, .inl h, rfl, all_flatI ns, by rw [inV_ints]; exact k⟩
end
/-! lists of rows of whole numbers -/
theorem Kp.tupL {H H' : Hp} {d p : Addr} {xs ys : List V} (k : Kp d H H') (D : H d = some (.lst ys)) (h : H p = some (.tup xs)) : H' p = some (.tup xs) :=
  k _ _ (ne_of h D (by intro z; cases z)) h
/-- each value a tuple of whole numbers -/
def RowsA (H : Hp) : List V → List (List Int) → Prop
  | [], [] => True
  | v :: vs, r :: rs => (∃ p, v = .ref p ∧ H p = some (.tup (r.map V.int))) ∧ RowsA H vs rs
  | _, _ => False
theorem RowsA.imp {H H' : Hp} (f : ∀ (p : Addr) (xs : List V), H p = some (.tup xs) → H' p = some (.tup xs)) : ∀ {vs : List V} {rs : List (List Int)}, RowsA H vs rs → RowsA H' vs rs
  | [], [], _ => trivial
  | _ :: _, _ :: _, ⟨⟨p, e, h⟩, r⟩ => ⟨⟨p, e, f _ _ h⟩, RowsA.imp f r⟩
  | [], _ :: _, h => h.elim
  | _ :: _, [], h => h.elim
theorem RowsA.ex {H H' : Hp} {vs : List V} {rs : List (List Int)} (h : RowsA H vs rs) (e : Ex H H') : RowsA H' vs rs := h.imp fun p xs q => e p _ q
theorem RowsA.kp {H H' : Hp} {d : Addr} {vs : List V} {rs : List (List Int)} (h : RowsA H vs rs) (k : Kp d H H') (D : Dr H d) : RowsA H' vs rs := h.imp fun _ _ q => k.tup D q
theorem RowsA.kpL {H H' : Hp} {d : Addr} {ys vs : List V} {rs : List (List Int)} (h : RowsA H vs rs) (k : Kp d H H') (D : H d = some (.lst ys)) : RowsA H' vs rs := h.imp fun _ _ q => k.tupL D q
theorem RowsA.len {H : Hp} : ∀ {vs : List V} {rs : List (List Int)}, RowsA H vs rs → vs.length = rs.length
  | [], [], _ => rfl
  | _ :: _, _ :: _, ⟨_, r⟩ => by
    rw [List.length_cons, List.length_cons, RowsA.len r]
  | [], _ :: _, h => h.elim
  | _ :: _, [], h => h.elim
theorem RowsA.app {H : Hp} {p : Addr} {r : List Int} (hp : H p = some (.tup (r.map V.int))) : ∀ {vs : List V} {rs : List (List Int)}, RowsA H vs rs → RowsA H (vs ++ [.ref p]) (rs ++ [r])
  | [], [], _ => ⟨⟨p, rfl, hp⟩, trivial⟩
  | _ :: _, _ :: _, ⟨h, r⟩ => ⟨h, RowsA.app hp r⟩
  | [], _ :: _, h => h.elim
  | _ :: _, [], h => h.elim
theorem RowsA.get {H : Hp} : ∀ {vs : List V} {rs : List (List Int)} {i : Nat} {v : V}, RowsA H vs rs → vs[i]? = some v → ∃ p r, v = .ref p ∧ rs[i]? = some r ∧ H p = some (.tup (r.map V.int))
  | _ :: _, r :: _, 0, _, ⟨⟨p, e, h⟩, _⟩, g => ⟨p, r, (Option.some.inj g).symm.trans e, rfl, h⟩
  | _ :: _, _ :: _, i + 1, _, ⟨_, h⟩, g => RowsA.get (i := i) h g
  | [], _, _, _, _, g => by simp at g
  | _ :: _, [], _, _, h, _ => h.elim
/-- a list of rows stands at l -/
def RwL (H : Hp) (l : Addr) (rs : List (List Int)) : Prop := ∃ vs, H l = some (.lst vs) ∧ RowsA H vs rs
theorem RwL.ex {H H' : Hp} {l : Addr} {rs : List (List Int)} (h : RwL H l rs) (e : Ex H H') : RwL H' l rs := by
  obtain ⟨vs, h1, h2⟩ := h
  exact ⟨vs, e _ _ h1, h2.ex e⟩
theorem RwL.kp {H H' : Hp} {d l : Addr} {rs : List (List Int)} (h : RwL H l rs) (k : Kp d H H') (D : Dr H d) (n : l ≠ d) : RwL H' l rs := by
  obtain ⟨vs, h1, h2⟩ := h
  exact ⟨vs, k _ _ n h1, h2.kp k D⟩
theorem RwL.app {H H' : Hp} {l p : Addr} {vs : List V} {rs : List (List Int)} {r : List Int} (h0 : H l = some (.lst vs)) (h : RowsA H vs rs) (hp : H p = some (.tup (r.map V.int))) (k : Kp l H H') (h1 : H' l = some (.lst (vs ++ [.ref p]))) : RwL H' l (rs ++ [r]) :=
  ⟨_, h1, RowsA.app (k.tupL h0 hp) (h.kpL k h0)⟩
theorem cutV_whole {xs : List V} {lo hi : Option Int} (w : HT.sIx xs.length 0 lo = 0 ∧ HT.sIx xs.length xs.length hi = xs.length) : cutV xs lo hi = xs := by
  unfold cutV
  rw [w.1, w.2, List.drop_zero, Nat.sub_zero, List.take_length]
theorem mem_cutV {xs : List V} {lo hi : Option Int} {v : V} (h : v ∈ cutV xs lo hi) : v ∈ xs := List.mem_of_mem_drop (List.mem_of_mem_take h)
def rListOf (K : PySem.W.Frag) : List V → Hp → VK → Prop := fun xs H Q => ∃ p ys, xs = [.ref p] ∧ (SqL K H p ys ∨ SqT K H p ys) ∧ ∀ l, H l = none → Q (.ref l) (upd H l (.lst ys))
theorem cl_listOf {X : Cx} : CallR X (.type "list") (rListOf X.K) := call_list_of
section
variable {K : PySem.W.Frag} {σ : L2.St} {H : Hp} {Q : VK} {ta te : TE} {t : TA} {p q l : Addr} {xs ys : List V} {tl th : TO}
theorem r_listL (h : SqL K H p ys) (k : ∀ l H1, H l = none → Ex H H1 → H1 l = some (.lst ys) → Q (.ref l) H1) : rListOf K [.ref p] H Q :=
  ⟨p, ys, rfl, .inl h, fun l n => k l _ n (Ex.new n) upd_same⟩
theorem r_listT (h : SqT K H p ys) (k : ∀ l H1, H l = none → Ex H H1 → H1 l = some (.lst ys) → Q (.ref l) H1) : rListOf K [.ref p] H Q :=
  ⟨p, ys, rfl, .inr h, fun l n => k l _ n (Ex.new n) upd_same⟩
theorem r_bm {T : String} {r : V → List V → Hp → VK → Prop} (k : ta σ H fun x H1 => tyV K T x H1 ∧ t σ H1 fun xs H2 => r x xs H2 Q) : tBM K T r ta t σ H Q := k
theorem r_tyL {R : Prop} (h : SqL K H p xs) (k : R) : tyV K "list" (.ref p) H ∧ R := ⟨.inl ⟨rfl, _, h⟩, k⟩
theorem r_app {y : V} (h : H l = some (.lst xs)) (n : xs.length ≤ 100000) (k : ∀ H1, Kp l H H1 → H1 l = some (.lst (xs ++ [y])) → Q .non H1) : rAppend (.ref l) [y] H Q :=
  ⟨l, xs, y, rfl, rfl, h, len_lt n, k _ Kp.upd upd_same⟩
theorem r_sl {r : V → Option Int → Option Int → Hp → VK → Prop} (k : te σ H fun x H1 => tl σ H1 fun l H2 => th σ H2 fun u H3 => r x l u H3 Q) : tSl r te tl th σ H Q := k
theorem r_noP {R : Option Int → Hp → Prop} (k : R none H) : tNoPart σ H R := k
theorem r_part {R : Option Int → Hp → Prop} (k : te σ H fun x H1 => ∃ i, x = .int i ∧ R (some i) H1) : tPart te σ H R := k
theorem r_partI {i : Int} {R : Int → Prop} (k : R i) : ∃ j, V.int i = .int j ∧ R j := ⟨i, rfl, k⟩
theorem r_slA {lo hi : Option Int} (h : H p = some (.tup xs)) (k : ∀ q H1, Ex H H1 → H1 q = some (.tup (cutV xs lo hi)) → Q (.ref q) H1) : rSlA K (.ref p) lo hi H Q :=
  ⟨p, xs, rfl, SqT.of h, fun w => k p H Ex.refl (by rw [cutV_whole w]; exact h), fun _ q hq => k q _ (Ex.new hq) upd_same⟩
theorem r_sl4 {a b c d e : V} (h : SqT K H p [a, b, c, d, e]) (k : ∀ q H1, H q = none → Ex H H1 → H1 q = some (.tup [a, b, c, d]) → Q (.ref q) H1) : rSlA K (.ref p) none (some 4) H Q :=
  ⟨p, _, rfl, h, fun w => absurd (show (4 : Nat) = 5 from w.2) (by decide), fun _ q hq => k q _ hq (Ex.new hq) upd_same⟩
theorem r_catA (h : H p = some (.tup xs)) (h2 : H q = some (.tup ys)) (n : xs.length + ys.length ≤ sizeLine) (k : ∀ l H1, Ex H H1 → H1 l = some (.tup (xs ++ ys)) → Q (.ref l) H1) : rCatA K (.ref p) (.ref q) H Q :=
  ⟨p, q, xs, ys, rfl, rfl, SqT.of h, SqT.of h2, n, fun e => k q H Ex.refl (by subst e; exact h2), fun _ e => k p H Ex.refl (by subst e; rw [List.append_nil]; exact h), fun _ _ l hl => k l _ (Ex.new hl) upd_same⟩
theorem r_catT {x y : V} {xs ys : List V} (h : SqT K H p (x :: xs)) (h2 : SqT K H q (y :: ys)) (n : (x :: xs).length + (y :: ys).length ≤ sizeLine) (k : ∀ l H1, H l = none → Ex H H1 → H1 l = some (.tup (x :: xs ++ y :: ys)) → Q (.ref l) H1) : rCatA K (.ref p) (.ref q) H Q :=
  ⟨p, q, x :: xs, y :: ys, rfl, rfl, h, h2, n, fun z => absurd z (List.cons_ne_nil _ _), fun _ z => absurd z (List.cons_ne_nil _ _), fun _ _ l hl => k l _ hl (Ex.new hl) upd_same⟩
theorem r_cat13 {x a b c : V} (h : SqT K H p [x]) (h2 : SqT K H q [a, b, c]) (k : ∀ l H1, H l = none → Ex H H1 → H1 l = some (.tup [x, a, b, c]) → Q (.ref l) H1) : rCatA K (.ref p) (.ref q) H Q :=
  r_catT h h2 (show 4 ≤ sizeLine by decide) k
theorem r_cat41 {x a b c y : V} (h : SqT K H p [x, a, b, c]) (h2 : SqT K H q [y]) (k : ∀ l H1, H l = none → Ex H H1 → H1 l = some (.tup [x, a, b, c, y]) → Q (.ref l) H1) : rCatA K (.ref p) (.ref q) H Q :=
  r_catT h h2 (show 5 ≤ sizeLine by decide) k
theorem r_slL {lo hi : Option Int} (h : H p = some (.lst xs)) (k : ∀ q H1, H q = none → Ex H H1 → H1 q = some (.lst (cutV xs lo hi)) → Q (.ref q) H1) : rSlL K (.ref p) lo hi H Q :=
  ⟨p, xs, rfl, SqL.of h, fun q hq => k q _ hq (Ex.new hq) upd_same⟩
theorem r_catL (h : H p = some (.lst xs)) (h2 : H q = some (.lst ys)) (n : xs.length + ys.length ≤ 100000) (k : ∀ l H1, H l = none → Ex H H1 → H1 l = some (.lst (xs ++ ys)) → Q (.ref l) H1) : rCat (.ref p) (.ref q) H Q :=
  ⟨p, q, xs, ys, rfl, rfl, h, h2, Nat.le_of_lt (len_lt n), fun l hl => k l _ hl (Ex.new hl) upd_same⟩
def rRev (K : PySem.W.Frag) (x : V) (H : Hp) (Q : VK) : Prop := ∃ a xs, x = .ref a ∧ SqL K H a xs ∧ ∀ p, H p = none → Q (.ref p) (upd H p (.lst xs.reverse))
theorem r_rev (k : te σ H fun x H1 => rRev K x H1 Q) : tRevL K te σ H Q := k
theorem r_revL (h : H p = some (.lst xs)) (k : ∀ q H1, H q = none → Ex H H1 → H1 q = some (.lst xs.reverse) → Q (.ref q) H1) : rRev K (.ref p) H Q :=
  ⟨p, xs, rfl, SqL.of h, fun q hq => k q _ hq (Ex.new hq) upd_same⟩
theorem ixN_in {n : Nat} {i : Int} (h0 : 0 ≤ i) (h1 : i < n) : ixN n i = some i.toNat := by
  unfold ixN
  rw [if_pos h0, if_pos h1]
theorem r_neT4 {a b c d a' b' c' d' : Int} (h : SqT K H p [.int a, .int b, .int c, .int d]) (h' : SqT K H q [.int a', .int b', .int c', .int d']) (k : Q (.bl (!decide ([a, b, c, d] = [a', b', c', d']))) H) : rNeD K (.ref p) (.ref q) H Q :=
  r_neD (.tup h (dp_ints [a, b, c, d])) (.tup h' (dp_ints [a', b', c', d'])) (shp_tup _) (shp_tup _) (by rw [eqvT]; exact k)
theorem r_notB {a b : Bool} (k : Q (.bl (!decide (a = b))) H) : rNotB (.bl a) (.bl b) H Q := ⟨a, b, rfl, rfl, k⟩
theorem r_isB {a b : Bool} (k : Q (.bl (decide (a = b))) H) : rIsB (.bl a) (.bl b) H Q := ⟨a, b, rfl, rfl, k⟩
end
/-! lists of rows compared -/
def rowD (r : List Int) : PyData := .tuple (r.map PyData.int)
theorem dp_rows {K : PySem.W.Frag} {H : Hp} : ∀ {vs : List V} {rs : List (List Int)}, RowsA H vs rs → DpAll K H vs (rs.map rowD)
  | [], [], _ => .nil
  | _ :: _, r :: _, ⟨⟨p, e, h⟩, g⟩ => by
    subst e
    exact .cons (.tup (SqT.of h) (dp_ints r)) (dp_rows g)
  | [], _ :: _, h => h.elim
  | _ :: _, [], h => h.elim
theorem lay_rows : ∀ rs : List (List Int), PyData.canLayAll0 (rs.map rowD) = true
  | [] => rfl
  | r :: rs => by
    show (PyData.canLay0 (rowD r) && PyData.canLayAll0 (rs.map rowD)) = true
    rw [lay_rows rs]
    show (PyData.canLay0 (.tuple (r.map PyData.int)) && true) = true
    unfold PyData.canLay0
    rw [lay_ints]
    rfl
theorem dep_rows : ∀ rs : List (List Int), PyData.depthAll (rs.map rowD) ≤ 2
  | [] => Nat.zero_le _
  | r :: rs => by
    show max (PyData.depth (rowD r)) (PyData.depthAll (rs.map rowD)) ≤ 2
    have h1 : PyData.depth (rowD r) ≤ 2 := by
      unfold rowD PyData.depth
      have := dep_ints r
      omega
    have := dep_rows rs
    omega
theorem shp_rows (rs : List (List Int)) : SeqAt.shaped (.list (rs.map rowD)) = true := by
  unfold SeqAt.shaped
  rw [Bool.and_eq_true]
  refine ⟨?_, decide_eq_true ?_⟩
  · unfold PyData.canLay0
    exact lay_rows rs
  · unfold PyData.depth
    have := dep_rows rs
    omega
theorem eqv_rows : ∀ xs ys : List (List Int), PyData.eqvAll (xs.map rowD) (ys.map rowD) = decide (xs = ys)
  | [], [] => by rw [decide_eq_true rfl]; rfl
  | [], y :: ys => by rw [decide_eq_false (by intro h; cases h)]; rfl
  | x :: xs, [] => by rw [decide_eq_false (by intro h; cases h)]; rfl
  | x :: xs, y :: ys => by
    show (PyData.eqv (rowD x) (rowD y) && PyData.eqvAll (xs.map rowD) (ys.map rowD)) = _
    rw [eqv_rows xs ys, show PyData.eqv (rowD x) (rowD y) = decide (x = y) from eqvT x y]
    by_cases h : x = y
    · subst h
      by_cases h2 : xs = ys
      · subst h2
        rw [decide_eq_true rfl, decide_eq_true rfl, decide_eq_true rfl]
        rfl
      · rw [decide_eq_false h2, decide_eq_false (fun z => h2 (List.cons.inj z).2), Bool.and_false]
    · rw [decide_eq_false h, decide_eq_false (fun z => h (List.cons.inj z).1), Bool.false_and]
theorem eqvR (xs ys : List (List Int)) : PyData.eqv (.list (xs.map rowD)) (.list (ys.map rowD)) = decide (xs = ys) := by
  unfold PyData.eqv
  exact eqv_rows xs ys
theorem r_neR {K : PySem.W.Frag} {H : Hp} {Q : VK} {p q : Addr} {xs ys : List (List Int)} (h : RwL H p xs) (h' : RwL H q ys) (k : Q (.bl (!decide (xs = ys))) H) : rNeD K (.ref p) (.ref q) H Q := by
  obtain ⟨vs, h1, h2⟩ := h
  obtain ⟨us, g1, g2⟩ := h'
  exact r_neD (.lst (SqL.of h1) (dp_rows h2)) (.lst (SqL.of g1) (dp_rows g2)) (shp_rows _) (shp_rows _) (by rw [eqvR]; exact k)
theorem r_eqR {K : PySem.W.Frag} {H : Hp} {Q : VK} {p q : Addr} {xs ys : List (List Int)} (h : RwL H p xs) (h' : RwL H q ys) (k : Q (.bl (decide (xs = ys))) H) : rEqD K (.ref p) (.ref q) H Q := by
  obtain ⟨vs, h1, h2⟩ := h
  obtain ⟨us, g1, g2⟩ := h'
  exact r_eqD (.lst (SqL.of h1) (dp_rows h2)) (.lst (SqL.of g1) (dp_rows g2)) (shp_rows _) (shp_rows _) (by rw [eqvR]; exact k)
/-- [e for v in a list], e pure, by places -/
theorem lc_lstI {K : PySem.W.Frag} {σ : L2.St} {H : Hp} {Q : VK} {te : TE} {a : Addr} {xs : List V} {j : Nat} {vs : List Nat} (f : Nat → V) (hx : SqL K H a xs) (hn : xs.length ≤ 100000) (hw : ∀ x, wipe ((wipe σ vs).set j (some x)) vs = wipe σ vs)
    (he : ∀ (i : Nat) x, xs[i]? = some x → PureE te ((wipe σ vs).set j (some x)) H (f i)) (k : ∀ p H1, H p = none → Ex H H1 → H1 p = some (.lst ((List.range xs.length).map f)) → Q (.ref p) H1) : LcB (Itl K a) (gName j) tYes te vs σ H Q := fun Dl hD => by
  refine lc_list (xs := xs) (fun i H' => Ex H H' ∧ H' Dl = some (.lst ((List.range i).map f))) ⟨Ex.new hD, upd_same⟩ (fun i H' _ p => sql_up p.1 hx) (fun i x H' hi p => ?_) (fun H' p => k Dl H' hD p.1 p.2)
  refine ⟨hw _, ?_⟩
  refine tYes_k ?_
  rw [if_pos rfl]
  have hl : i < xs.length := (List.getElem?_eq_some_iff.mp hi).1
  refine he i x hi H' p.1 _ fun H2 e2 => ⟨_, e2 _ _ p.2, ?_, ?_⟩
  · rw [List.length_map, List.length_range]
    exact len_lt (by omega)
  · refine ⟨fun a o ha => ?_, ?_⟩
    · rw [upd_ne (ne_of_none ha hD)]
      exact e2 _ _ (p.1 _ _ ha)
    · rw [upd_same, List.range_succ, List.map_append]
      rfl
def RowsZ (rs : List (List Int)) : Prop := ∀ r ∈ rs, ∃ n a b m s : Int, r = [n, a, b, m, s] ∧ 0 < m ∧ Sz 3300 n ∧ Sz 3300 a ∧ Sz 3300 b ∧ Sz 3300 m ∧ Sz 3300 s
theorem RowsZ.at {rs : List (List Int)} {i : Nat} {r : List Int} (h : RowsZ rs) (g : rs[i]? = some r) : ∃ n a b m s : Int, r = [n, a, b, m, s] ∧ 0 < m ∧ Sz 3300 n ∧ Sz 3300 a ∧ Sz 3300 b ∧ Sz 3300 m ∧ Sz 3300 s :=
  h r (List.mem_of_getElem? g)
def RowsY (rs : List (List Int)) : Prop := ∀ r ∈ rs, ∃ n a b m s : Int, r = [n, a, b, m, s] ∧ Sz 6900 n ∧ Sz 6900 a ∧ Sz 6900 b ∧ Sz 6900 m ∧ Sz 6900 s
theorem RowsY.at {rs : List (List Int)} {i : Nat} {r : List Int} (h : RowsY rs) (g : rs[i]? = some r) : ∃ n a b m s : Int, r = [n, a, b, m, s] ∧ Sz 6900 n ∧ Sz 6900 a ∧ Sz 6900 b ∧ Sz 6900 m ∧ Sz 6900 s :=
  h r (List.mem_of_getElem? g)
theorem RowsZ.y {rs : List (List Int)} (h : RowsZ rs) : RowsY rs := fun r hr => by
  obtain ⟨n, a, b, m, s, e, _, z1, z2, z3, z4, z5⟩ := h r hr
  exact ⟨n, a, b, m, s, e, z1.mono (by decide), z2.mono (by decide), z3.mono (by decide), z4.mono (by decide), z5.mono (by decide)⟩
theorem RowsZ.app {rs : List (List Int)} {n a b m s : Int} (h : RowsZ rs) (hm : 0 < m) (zn : Sz 3300 n) (za : Sz 3300 a) (zb : Sz 3300 b) (zm : Sz 3300 m) (zs : Sz 3300 s) : RowsZ (rs ++ [[n, a, b, m, s]]) := fun r hr => by
  rcases List.mem_append.mp hr with hr | hr
  · exact h r hr
  · rw [List.mem_singleton.mp hr]
    exact ⟨n, a, b, m, s, rfl, hm, zn, za, zb, zm, zs⟩
theorem Dr.lst {H : Hp} {d : Addr} (D : Dr H d) : ∃ xs, H d = some (.lst xs) := by
  obtain ⟨x, y, h, _⟩ := D
  exact ⟨_, h⟩
theorem Dr.kp {H H' : Hp} {d l : Addr} (D : Dr H d) (n : d ≠ l) (k : Kp l H H') : Dr H' d := by
  obtain ⟨x, y, h, r⟩ := D
  exact ⟨x, y, k _ _ n h, r⟩
/-- l fresh, then changed: all but d kept -/
theorem Kp.via {H H1 H2 : Hp} {d l : Addr} (k : Kp d H H1) (n : H l = none) (k2 : Kp l H1 H2) : Kp d H H2 := fun x o hx h => k2 x o (ne_of_none h n) (k x o hx h)
/-! the same within a comprehension -/
section
variable {X : Cx} {K : PySem.W.Frag}
theorem pg_tupK {es : List Expr} {k : Nat} {t : TGs} {n : Nat} {pos : Pos} (hc : X.calm = true) (h : PGs X es t) (hK : X.K = K := by rfl)
    (hn : (assignEach es X.env).length = n := by rfl) (hst : (assignEach es X.env).findIdx? (·.1) = none := by rfl) : PG X (.Tuple es k pos) (gTup K n t) := hK ▸ pg_tup hc h hn hst
theorem ix_listK (h : X.K = K := by rfl) : IxR X (rIxL K) := h ▸ ix_list
theorem ix_tupK (h : X.K = K := by rfl) : IxR X (rIxT K) := h ▸ ix_tup
theorem sl_tupAK (h : X.K = K := by rfl) : SlR X (rSlA K) := h ▸ sl_tupA
theorem sl_listK (h : X.K = K := by rfl) : SlR X (rSlL K) := h ▸ sl_list
theorem op_eqDK (hu : X.A.units + 64 < cLine) (h : X.K = K := by rfl) : OpR X (compareOp .Eq) (rEqD K) := h ▸ op_eqD hu
theorem op_neDK (hu : X.A.units + 64 < cLine) (h : X.K = K := by rfl) : OpR X (compareOp .NotEq) (rNeD K) := h ▸ op_neD hu
end
/-- [.. for v in a tuple if t], t never -/
theorem lc_tupN {K : PySem.W.Frag} {σ : L2.St} {H : Hp} {Q : VK} {te : TE} {tt : TT} {a : Addr} {xs : List V} {j : Nat} {vs : List Nat} (hx : SqT K H a xs) (hw : ∀ x, wipe ((wipe σ vs).set j (some x)) vs = wipe σ vs)
    (ht : ∀ (i : Nat) x, xs[i]? = some x → PureT tt ((wipe σ vs).set j (some x)) H false) (k : ∀ p H1, H p = none → Ex H H1 → H1 p = some (.lst []) → Q (.ref p) H1) : LcB (Itt K a) (gName j) tt te vs σ H Q := fun Dl hD => by
  refine lc_tup (xs := xs) (fun i H' => Ex H H' ∧ H' Dl = some (.lst [])) ⟨Ex.new hD, upd_same⟩ (fun i H' _ p => sqt_up p.1 hx) (fun i x H' hi p => ?_) (fun H' p => k Dl H' hD p.1 p.2)
  refine ⟨hw _, ht i x hi H' p.1 _ fun H2 e2 => ?_⟩
  rw [if_neg Bool.false_ne_true]
  exact ⟨p.1.trans e2, e2 _ _ p.2⟩
theorem sz_n {n : Int} (h0 : 0 ≤ n) (h1 : n < 1000000000000000000000000000000) : Sz 110 n := by
  show n.natAbs < 2 ^ 110
  omega
/-- values that are rows of five numbers -/
def RY (k : Nat) (H : Hp) (vs : List V) : Prop := ∀ v ∈ vs, ∃ (p : Addr) (n a b m s : Int), v = .ref p ∧ H p = some (.tup [.int n, .int a, .int b, .int m, .int s]) ∧ Sz k n ∧ Sz k a ∧ Sz k b ∧ Sz k m ∧ Sz k s
theorem RY.imp {k : Nat} {H H' : Hp} {vs : List V} (h : RY k H vs) (f : ∀ (p : Addr) (xs : List V), H p = some (.tup xs) → H' p = some (.tup xs)) : RY k H' vs := fun v hv => by
  obtain ⟨p, n, a, b, m, s, e, hp, z⟩ := h v hv
  exact ⟨p, n, a, b, m, s, e, f _ _ hp, z⟩
theorem RY.ex {k : Nat} {H H' : Hp} {vs : List V} (h : RY k H vs) (e : Ex H H') : RY k H' vs := h.imp fun p _ q => e p _ q
theorem RY.kp {k : Nat} {H H' : Hp} {d : Addr} {vs : List V} (h : RY k H vs) (kp : Kp d H H') (D : Dr H d) : RY k H' vs := h.imp fun _ _ q => kp.tup D q
theorem RY.kpL {k : Nat} {H H' : Hp} {d : Addr} {vs ys : List V} (h : RY k H vs) (kp : Kp d H H') (D : H d = some (.lst ys)) : RY k H' vs := h.imp fun _ _ q => kp.tupL D q
theorem RY.sub {k : Nat} {H : Hp} {vs us : List V} (h : RY k H vs) (f : ∀ v ∈ us, v ∈ vs) : RY k H us := fun v hv => h v (f v hv)
theorem RY.app {k : Nat} {H : Hp} {vs us : List V} (h : RY k H vs) (h' : RY k H us) : RY k H (vs ++ us) := fun v hv => (List.mem_append.mp hv).elim (h v) (h' v)
theorem RY.rows {H : Hp} : ∀ {vs : List V}, RY 6900 H vs → ∃ rs, RowsA H vs rs ∧ RowsY rs
  | [], _ => ⟨[], trivial, fun _ h => by cases h⟩
  | v :: vs, h => by
    obtain ⟨rs, h1, h2⟩ := RY.rows (H := H) (vs := vs) fun u hu => h u (List.mem_cons_of_mem _ hu)
    obtain ⟨p, n, a, b, m, s, e, hp, z⟩ := h v (List.mem_cons_self ..)
    refine ⟨[n, a, b, m, s] :: rs, ⟨⟨p, e, hp⟩, h1⟩, fun r hr => ?_⟩
    rcases List.mem_cons.mp hr with hr | hr
    · exact ⟨n, a, b, m, s, hr, z⟩
    · exact h2 r hr
theorem RowsA.ry {H : Hp} : ∀ {vs : List V} {rs : List (List Int)}, RowsA H vs rs → RowsZ rs → RY 3300 H vs
  | [], [], _, _ => fun _ h => by cases h
  | v :: vs, r :: rs, ⟨⟨p, e, hp⟩, h⟩, z => fun u hu => by
    rcases List.mem_cons.mp hu with hu | hu
    · obtain ⟨n, a, b, m, s, er, _, z'⟩ := z r (List.mem_cons_self ..)
      subst er
      exact ⟨p, n, a, b, m, s, hu.trans e, hp, z'⟩
    · exact RowsA.ry h (fun r hr => z r (List.mem_cons_of_mem _ hr)) u hu
  | [], _ :: _, h, _ => h.elim
  | _ :: _, [], h, _ => h.elim
theorem RY.mono {k j : Nat} {H : Hp} {vs : List V} (h : RY k H vs) (l : k ≤ j) : RY j H vs := fun v hv => by
  obtain ⟨p, n, a, b, m, s, e, hp, z1, z2, z3, z4, z5⟩ := h v hv
  exact ⟨p, n, a, b, m, s, e, hp, z1.mono l, z2.mono l, z3.mono l, z4.mono l, z5.mono l⟩
/-- a paper by a value -/
def PpV (H : Hp) (d : Addr) (v : V) : Prop := ∃ (l : Addr) (vs : List V), v = .ref l ∧ l ≠ d ∧ H l = some (.lst vs) ∧ RY 6900 H vs ∧ vs.length ≤ 6000
theorem PpV.ex {H H' : Hp} {d : Addr} {v : V} (h : PpV H d v) (e : Ex H H') : PpV H' d v := by
  obtain ⟨l, vs, e1, n, h1, h2, h3⟩ := h
  exact ⟨l, vs, e1, n, e _ _ h1, h2.ex e, h3⟩
theorem PpV.kp {H H' : Hp} {d : Addr} {v : V} (h : PpV H d v) (k : Kp d H H') (D : Dr H d) : PpV H' d v := by
  obtain ⟨l, vs, e1, n, h1, h2, h3⟩ := h
  exact ⟨l, vs, e1, n, k _ _ n h1, h2.kp k D, h3⟩
theorem PpV.kpL {H H' : Hp} {d q : Addr} {v : V} {ys : List V} (h : PpV H d v) (k : Kp q H H') (D : H q = some (.lst ys)) (n : v ≠ .ref q) : PpV H' d v := by
  obtain ⟨l, vs, e1, nd, h1, h2, h3⟩ := h
  exact ⟨l, vs, e1, nd, k _ _ (fun z => n (by rw [e1, z])) h1, h2.kpL k D, h3⟩
theorem r_sum {K : PySem.W.Frag} {H : Hp} {Q : VK} {p : Addr} {ns : List Int} (h : SqL K H p (ns.map V.int)) (k : Q (.int ns.sum) H) : rSum K [.ref p] H Q := ⟨p, ns, rfl, h, k⟩
theorem r_tyS {K : PySem.W.Frag} {H : Hp} {z : Str} {R : Prop} (k : R) : tyV K "str" (.str z) H ∧ R := ⟨rfl, k⟩
/-- sep.join(a list of texts) -/
def rJoin (K : PySem.W.Frag) : V → List V → Hp → VK → Prop := fun x xs H Q => ∃ a p, ∃ ys : List Str, x = .str a ∧ xs = [.ref p] ∧ (SqL K H p (ys.map V.str) ∨ SqT K H p (ys.map V.str)) ∧ (ys.map (·.length)).sum + ys.length * a.length ≤ 16777216 ∧ Q (.str (Txt.join a ys)) H
theorem mt_joinR {X : Cx} : MtR X "str.join" (rJoin X.K) := mt_join
theorem r_join {K : PySem.W.Frag} {H : Hp} {Q : VK} {a : Str} {p : Addr} {ys : List Str} (h : SqL K H p (ys.map V.str)) (n : (ys.map (·.length)).sum + ys.length * a.length ≤ 16777216) (k : Q (.str (Txt.join a ys)) H) : rJoin K (.str a) [.ref p] H Q := ⟨a, p, ys, rfl, rfl, .inl h, n, k⟩
theorem r_iZip {K : PySem.W.Frag} {ta : TA} {σ : L2.St} {H : Hp} {R : It → Hp → Prop} (k : ta σ H fun vs H1 => ∃ a b xs ys, vs = [.ref a, .ref b] ∧ SqL K H1 a xs ∧ SqL K H1 b ys ∧ R (Itz K a b) H1) : iZip K ta σ H R := k
/-- [e for x, y in zip(two lists of whole numbers)] -/
theorem lc_zipI {K : PySem.W.Frag} {σ : L2.St} {H : Hp} {Q : VK} {te : TE} {a b : Addr} {xs ys : List Int} {j1 j2 : Nat} {vs : List Nat} (f : Int → Int → V) (ha : SqL K H a (xs.map V.int)) (hb : SqL K H b (ys.map V.int)) (hn : xs.length ≤ 100000)
    (hw : ∀ x y, wipe (((wipe σ vs).set j1 (some x)).set j2 (some y)) vs = wipe σ vs)
    (he : ∀ (i : Nat) x y, xs[i]? = some x → ys[i]? = some y → PureE te (((wipe σ vs).set j1 (some (.int x))).set j2 (some (.int y))) H (f x y))
    (k : ∀ p H1, H p = none → Ex H H1 → H1 p = some (.lst ((xs.zip ys).map fun q => f q.1 q.2)) → Q (.ref p) H1) : LcB (Itz K a b) (gTup K 2 (gCons (gName j1) (gCons (gName j2) gNil))) tYes te vs σ H Q := fun Dl hD => by
  have lz : (xs.zip ys).length = min xs.length ys.length := List.length_zip
  refine ⟨fun i m H' => m = (xs.zip ys).length - i ∧ i ≤ (xs.zip ys).length ∧ Ex H H' ∧ H' Dl = some (.lst (((xs.zip ys).take i).map fun q => f q.1 q.2)), ⟨_, rfl, Nat.zero_le _, Ex.new hD, by rw [upd_same]; rfl⟩, ?_⟩
  rintro i m H' ⟨rfl, hi, e, hd⟩
  by_cases hx : i = (xs.zip ys).length
  · subst hx
    refine .inl ⟨⟨_, _, sql_up e ha, sql_up e hb, by rw [List.length_map, List.length_map]; omega⟩, ?_⟩
    rw [List.take_length] at hd
    exact k Dl H' hD e hd
  · have h1 : i < xs.length := by omega
    have h2 : i < ys.length := by omega
    have g1 : (xs.map V.int)[i]? = some (.int xs[i]) := by rw [List.getElem?_map, List.getElem?_eq_getElem h1]; rfl
    have g2 : (ys.map V.int)[i]? = some (.int ys[i]) := by rw [List.getElem?_map, List.getElem?_eq_getElem h2]; rfl
    have gz : (xs.zip ys)[i]? = some (xs[i], ys[i]) := by
      rw [List.getElem?_eq_getElem (by omega), List.getElem_zip]
    refine .inr ⟨⟨_, _, _, _, sql_up e ha, sql_up e hb, g1, g2⟩, fun H3 => Ex H H3 ∧ H3 Dl = some (.lst (((xs.zip ys).take (i + 1)).map fun q => f q.1 q.2)), fun H3 p => ⟨(xs.zip ys).length - (i + 1), by omega, rfl, by omega, p⟩, ?_⟩
    rintro x H2 ⟨T, x1, y1, rfl, hT, rfl, q1, q2⟩
    have e1 : x1 = .int xs[i] := Option.some.inj ((q1 _ (sql_up e ha)).symm.trans g1)
    have e2 : y1 = .int ys[i] := Option.some.inj ((q2 _ (sql_up e hb)).symm.trans g2)
    subst e1 e2
    refine ⟨T, _, rfl, SqT.of upd_same, rfl, _, _, rfl, _, _, rfl, rfl, hw _ _, ?_⟩
    have eT : Ex H' (upd H' T (.tup [.int xs[i], .int ys[i]])) := Ex.new hT
    refine tYes_k ?_
    rw [if_pos rfl]
    refine he i xs[i] ys[i] (List.getElem?_eq_getElem h1) (List.getElem?_eq_getElem h2) _ (e.trans eT) _ fun H4 e4 => ⟨_, e4 _ _ (eT _ _ hd), ?_, ?_⟩
    · rw [List.length_map, List.length_take]
      exact len_lt (by omega)
    · refine ⟨fun a o ho => ?_, ?_⟩
      · rw [upd_ne (ne_of_none ho hD)]
        exact e4 _ _ (eT _ _ (e _ _ ho))
      · rw [upd_same, List.take_add_one, gz, List.map_append]
        rfl
theorem cut_1 (xs : List V) (h : 1 ≤ xs.length) : cutV xs (some 1) none = xs.drop 1 := by
  have e1 : HT.sIx xs.length 0 (some 1) = 1 := by
    unfold HT.sIx
    simp
    omega
  have e2 : HT.sIx xs.length xs.length none = xs.length := rfl
  unfold cutV
  rw [e1, e2, List.take_of_length_le (by rw [List.length_drop]; omega)]
/-- [e for x in a list of whole numbers if t] -/
theorem lc_lstFI {K : PySem.W.Frag} {σ : L2.St} {H : Hp} {Q : VK} {te : TE} {tt : TT} {a : Addr} {ns : List Int} {j : Nat} {vs : List Nat} (c : Int → Bool) (f : Int → V) (hx : SqL K H a (ns.map V.int)) (hn : ns.length ≤ 100000) (hw : ∀ x, wipe ((wipe σ vs).set j (some x)) vs = wipe σ vs)
    (ht : ∀ x ∈ ns, PureT tt ((wipe σ vs).set j (some (.int x))) H (c x)) (he : ∀ x ∈ ns, c x = true → PureE te ((wipe σ vs).set j (some (.int x))) H (f x))
    (k : ∀ p H1, H p = none → Ex H H1 → H1 p = some (.lst ((ns.filter c).map f)) → Q (.ref p) H1) : LcB (Itl K a) (gName j) tt te vs σ H Q := fun Dl hD => by
  refine lc_list (xs := ns.map V.int) (fun i H' => Ex H H' ∧ H' Dl = some (.lst (((ns.take i).filter c).map f))) ⟨Ex.new hD, upd_same⟩ (fun i H' _ p => sql_up p.1 hx) (fun i x H' hi p => ?_) (fun H' p => k Dl H' hD p.1 (by rw [p.2, List.length_map, List.take_length]))
  rw [List.getElem?_map] at hi
  obtain ⟨z, hz, rfl⟩ := Option.map_eq_some_iff.mp hi
  have mem := List.mem_of_getElem? hz
  have tk : ns.take (i + 1) = ns.take i ++ [z] := by rw [List.take_add_one, hz]; rfl
  refine ⟨hw _, ht z mem H' p.1 _ fun H2 e2 => ?_⟩
  cases hc : c z with
  | true =>
    rw [if_pos rfl]
    refine he z mem hc H2 (p.1.trans e2) _ fun H3 e3 => ⟨_, e3 _ _ (e2 _ _ p.2), ?_, ?_⟩
    · rw [List.length_map]
      have := List.length_filter_le c (ns.take i)
      rw [List.length_take] at this
      exact len_lt (by omega)
    · refine ⟨fun b o hb => ?_, ?_⟩
      · rw [upd_ne (ne_of_none hb hD)]
        exact e3 _ _ (e2 _ _ (p.1 _ _ hb))
      · rw [upd_same, tk, List.filter_append, List.map_append]
        simp [hc]
  | false =>
    rw [if_neg Bool.false_ne_true]
    refine ⟨p.1.trans e2, ?_⟩
    rw [tk, List.filter_append, List.map_append]
    simp [hc, e2 _ _ p.2]
/-! ### a def that calls itself: one frame a turn -/
structure RmD (j : Nat) (A : Around) : Prop where
  hd : A.handled = none
  dp : A.depth + j + 20 < recursionLimit
  un : A.units + 3 * j + 300 < cLine
theorem RmD.room {j : Nat} {A : Around} (r : RmD j A) : Room 2 A := ⟨r.hd, by have := r.dp; omega, by have := r.un; omega⟩
theorem RmD.deeper {j : Nat} {A : Around} (r : RmD (j + 1) A) (env : Env) : RmD j (A.deeper env) :=
  ⟨r.hd, by have := r.dp; show A.depth + 1 + j + 20 < _; omega, by have := r.un; show A.units + 3 + 3 * j + 300 < _; omega⟩
theorem RmD.of {k j : Nat} {A : Around} (r : Room k A) (h : j + 40 ≤ 3 * k) : RmD j A := ⟨r.hd, by have := r.dp; omega, by have := r.un; omega⟩
/-- the def named x keeps the promise sp where there is room for j turns -/
def HasD (P : Program) (w : World) (K : PySem.W.Frag) (mg : Str → Option Value) (base : Heap) (j : Nat) (x : Str) (ps : List Str) (sp : Sp) : Prop :=
  ∃ f fd, mg x = some (.ref f) ∧ PySem.W.keepIn K (.ref f) = true ∧ Binds K fd ps [] ∧ (∀ vs H Q E, sp vs H Q E → vs.length = ps.length) ∧
    ∀ (A : Around) (outer : List Env) (s : Shared) (H : Hp) (args : Args) (us : List Value) (vs : List V) (Q : VK) (E : XK), RmD j A → Env0 P w K mg base A outer s H → BindsTo s fd args (ps.zip us) → Vals vs us → sp vs H Q E →
      codeAny (model P w) A (.call (.ref f) args) (CR CX0 outer P w H s Q E) s
section
variable {P : Program} {w : World} {K : PySem.W.Frag} {mg : Str → Option Value} {base : Heap}
theorem DefAt.okD {x : Str} {st : Stmt} {N ps : List Str} {j : Nat} {sp : Sp} (D : DefAt K mg x st ps) (S : FnScope N ps (defScope st)) (len : ∀ vs H Q E, sp vs H Q E → vs.length = ps.length)
    (hbody : ∀ (f : Addr) (cdv : Value) (A : Around) (outer : List Env) (s : Shared) (H : Hp) (vs : List V) (Q : VK) (E : XK), RmD j (A.deeper (envOfC x (defScope st) s.heap.objs.size f cdv)) → sp vs H Q E →
      ∃ t, PSs (cxOf CX0 P w K mg base N x (defScope st) f cdv A outer s H E).nox (defBody st) t ∧ t { nx := fun _ H' => Q .non H', rt := Q } (start N vs) H) : HasD P w K mg base (j + 1) x ps sp := by
  obtain ⟨f, fd, F, m, b⟩ := D
  refine ⟨f, fd, m, F.kp, b, len, fun A outer s H args us vs Q E rm e0 hb rv hs => ?_⟩
  obtain ⟨_, _, _, _, _, _, cdv, _, _, rfl, lk, cd⟩ := F.ex
  have grown : ∀ (a : Addr) (o : Obj), base.get? a = some o → s.heap.get? a = some o := fun a o h => (e0.bs a o h).1
  have locals : ∀ y ∈ ps.zip us, (defScope st).names.lookup y.1 = some .local ∨ ((defScope st).names.lookup y.1 = some .cell ∧ ((cellsFrom (s.heap.objs.size + 1) (defScope st).names []).lookup y.1).isSome = true) := by
    rintro ⟨y, u⟩ hy
    exact (S.par y (List.of_mem_zip hy).1).imp id fun c => ⟨c, PySem.W.cellsFrom_some _ _ _ (.inl c)⟩
  refine codeAny_call_function (by have := rm.dp; omega) (e0.mod.kin.keeps grown _ _ lk) rfl S.co S.gen rfl (PySem.W.codeRec_of (e0.mod.kin.keeps grown) cd) (hb _ _ _ _ ?_)
  refine wpAny_newFunctionEnv_cells S.kind locals ?_
  rintro env rfl s1 ic
  refine ⟨(e0.mod.nolimit.keeps grown).keeps ic.toInCall.keep, codeAny_func ?_⟩
  obtain ⟨t, ht, hq⟩ := hbody f cdv A outer s H vs Q E (rm.deeper _) hs
  refine wpAny_mono (ht.nox.run [] s1 (start N vs) H _ (inv_start S rm.hd e0 (len _ _ _ _ hs) rv ic) hq) (fun fl s' h => ?_) fun _ _ h => h
  cases fl with
  | ret u =>
    obtain ⟨v, _, H', J, r, q⟩ := h
    exact ⟨v, H', J.os, J.bare, J.base, J.hok, r, q⟩
  | next =>
    obtain ⟨_, H', J, q⟩ := h
    exact ⟨.non, H', J.os, J.bare, J.base, J.hok, rfl, q⟩
  | brk =>
    obtain ⟨_, _, _, q⟩ := h
    exact q.elim
  | cont =>
    obtain ⟨_, _, _, q⟩ := h
    exact q.elim
/-- nothing is promised of what never is -/
theorem DefAt.none {x : Str} {st : Stmt} {ps : List Str} {j : Nat} {sp : Sp} (D : DefAt K mg x st ps) (no : ∀ vs H Q E, ¬ sp vs H Q E) : HasD P w K mg base j x ps sp := by
  obtain ⟨f, fd, F, m, b⟩ := D
  exact ⟨f, fd, m, F.kp, b, fun _ _ _ _ h => (no _ _ _ _ h).elim, fun _ _ _ _ _ _ _ _ _ _ _ _ _ h => (no _ _ _ _ h).elim⟩
theorem HasD.has {x : Str} {ps : List Str} {j k : Nat} {sp : Sp} (G : HasD P w K mg base j x ps sp) (h : j + 40 ≤ 3 * k) : Has P w K mg base CX0 k x ps sp := by
  obtain ⟨f, fd, m, kp, b, len, r⟩ := G
  exact ⟨f, fd, m, kp, b, len, fun A outer s H args us vs Q E hr => r A outer s H args us vs Q E (.of hr h)⟩
end
section
variable {X : Cx} {x : Str} {p pos : Pos} {e : Expr} {es : List Expr} {t : TA} {j : Nat} {ps : List Str} {sp : Sp}
/-- f(e, ..), f itself -/
theorem pcallD (G : HasD X.prog X.w X.K X.mg X.base j x ps sp) (rm : RmD j X.A) (ha : PA X (e :: es) t) (hg : Gl X x := by rfl)
    (hdb : (x == ("__debug__" : Str)) = false := by decide) (he : starEach (e :: es) X.env = (false, eval e X.env) :: starEach es X.env := by rfl) (hpl : (backTo pos (starEach es X.env)).any (·.1) = false := by rfl) :
    PE X (.Call (.Name x p) (e :: es) [] pos) (tCal sp E0 t) := by
  obtain ⟨f, fd, m, kp, b, len, run⟩ := G
  refine ⟨fun pins s σ H Q I h => wpAny_Call_Name_kw (ld_glob I hg m ?_ hdb)⟩
  have h' : t σ H fun vs H1 => sp vs H1 Q E0 := h
  refine PySem.W.callWith_K (h₀ := X.base) I.ok.mod.kin kp (thn (ha.run pos pins s σ H _ I h') fun us s1 ⟨vs, H1, I1, rv, q⟩ => ⟨I1.kIn, ?_⟩) he hpl
  have hu : us.length = ps.length := by rw [← rv.length]; exact len _ _ _ _ q
  have hb := b s1 us I1.kIn (by rw [List.append_nil]; exact hu)
  rw [List.append_nil] at hb
  refine wpAny_call (codeAny_mono (run X.A X.stack s1 H1 ⟨us, []⟩ us vs Q E0 rm I1.env0 hb rv q) fun r s2 hr => ?_)
  match r, hr with
  | .error err, hr => exact pass0 pins σ H1 s1 err s2 I1 hr
  | .ok (.ret u), hr => exact I1.after hr
  | .ok .next, hr => exact hr.elim
  | .ok .brk, hr => exact hr.elim
  | .ok .cont, hr => exact hr.elim
end
end Sd

set_option Elab.async false
set_option linter.all false
set_option maxRecDepth 100000
set_option maxHeartbeats 4000000
/-! exceptions: a list walked beside another one while an exception is handled -/
namespace Sd
open PySem PySem.Spec PyProof.Rows L2 HotX
section
variable {prog : Program} {w : World} {A : Around} {E : Value → Shared → Prop} {s : Shared}
theorem hot_but {x1 it : Addr} {h h' : Heap} (hot : HotAt A x1 h) (e : Heap.ExtBut it h h') (n : x1 ≠ it) : HotAt A x1 h' := by
  obtain ⟨hh, o, vs, h1, d1, c1⟩ := hot
  exact ⟨hh, o, vs, e _ _ n h1, d1, c1⟩
/-- the list's iterator is at its end, an exception is handled -/
theorem next_end_hot {it l x1 : Addr} {i : Nat} {items : Array Value} {Q : Value → Shared → Prop} (hot : HotAt A x1 s.heap) (nx : x1 ≠ it)
    (hit : s.heap.IsListIter it l i) (hl : s.heap.IsList l items) (hx : items[i]? = none)
    (hE : ∀ h' e, Heap.ExtBut it s.heap h' → (∃ o, h'.get? e = some o ∧ o.cls = .type "StopIteration") → E (.ref e) { s with heap := h' }) :
    wpAny (model prog w) A (Builtin.SmallTypes.nextOf (.ref it)) Q E s := by
  have hit' := hit
  obtain ⟨o, ho, hc, hd⟩ := hit'
  have hl' := hl
  obtain ⟨ol, hol, _, nl, hdl⟩ := hl'
  unfold Builtin.SmallTypes.nextOf
  refine wpAny_bind (wpAny_callSpecial?_slot (name := Str.ofString "__next__") hit.typeIs slot_listiter_next (wpAny_call_entry slot_listiter_next hit.typeIs entry_listiter_next ?_ (args_listiter_next _)))
  refine (show wpAny _ _ (field (.ref it) 0 >>= _) _ _ s from wpAny_bind (wpAny_field ho hd (x := .ref l) rfl ?_))
  have nn : ¬ ((Value.ref l == Value.none) = true) := fun z => Bool.false_ne_true z
  show wpAny _ _ (if (Value.ref l == Value.none) = true then _ else _) _ _ s
  rw [if_neg nn]
  refine (show wpAny _ _ (field (.ref it) 1 >>= _) _ _ s from wpAny_bind (wpAny_field ho hd (x := .int i 0) rfl ?_))
  refine (show wpAny _ _ (seqItems? (.ref l) >>= _) _ _ s from wpAny_bind (wpAny_seqItems hol hdl ?_))
  simp only [Int.toNat_natCast, hx]
  refine wpAny_bind (wpAny_rule (wpAny_bind (wpAny_setField ho hd (by simp) ?_)))
  have sb : Heap.ExtBut it s.heap (s.heap.update it (Obj.mapFields fun x => x.setIfInBounds 0 Value.none)) := (Heap.SameBut.update ..).extBut
  have hot1 := hot_but hot sb nx
  refine (show wpAny _ _ (newExc (.type "StopIteration") [] >>= _) _ _ _ from wpAny_bind ?_)
  simp only [newExc, newTuple]
  refine wpAny_bind (wpAny_newObj_type ?_ (by size_fits))
  refine wpAny_bind (m := firstArgMember _ _) (wpAny_of_eq (a := Value.none) (by first | rfl | (simp only [firstArgMember]; rfl)) ?_)
  refine wpAny_newObj_type ?_ (by size_fits)
  obtain ⟨hh, o1, vs1, h1, d1, c1⟩ := hot1
  refine raiseNew_hot (x1 := x1) ⟨hh, o1, vs1, Heap.get?_push_of_some _ (Heap.get?_push_of_some _ h1), d1, c1⟩ (Nat.ne_of_lt (Heap.lt_size (Heap.get?_push_of_some _ h1))) (Heap.get?_push_size _ rfl) rfl (by first | (simp; done) | (simp; omega) | (simp only [Array.size_append]; simp; omega)) ?_
  refine hE _ _ (fun c u nc ec => ?_) ⟨_, Heap.get?_update_self _ (Heap.get?_push_size _ rfl) rfl, rfl⟩
  have e1 := Heap.get?_push_of_some { cls := .type "tuple", data := .seq ([] : List Value).toArray } (sb c u nc ec)
  rw [Heap.get?_update_other _ _ (Nat.ne_of_gt (Heap.lt_size (by first | exact e1 | exact Heap.get?_push_of_some _ (sb c u nc ec))))]
  exact Heap.get?_push_of_some _ (Heap.get?_push_of_some _ (sb c u nc ec))
end
section
variable {prog : Program} {w : World} {A : Around} {E : Value → Shared → Prop} {s : Shared}
/-- the zip of two lists is at its end as the first one is -/
theorem zip_stop_hot {x1 z TI TO i1 i2 l1 l2 : Addr} {k1 : Nat} {xs : Array Value} {Q : Option Value → Shared → Prop} (hot : HotAt A x1 s.heap) (nz : x1 ≠ z) (n1 : x1 ≠ i1) (D : ZipApart z TI TO i1 i2 l1 l2)
    (hz : IsZip s.heap z TI TO .none) (hTI : IsPair s.heap TI (.ref i1) (.ref i2)) (h1 : s.heap.IsListIter i1 l1 k1) (hl1 : s.heap.IsList l1 xs) (hx : xs[k1]? = none)
    (hQ : ∀ h', (∀ c o, c ≠ z → c ≠ i1 → s.heap.get? c = some o → h'.get? c = some o) → Q none { s with heap := h' }) : wpAny (model prog w) A (pyNext (.ref z)) Q E s := by
  have hT : s.TypeIs (.ref z) "zip" := ⟨_, hz, rfl⟩
  have way : wpAny (model prog w) A.in1 (Builtin.«zip.__next__» ⟨[.ref z], []⟩) (fun fin s' => ∃ v, fin = .done (.ret v) ∧ False) (fun e s' => ∃ e', e = .ref e' ∧ (∃ o, s'.heap.get? e' = some o ∧ o.cls = .type "StopIteration") ∧ Q none s') s := by
    refine (show wpAny _ _ (field (.ref z) 2 >>= _) _ _ _ from wpAny_bind (wpAny_field hz rfl (x := .bool false) rfl ?_))
    refine (show wpAny _ _ (field (.ref z) 3 >>= _) _ _ _ from wpAny_bind (wpAny_field hz rfl (x := .ref TI) rfl ?_))
    refine wpAny_bind (wpAny_seqItems hTI rfl ?_)
    refine (show wpAny _ _ (Builtin.SmallTypes.ownedTupleIsFree (.ref z) >>= _) _ _ _ from wpAny_bind ?_)
    unfold Builtin.SmallTypes.ownedTupleIsFree
    refine wpAny_bind (wpAny_field hz rfl (x := .none) rfl (wpAny_pure ?_))
    simp only [if_true]
    refine wpAny_bind (wpAny_rule (wpAny_bind (wpAny_field hz rfl (x := .ref TO) rfl (wpAny_bind (wpAny_setField_rec hz (by simp) fun h2 hz2 hs2 => ?_)))))
    replace hz2 : IsZip h2 z TI TO .ellipsis := hz2
    refine wpAny_bind ?_
    simp only [List.zipIdx_cons, List.zipIdx_nil, List.forIn_cons, List.forIn_nil]
    refine wpAny_bind (wpAny_bind (wpAny_onRaise ?_))
    have hot2 : HotAt A x1 h2 := hot_but hot hs2.extBut nz
    refine (show wpAny _ _ (Builtin.SmallTypes.nextOf (.ref i1) >>= _) _ _ _ from wpAny_bind (next_end_hot (x1 := x1) hot2 n1 (h1.extBut hs2.extBut D.i1z) (hl1.extBut hs2.extBut D.l1z) hx fun h3 e hs3 he => ?_))
    obtain ⟨oe, hoe, hce⟩ := he
    have hz3 : IsZip h3 z TI TO .ellipsis := hs3 _ _ D.i1z.symm hz2
    have hez : e ≠ z := fun q => by
      rw [q, hz3] at hoe
      cases hoe
      simp at hce
    refine wpAny_setField_rec hz3 (by simp) fun h4 _ hs4 => ⟨e, rfl, ⟨oe, hs4.extBut _ _ hez hoe, hce⟩, hQ h4 fun c o c1 c2 q => hs4.extBut _ _ c1 (hs3 _ _ c2 (hs2.extBut _ _ c1 q))⟩
  unfold pyNext
  refine wpAny_bind (wpAny_attempt (wpAny_callSpecial?_slot (name := Str.ofString "__next__") hT F.slot_zip_next (wpAny_call_entry F.slot_zip_next hT F.entry_zip_next (wpAny_mono way (fun f s' q => ?_) fun e s' q => ?_) (F.args_zip_next_1 _))))
  · obtain ⟨_, _, q⟩ := q
    exact q.elim
  · obtain ⟨e', rfl, ⟨o, ho, hc⟩, q⟩ := q
    exact wpAny_bind (wpAny_isInstance (T := "StopIteration") (b := true) ⟨o, ho, hc⟩ isSubtype_stop (wpAny_pure q))
end
theorem hot_at {X : Cx} {pins : List (Addr × Obj)} {σ : L2.St} {H : Hp} {s : Shared} (c : L2H.HotC X) (I : Inv X pins σ H s) : ∃ x1, HotAt X.A x1 s.heap ∧ ∃ p ∈ X.pn ++ pins, p.1 = x1 := by
  obtain ⟨p, ⟨hh, v1, e1, c1⟩, hp⟩ := c
  exact ⟨p.1, ⟨hh, p.2, v1, (I.pin p (List.mem_append_left _ hp)).1, e1, c1⟩, p, List.mem_append_left _ hp, rfl⟩
theorem turn_zipH {P : Program} {w : World} {K : PySem.W.Frag} {elts : List Expr} {kk : Nat} {tpos : Pos} {a b z TI TO i1 i2 : Addr} (D : ZipApart z TI TO i1 i2 a b) :
    L2H.TurnH P w K (.Tuple elts kk tpos) ⟨(Itz K a b).go, (Itz K a b).yld, fun i H => ∃ xs : List V, SqL K H a xs ∧ xs.length ≤ i⟩ [z, TI, TO, i1, i2] z (fun i h => IsZip h z TI TO .none ∧ IsPair h TI (.ref i1) (.ref i2) ∧ (∃ x y, IsPair h TO x y) ∧ h.IsListIter i1 a i ∧ h.IsListIter i2 b i) where
  mem := List.mem_cons_self
  obj := fun i h ⟨hz, hTI, ⟨x, y, hTO⟩, ⟨o1, e1, _, d1⟩, ⟨o2, e2, _, d2⟩⟩ c hc => by
    have e' : c = z ∨ c = TI ∨ c = TO ∨ c = i1 ∨ c = i2 := by simpa using hc
    rcases e' with rfl | rfl | rfl | rfl | rfl
    · exact ⟨_, hz, fun v q => nomatch q⟩
    · exact ⟨_, hTI, fun v q => nomatch q⟩
    · exact ⟨_, hTO, fun v q => nomatch q⟩
    · exact ⟨o1, e1, fun v q => by rw [d1] at q; cases q⟩
    · exact ⟨o2, e2, fun v q => by rw [d2] at q; cases q⟩
  keep := fun i h h' ⟨hz, hTI, ⟨x, y, hTO⟩, h1, h2⟩ k =>
    ⟨k z (by simp) _ hz, k TI (by simp) _ hTI, ⟨x, y, k TO (by simp) _ hTO⟩, h1.at fun o q => k i1 (by simp) o q, h2.at fun o q => k i2 (by simp) o q⟩
  item := by
    intro X hP hw hK hc i pins s σ H E I hf st hg
    subst hP hw hK
    obtain ⟨hz, hTI, ⟨x0, y0, hTO⟩, h1, h2⟩ := st
    obtain ⟨xs, ys, x, y, hqx, hqy, hx, hy⟩ := hg
    obtain ⟨its, rv, p, _⟩ := I.list hqx
    obtain ⟨its2, rv2, p2, _⟩ := I.list hqy
    obtain ⟨u, hu, ru⟩ := rv.get hx
    obtain ⟨u2, hu2, ru2⟩ := rv2.get hy
    refine wpAny_pyNext_zip_item D hz hTI hTO h1 h2 p.isList p2.isList (x := u) (y := u2) (by simpa using hu) (by simpa using hu2) fun h' z' TO' h1' h2' hT hsz hk => ⟨_, rfl, ?_⟩
    refine wpAny_letOwnedTupleGo_zip (s := { s with heap := h' }) z' fun h'' z'' sb => ?_
    have big : ∀ c o, s.heap.get? c = some o → s.heap.objs.size ≠ c := fun c o e => Nat.ne_of_gt (Heap.lt_size e)
    have new : ObjOk X.prog X.w (upd H s.heap.objs.size (.tup [x, y])) h'' s.heap.objs.size (.tup [x, y]) :=
      ⟨by show 2 ≤ sizeLine; decide, [u, u2], .cons ru (.cons ru2 .nil), ⟨_, (sb.2 _ (big _ _ hz)).trans hT, rfl, _, rfl⟩⟩
    have I1 : Inv X pins σ (upd H s.heap.objs.size (.tup [x, y])) { s with heap := h'' } :=
      I.turnedNew (t' := s.toks) (ch := [z, TI, TO, i1, i2]) (fun c o hb q => (sb.2 c (fun q' => hb (by simp [q']))).trans (hk c o (fun q' => hb (by simp [q'])) (fun q' => hb (by simp [q'])) (fun q' => hb (by simp [q'])) (fun q' => hb (by simp [q'])) q)) hf (Nat.le_refl _) new
    refine ⟨.ref s.heap.objs.size, _, I1, rfl, ⟨_, x, y, rfl, I.hok.fresh (Nat.le_refl _), rfl, fun l hl => by rw [I.list_inj hl hqx]; exact hx, fun l hl => by rw [I.list_inj hl hqy]; exact hy⟩,
      ⟨z'', (sb.2 _ D.TIz).trans (hk _ _ D.TIz D.TITO D.TIi1 D.TIi2 hTI), ⟨u, u2, (sb.2 _ D.TOz).trans TO'⟩, h1'.at fun o q => (sb.2 _ D.i1z).trans q, h2'.at fun o q => (sb.2 _ D.i2z).trans q⟩, fun c hcm => ?_⟩
    rw [upd_ne]
    · exact (hf c hcm).1
    · intro q
      have e' : c = z ∨ c = TI ∨ c = TO ∨ c = i1 ∨ c = i2 := by simpa using hcm
      obtain ⟨o1, e1, _⟩ := h1
      obtain ⟨o2, e2, _⟩ := h2
      rcases e' with r | r | r | r | r
      · exact big _ _ hz (q.symm.trans r)
      · exact big _ _ hTI (q.symm.trans r)
      · exact big _ _ hTO (q.symm.trans r)
      · exact big _ _ e1 (q.symm.trans r)
      · exact big _ _ e2 (q.symm.trans r)
  done := by
    intro X hP hw hK hc i pins s σ H E I hf st hg
    subst hP hw hK
    obtain ⟨hz, hTI, _, h1, _⟩ := st
    obtain ⟨xs, hqx, hend⟩ := hg
    obtain ⟨its, rv, p, _⟩ := I.list hqx
    obtain ⟨x1, hot, q, hq, e1⟩ := hot_at hc I
    have ap : ∀ c ∈ [z, TI, TO, i1, i2], x1 ≠ c := fun c hc => by
      rw [← e1]
      exact (hf c hc).2.2.2.2.2 q hq
    exact zip_stop_hot hot (ap z (by simp)) (ap i1 (by simp)) D hz hTI h1 p.isList (by have := rv.length; simp; omega) fun h' hk =>
      ⟨rfl, I.turnedL (t' := s.toks) (ch := [z, TI, TO, i1, i2]) (fun c o hb q => hk c o (fun q' => hb (by simp [q'])) (fun q' => hb (by simp [q'])) q) hf⟩
  self := fun A i s Q E st h => wpAny_pyIter_zip st.1 h
def ItzH (K : PySem.W.Frag) (a b : Addr) : It := ⟨(Itz K a b).go, (Itz K a b).yld, fun i H => ∃ xs : List V, SqL K H a xs ∧ xs.length ≤ i⟩
def iZipH (K : PySem.W.Frag) (ta : TA) : TI := fun σ H R => ta σ H fun vs H1 => ∃ a b xs ys, vs = [.ref a, .ref b] ∧ SqL K H1 a xs ∧ SqL K H1 b ys ∧ R (ItzH K a b) H1
theorem pi_zipH {X : Cx} {e e2 : Expr} {ta : TA} {p pos tpos : Pos} {elts : List Expr} {kk : Nat} (hg : Gl X "zip") (hm : X.mg "zip" = none) (ha : PA X [e, e2] ta)
    (hs : starEach [e, e2] X.env = (false, eval e X.env) :: starEach [e2] X.env := by rfl) (hpl : (backTo pos (starEach [e2] X.env)).any (·.1) = false := by rfl) :
    L2H.PIH X (.Tuple elts kk tpos) (.Call (.Name "zip" p) [e, e2] [] pos) (iZipH X.K ta) := by
  refine ⟨fun pins s σ H R I h => Call_ (ld_blt I hg hm PyProof.Rows.boot_zip (PyProof.Rows.callWith_type1 (thn (ha.run pos pins s σ H _ I h) fun us s1 ⟨vs, H1, I1, r1, q1⟩ => ?_) hs hpl))⟩
  obtain ⟨a, b, xs, ys, rfl, hqx, hqy, q⟩ := q1
  cases r1 with
  | cons r rr =>
    cases rr with
    | cons r' rr =>
      cases rr
      cases r
      cases r'
      obtain ⟨its, rv, p1, _⟩ := I1.list hqx
      obtain ⟨its2, rv2, p2, _⟩ := I1.list hqy
      refine call_zip_2 p1.isList p2.isList fun h' hz hTI hTO h1 h2 hsz hk => wpAny_pyIter_zip hz ?_
      have I2 : Inv X pins σ H1 { s1 with heap := h' } := I1.kept (t' := s1.toks) hk
      refine ⟨s1.heap.objs.size + 4, [s1.heap.objs.size + 4, s1.heap.objs.size + 2, s1.heap.objs.size + 3, s1.heap.objs.size, s1.heap.objs.size + 1], _, _, H1, rfl, I2, turn_zipH (PySem.W.ktu_apart s1.heap.objs.size a b p1.lt p2.lt), ⟨hz, hTI, ⟨_, _, hTO⟩, h1, h2⟩, fun c hcm => ?_, q⟩
      have hle : s1.heap.objs.size ≤ c := by
        have e' : c = s1.heap.objs.size + 4 ∨ c = s1.heap.objs.size + 2 ∨ c = s1.heap.objs.size + 3 ∨ c = s1.heap.objs.size ∨ c = s1.heap.objs.size + 1 := by simpa using hcm
        rcases e' with z | z | z | z | z <;> (rw [z]; first | exact Nat.le_refl _ | exact Nat.le_add_right _ _)
      exact I1.fpOk hle (I1.hok.fresh hle)
/-! a list comprehension while an exception is handled -/
abbrev blkP (X : Cx) (s : Shared) (H : Hp) (scope : Scope) (cenv : Env) (fp : List Addr) : Cx := { X with s_0 := s, H_0 := H, env := cenv, outer := X.stack, ex := fp, fn := fun x => scope.names.lookup x == some .cell, xe := fun _ _ => False }
theorem blkP_inv {X : Cx} {pins : List (Addr × Obj)} {σ σ' : L2.St} {H H' : Hp} {s s' : Shared} {s3 : Shared} {H3 : Hp} {scope : Scope} {ce : Env} {fp : List Addr} (I : Inv X pins σ H s) (J : Inv (X.blk s3 H3 scope ce fp) [] σ' H' s')
    (k : ∀ b o, s.heap.get? b = some o → s'.heap.get? b = some o) (kn : ∀ b o, s.heap.get? b = some o → H b = none → H' b = none) (cl : s.heap.objs.size ≤ ce.locals) : Inv (blkP X s3 H3 scope ce fp) [] σ' H' s' := by
  have ok : (blkP X s3 H3 scope ce fp).Ok := ⟨J.ok.mod, J.ok.kind, J.ok.glob, J.ok.blt, J.ok.above, J.ok.inj, J.ok.has, J.ok.cab, J.ok.hd, J.ok.frames, J.ok.stk, J.ok.exf, J.ok.bs, J.ok.bsz, J.ok.noex, J.ok.exfs, J.ok.funs, J.ok.frf⟩
  refine ⟨ok, J.os, J.bare, J.base, J.loc, J.cell, J.free, J.freeC, fun p hp => ?_, J.hok, J.len⟩
  have hp' : p ∈ X.pn := by
    rw [List.append_nil] at hp
    exact hp
  obtain ⟨e, n, nl, nf, d⟩ := I.pin p (List.mem_append_left _ hp')
  refine ⟨k _ _ e, kn _ _ e n, Nat.ne_of_lt (Nat.lt_of_lt_of_le (Heap.lt_size e) cl), fun z => ?_, d⟩
  exact (List.mem_cons.mp (I.stkSub _ z)).elim nl nf
theorem pe_lcH {X : Cx} {elt tg iter : Expr} {ifs : List Expr} {scope : Scope} {own : List (Str × Nat)} {pos : Pos} {wi : TI} {g : TG} {tt : TT} {te : TE} (hc : L2H.HotC X) (hN : X.N.Nodup) (hi : L2H.PIH X tg iter wi) (ok : BlkOk X.N X.env.scope scope own)
    (hg : ∀ (s : Shared) (H : Hp) (C : Addr) (cl : List (Str × Addr)) (fp : List Addr), PG (blkP X s H scope (compEnvC scope cl C X.env) fp) tg g) (ht : ∀ (s : Shared) (H : Hp) (C : Addr) (cl : List (Str × Addr)) (fp : List Addr), PTs (blkP X s H scope (compEnvC scope cl C X.env) fp) ifs tt)
    (he : ∀ (s : Shared) (H : Hp) (C : Addr) (cl : List (Str × Addr)) (fp : List Addr), PE (blkP X s H scope (compEnvC scope cl C X.env) fp) elt te) (hs : ∀ x, foldedSetIterable iter X.env x = pure x := by intro _; rfl) :
    PE X (.ListComp elt [⟨tg, iter, ifs, 0⟩] scope pos) (tLc wi g tt te (own.map (·.2))) := by
  refine ⟨fun pins s σ H Q I h => ?_⟩
  rw [eval_ListComp]
  have fre : ∀ y ∈ scope.names, y.2 = .free → ∃ c, X.env.cells.lookup y.1 = some c := fun y hy e => (ok.free y hy e).elim (fun k => I.ok.has _ (.inl k)) fun k => I.ok.has _ (.inr k)
  refine wpAny_comprehension_free (use := none) rfl hs (closure_ok fre) ok.kind (fun y hy e => by rw [ok.uniq y hy, e]) (thn (hi.run pins s σ H _ I h) fun xv s1 hx => thn hx fun itv s2 h2 => ?_)
  obtain ⟨it, fp, tn, J, H2, rfl, I2, T, st2, f2, q⟩ := h2
  refine wpAny_newObj_type (newEnv_comp ?_) (by show 0 ≤ sizeLine; decide)
  -- the new list
  generalize hD : s2.heap.objs.size = D
  have hDn : H2 D = none := I2.hok.fresh (Nat.le_of_eq hD)
  obtain ⟨W, ⟨m0, w0⟩, turn⟩ := q D hDn
  generalize hs3 : ({ s2 with heap := s2.heap.push { cls := .type "list", data := .seq ([] : List Value).toArray } } : Shared) = s3
  have h3 : s3.heap = s2.heap.push { cls := .type "list", data := .seq ([] : List Value).toArray } := by rw [← hs3]
  have k3 : ∀ b o, s2.heap.get? b = some o → s3.heap.get? b = some o := fun b o e => by
    rw [h3]
    exact Heap.get?_push_of_some _ e
  have I3 : Inv X pins σ (upd H2 D (.lst [])) s3 := by
    rw [← hs3]
    refine I2.laid (t' := s2.toks) (fun b o e => Heap.get?_push_of_some _ e) (Nat.le_of_eq hD) ⟨Nat.zero_le _, [], 0, .nil, ?_⟩
    rw [← hD]
    exact Heap.get?_push_size _ rfl
  have sz : ∀ b ∈ fp, b < s2.heap.objs.size := fun b hb => by
    obtain ⟨o, e, _⟩ := T.obj _ _ st2 b hb
    exact Heap.lt_size e
  have f3 : ∀ b ∈ fp, FpOk X pins (upd H2 D (.lst [])) b ∧ b < s3.heap.objs.size := fun b hb => by
    refine ⟨⟨?_, (f2 b hb).2⟩, by rw [h3, Heap.size_push]; exact Nat.lt_succ_of_lt (sz b hb)⟩
    rw [upd_ne (by rw [← hD]; exact Nat.ne_of_lt (sz b hb))]
    exact (f2 b hb).1
  have I4' := block_start I3 ok hN f3
  generalize hce : compEnvC scope (cellsFrom (s3.heap.objs.size + 1) scope.names (cloFrom X.env.cells scope.names [])) s3.heap.objs.size X.env = ce at I4'
  have pg : PG (blkP X s3 (upd H2 D (.lst [])) scope ce fp) tg g := hce ▸ hg _ _ _ _ _
  have pt : PTs (blkP X s3 (upd H2 D (.lst [])) scope ce fp) ifs tt := hce ▸ ht _ _ _ _ _
  have pe : PE (blkP X s3 (upd H2 D (.lst [])) scope ce fp) elt te := hce ▸ he _ _ _ _ _
  have cL : ce.locals = s3.heap.objs.size := by rw [← hce]; rfl
  have I4 := blkP_inv I3 I4' (fun b o e => pushCells_keeps _ _ _ _ (Heap.get?_push_of_some _ e)) (fun _ _ _ n => n) (by rw [cL]; exact Nat.le_refl _)
  clear I4'
  show codeAny _ _ (.compStart (.ListComp elt [⟨tg, iter, ifs, 0⟩] scope pos) 0 (.ref it) (.ref D) (compEnvC scope (cellsFrom (s3.heap.objs.size + 1) scope.names (cloFrom X.env.cells scope.names [])) s3.heap.objs.size X.env)) (compPost (model X.prog X.w) X.A X.xe none _ (.ref D) s3.heap.objs.size) { s3 with heap := pushCells (s3.heap.push { cls := .type "dict", data := .dict #[] }) scope.names }
  rw [hce]
  have nfp : ∀ b ∈ fp, (upd H2 D (.lst [])) b = none := fun b hb => (f3 b hb).1.1
  have hcB : L2H.HotC (blkP X s3 (upd H2 D (.lst [])) scope ce fp) := hc
  have pnB : ∀ b ∈ fp, ∀ p ∈ X.pn, p.1 ≠ b := fun b hb p hp => (f3 b hb).1.2.2.2.2.2 p (List.mem_append_left _ hp)
  generalize hH3 : upd H2 D (.lst []) = H3 at *
  generalize hs4 : ({ s3 with heap := pushCells (s3.heap.push { cls := .type "dict", data := .dict #[] }) scope.names } : Shared) = s4 at *
  have st4 : tn 0 s4.heap := T.keep _ _ _ st2 fun b _ o e => by
    rw [← hs4]
    exact pushCells_keeps _ _ _ _ (Heap.get?_push_of_some _ (k3 _ _ e))
  have stat : ∀ {σ' : L2.St} {H' : Hp} {s' : Shared}, Inv (blkP X s3 H3 scope ce fp) [] σ' H' s' → (∀ b ∈ fp, H' b = none) → ∀ b ∈ fp, FpOk (blkP X s3 H3 scope ce fp) [] H' b := fun {σ' H' s'} I' hn b hb =>
    ⟨hn b hb, (I'.ok.exf b hb).1, I'.ok.exfs b hb, .inl hb, fun x c e => (I'.ok.exf b hb).2 x c e, fun p hp => pnB b hb p (by rw [List.append_nil] at hp; exact hp)⟩
  have loop : codeAny (model X.prog X.w) X.A (.compLoop (.ListComp elt [⟨tg, iter, ifs, 0⟩] scope pos) 0 (.ref it) (.ref D) ce) (compPost (model X.prog X.w) X.A X.xe none (EP X pins σ Q) (.ref D) s3.heap.objs.size) s4 := by
    refine compLoop_any (fun n s' => ∃ i H', Inv (blkP X s3 H3 scope ce fp) [] (wipe σ (own.map (·.2))) H' s' ∧ tn i s'.heap ∧ (∀ b ∈ fp, H' b = none) ∧ W i n H') ?_ m0 ⟨0, H3, I4, st4, nfp, w0⟩
    rintro n s5 ⟨i, H5, I5, st5, n5, w5⟩
    rcases turn i n H5 w5 with ⟨stop, qq⟩ | ⟨go, Nx, hNx, step⟩
    · refine thnF (T.done (blkP X s3 H3 scope ce fp) rfl rfl rfl hcB i [] s5 _ H5 (fun _ _ => False) I5 (stat I5 n5) st5 stop) fun r s6 ⟨hr, I6⟩ => ?_
      subst hr
      have I7 : Inv X pins σ H5 s6 := I3.call' (ch := fp) I6.os I6.base I6.hok I6.bare fun b hb => ⟨(f3 b hb).1.2.2.2.1, (f3 b hb).1.2.1, (f3 b hb).1.2.2.2.2.1, (f3 b hb).1.2.2.2.2.2⟩
      have nC : H5 s3.heap.objs.size = none := cL ▸ (I6.free : H5 ce.locals = none)
      obtain ⟨m, hn, _⟩ := I6.loc
      have hn' : s6.heap.Ns s3.heap.objs.size m := cL ▸ (hn : s6.heap.Ns ce.locals m)
      obtain ⟨g0, g1, g2, g3, g4, g5⟩ := I3.fpOk (Nat.le_refl _) nC
      exact ⟨m, hn', fun h'' sb => ⟨.ref D, H5, I7.turned (t' := s6.toks) (fun b o hb e => (sb.2 b hb).trans e) g0 g1 g3 g4 g5, rfl, qq⟩⟩
    · refine thnF (T.item (blkP X s3 H3 scope ce fp) rfl rfl rfl hcB i [] s5 _ H5 (fun _ _ => False) I5 (stat I5 n5) st5 go) fun r s6 ⟨u, hr, h6⟩ => ?_
      subst hr
      refine thnF h6 fun _ s7 ⟨x, H7, I7, r7, y7, st7, n7⟩ => ?_
      have I7' := I7.pinned (stat I7 n7) (T.obj _ _ st7)
      refine thnF (pg.run _ s7 _ H7 x u _ I7' r7 (step x H7 y7)) fun _ s8 ⟨σ8, H8, I8, hw8, q8⟩ => ?_
      refine thnF (pt.run _ s8 σ8 H8 _ I8 q8) fun b s9 ⟨H9, I9, q9⟩ => ?_
      have fin : ∀ {s' : Shared} {H' : Hp}, Inv (blkP X s3 H3 scope ce fp) ([] ++ pinsAt fp s7.heap) σ8 H' s' → Nx H' → ∃ m, m < n ∧ ∃ i H', Inv (blkP X s3 H3 scope ce fp) [] (wipe σ (own.map (·.2))) H' s' ∧ tn i s'.heap ∧ (∀ b ∈ fp, H' b = none) ∧ W i m H' := fun {s' H'} I' nx => by
        obtain ⟨m', hm, w'⟩ := hNx H' nx
        have pin' : ∀ b ∈ fp, ∀ o, s7.heap.get? b = some o → s'.heap.get? b = some o ∧ H' b = none := fun b hb o e =>
          ⟨(I'.pin (b, o) (List.mem_append_right _ (List.mem_append_right _ (mem_pinsAt hb e)))).1, (I'.pin (b, o) (List.mem_append_right _ (List.mem_append_right _ (mem_pinsAt hb e)))).2.1⟩
        refine ⟨m', hm, i + 1, H', (I'.unpinned (pins := [])).weak (by rw [← hw8, wipe_length]) (fun j v e => ?_), T.keep _ _ _ st7 fun b hb o e => (pin' b hb o e).1, fun b hb => ?_, w'⟩
        · rw [← hw8] at e
          exact (wipe_some e).1
        · obtain ⟨o, e, _⟩ := T.obj _ _ st7 b hb
          exact (pin' b hb o e).2
      cases b with
      | false =>
        rw [if_neg Bool.false_ne_true] at q9
        simp only [Bool.false_eq_true, if_false]
        exact fin I9 q9
      | true =>
        rw [if_pos rfl] at q9
        simp only [if_true]
        refine thnF (pe.run _ s9 σ8 H9 _ I9 q9) fun z s10 ⟨yv, H10, I10, r10, acc, hD10, hz10, nx⟩ => ?_
        exact app_ok (X := blkP X s3 H3 scope ce fp) I10 hD10 hz10 r10 fun s11 I11 => fin I11 nx
  exact codeAny_compStart_list loop (T.self X.A 0 _ _ _ st4 loop)
/-! a tuple unpacked while an exception is handled -/
section
variable {prog : Program} {w : World} {A : Around} {E : Value → Shared → Prop} {s : Shared}
theorem tup_end_hot {it t x1 : Addr} {i : Nat} {items : Array Value} {Q : Option Value → Shared → Prop} (hot : HotAt A x1 s.heap) (nx : x1 ≠ it)
    (hit : s.heap.IsTupleIter it t i) (ht : s.heap.IsTuple t items) (hx : items[i]? = none)
    (hQ : ∀ h', Heap.ExtBut it s.heap h' → Q none { s with heap := h' }) : wpAny (model prog w) A (pyNext (.ref it)) Q E s := by
  have hit' := hit
  obtain ⟨o, ho, hc, hd⟩ := hit'
  have ht' := ht
  obtain ⟨ol, hol, _, nl, hdl⟩ := ht'
  unfold pyNext
  refine wpAny_bind (wpAny_attempt (wpAny_callSpecial?_slot (name := Str.ofString "__next__") hit.typeIs F.slot_tuple_iterator_next (wpAny_call_entry F.slot_tuple_iterator_next hit.typeIs F.entry_tuple_iterator_next ?_ (F.args_tuple_iterator_next_1 _))))
  refine (show wpAny _ _ (field (.ref it) 0 >>= _) _ _ s from wpAny_bind (wpAny_field ho hd (x := .ref t) rfl ?_))
  have nn : ¬ ((Value.ref t == Value.none) = true) := fun z => Bool.false_ne_true z
  show wpAny _ _ (if (Value.ref t == Value.none) = true then _ else _) _ _ s
  rw [if_neg nn]
  refine (show wpAny _ _ (field (.ref it) 1 >>= _) _ _ s from wpAny_bind (wpAny_field ho hd (x := .int i 0) rfl ?_))
  refine (show wpAny _ _ (seqItems? (.ref t) >>= _) _ _ s from wpAny_bind (wpAny_seqItems hol hdl ?_))
  simp only [Int.toNat_natCast, hx]
  refine wpAny_bind (wpAny_rule (wpAny_bind (wpAny_setField ho hd (by simp) ?_)))
  have sb : Heap.ExtBut it s.heap (s.heap.update it (Obj.mapFields fun x => x.setIfInBounds 0 Value.none)) := (Heap.SameBut.update ..).extBut
  have hot1 := hot_but hot sb nx
  refine (show wpAny _ _ (newExc (.type "StopIteration") [] >>= _) _ _ _ from wpAny_bind ?_)
  simp only [newExc, newTuple]
  refine wpAny_bind (wpAny_newObj_type ?_ (by size_fits))
  refine wpAny_bind (m := firstArgMember _ _) (wpAny_of_eq (a := Value.none) (by first | rfl | (simp only [firstArgMember]; rfl)) ?_)
  refine wpAny_newObj_type ?_ (by size_fits)
  obtain ⟨hh, o1, vs1, h1, d1, c1⟩ := hot1
  refine raiseNew_hot (x1 := x1) ⟨hh, o1, vs1, Heap.get?_push_of_some _ (Heap.get?_push_of_some _ h1), d1, c1⟩ (Nat.ne_of_lt (Heap.lt_size (Heap.get?_push_of_some _ h1))) (Heap.get?_push_size _ rfl) rfl (by first | (simp; done) | (simp; omega) | (simp only [Array.size_append]; simp; omega)) ?_
  refine wpAny_bind (wpAny_isInstance (T := "StopIteration") (b := true) ⟨_, Heap.get?_update_self _ (Heap.get?_push_size _ rfl) rfl, rfl⟩ isSubtype_stop (wpAny_pure (hQ _ fun c u nc ec => ?_)))
  rw [Heap.get?_update_other _ _ (Nat.ne_of_gt (Heap.lt_size (Heap.get?_push_of_some _ (sb c u nc ec))))]
  exact Heap.get?_push_of_some _ (Heap.get?_push_of_some _ (sb c u nc ec))
theorem unpack_hot {env : Env} {elts : List Expr} {k : Nat} {pos : Pos} {t x1 : Addr} {items : Array Value} {Q : Unit → Shared → Prop} (hot : HotAt A x1 s.heap) (ht : s.heap.IsTuple t items)
    (hn : (assignEach elts env).length = items.size) (hstar : (assignEach elts env).findIdx? (·.1) = none)
    (h : ∀ h', Heap.ExtBut s.heap.objs.size s.heap h' → wpAny (model prog w) A (assignInOrder ((assignEach elts env).map (·.2)) items.toList) Q E { s with heap := h' }) :
    wpAny (model prog w) A (assign (.Tuple elts k pos) env (.ref t)) Q E s := by
  have hlt : t ≠ s.heap.objs.size := by
    obtain ⟨o, ho, _⟩ := ht
    exact Nat.ne_of_lt (Heap.lt_size ho)
  have x1lt : x1 ≠ s.heap.objs.size := by
    obtain ⟨_, o1, vs1, h1, _⟩ := hot
    exact Nat.ne_of_lt (Heap.lt_size h1)
  rw [PyProof.Rows.assign_Tuple]
  refine wpAny_bind (wpAny_standAt ?_)
  unfold unpack
  rw [hn, hstar]
  refine wpAny_bind (wpAny_holding ?_)
  unfold unpackItems notIterableAtAll
  refine wpAny_bind (wpAny_bind (wpAny_specialOf ht.typeIs F.slot_tuple_iter.lookup (wpAny_pure ?_)))
  simp only [Bool.false_eq_true, if_false]
  refine wpAny_bind (wpAny_holding (wpAny_pyIter_tuple ht ?_))
  refine wpAny_bind (wpAny_holding (wpAny_draw_tuple hlt items.size 0 _ _ ⟨_, Heap.get?_push_size _ rfl, rfl, rfl⟩ (ht.push _) (by omega) fun h1 hit1 hs1 => ?_))
  rw [List.drop_zero, List.take_of_length_le (by simp), if_neg (by simp)]
  have ht1 : h1.IsTuple t items := (ht.push _).extBut hs1.extBut hlt
  have hot1 : HotAt A x1 h1 := by
    obtain ⟨hh, o, vs, e, d, c⟩ := hot
    exact ⟨hh, o, vs, hs1.extBut _ _ x1lt (Heap.get?_push_of_some _ e), d, c⟩
  refine wpAny_bind (wpAny_holding (tup_end_hot (x1 := x1) hot1 x1lt hit1 ht1 (by simp) fun h2 he2 => ?_))
  simp only [Option.isSome_none, Bool.false_eq_true, if_false]
  exact wpAny_pure (h h2 fun b o hb e => he2 b o hb (hs1.extBut b o hb (Heap.get?_push_of_some _ e)))
end
theorem pg_tupH {X : Cx} {es : List Expr} {k : Nat} {t : TGs} {n : Nat} {pos : Pos} (hc : L2H.HotC X) (h : PGs X es t)
    (hn : (assignEach es X.env).length = n := by rfl) (hst : (assignEach es X.env).findIdx? (·.1) = none := by rfl) : PG X (.Tuple es k pos) (gTup X.K n t) := by
  refine ⟨fun pins s σ H v u Q I r hw => ?_⟩
  obtain ⟨a, xs, rfl, hq, hl, hw⟩ := hw
  cases r
  obtain ⟨its, rv, ht, hz⟩ := I.tuple hq
  obtain ⟨x1, hot⟩ := hc.at I
  have ht' : s.heap.IsTuple a its.toArray := by
    obtain ⟨o, e, c, m, d⟩ := ht
    exact ⟨o, e, c, m, d⟩
  refine unpack_hot (x1 := x1) hot ht' (by simp [hn, ← hl, rv.length]) hst fun h' hx => ?_
  have I1 : Inv X pins σ H { s with heap := h' } := I.kept (t' := s.toks) fun b o e => hx b o (Nat.ne_of_lt (Heap.lt_size e)) e
  exact h.run pins _ σ H xs _ Q I1 (by simpa using rv) hw
/-! the exception that is handled, handed to a def -/
/-- isinstance(e, c), e the exception that is handled -/
theorem call_isH {X : Cx} {p : Addr × Obj} {D : Addr} (hp : p ∈ X.pn) (C : ExcC X.K D) (hz : Zc (.ref D) none p.2) (hf : ∃ vs, p.2.data = .fields vs) : CallR X (.builtin "isinstance") (rIsE X.K D p.1) := by
  intro pins s σ H xs us Q I r h
  obtain ⟨c, cv, b, rfl, hcv, e, q⟩ := h
  cases r with
  | cons rx rr =>
    cases rr with
    | cons rt rr =>
      cases rr
      cases rx
      have ec := hcv _ rt
      subst ec
      have hget := (I.pin p (List.mem_append_left _ hp)).1
      obtain ⟨vs, hv⟩ := hf
      have J : PySem.W.InstAt s.heap p.1 p.2 D none := ⟨hget, hz.1, by unfold PySem.W.notCls; rw [hv] <;> rfl, by rw [hz.2]; trivial⟩
      exact PySem.W.kia_one (PySem.W.handS_kitx_exc C.hg C.hk C.hs C.hd C.ha C.hn C.ht C.hm) I.kIn J e (fun z => nomatch z) fun tk => ⟨.bl b, H, I.kept (t' := tk) fun _ _ z => z, rfl, q⟩
/-! ### defs that raise -/
/-- either reading of one expression -/
def tEi (t u : TE) : TE := fun σ H Q => t σ H Q ∨ u σ H Q
theorem pe_ei {X : Cx} {e : Expr} {t u : TE} (h1 : PE X e t) (h2 : PE X e u) : PE X e (tEi t u) := ⟨fun pins s σ H Q I h => h.elim (h1.run pins s σ H Q I) (h2.run pins s σ H Q I)⟩
theorem r_eiL {t u : TE} {σ : L2.St} {H : Hp} {Q : VK} (k : t σ H Q) : tEi t u σ H Q := .inl k
theorem r_eiR {t u : TE} {σ : L2.St} {H : Hp} {Q : VK} (k : u σ H Q) : tEi t u σ H Q := .inr k
section
variable {P : Program} {w : World} {K : PySem.W.Frag} {mg : Str → Option Value} {base : Heap}
theorem DefAt.okR {x : Str} {st : Stmt} {N ps : List Str} {k : Nat} {sp : Sp} (D : DefAt K mg x st ps) (S : FnScope N ps (defScope st)) (len : ∀ vs H Q E, sp vs H Q E → vs.length = ps.length)
    (hbody : ∀ (f : Addr) (cdv : Value) (A : Around) (outer : List Env) (s : Shared) (H : Hp) (vs : List V) (Q : VK) (E : XK), Room k (A.deeper (envOfC x (defScope st) s.heap.objs.size f cdv)) → sp vs H Q E →
      ∃ t, PSs (cxOf (L2N.CX P w) P w K mg base N x (defScope st) f cdv A outer s H E) (defBody st) t ∧ t { nx := fun _ H' => Q .non H', rt := Q } (start N vs) H) : Has P w K mg base (L2N.CX P w) (k + 1) x ps sp := by
  obtain ⟨f, fd, F, m, b⟩ := D
  obtain ⟨oc, od, kV, doc, pm, an, cdv, ct, osl, rfl, lk, hcd⟩ := F.ex
  exact ⟨f, _, m, F.kp, b, fn_of lk hcd S len fun A outer s H vs Q E hr h => hbody f cdv A outer s H vs Q E hr h⟩
end
section
variable {X : Cx} {x : Str} {p pos : Pos} {e : Expr} {es : List Expr} {t : TA} {k : Nat} {ps : List Str} {sp : Sp} {W : WX}
/-- f(e, ..), what is raised is wished for -/
theorem pcallR (G : Has X.prog X.w X.K X.mg X.base (L2N.CX X.prog X.w) k x ps sp) (hr : Room k X.A) (tk : L2N.Takes X W) (ha : PA X (e :: es) t) (hg : Gl X x := by rfl)
    (hdb : (x == ("__debug__" : Str)) = false := by decide) (he : starEach (e :: es) X.env = (false, eval e X.env) :: starEach es X.env := by rfl) (hpl : (backTo pos (starEach es X.env)).any (·.1) = false := by rfl) :
    PE X (.Call (.Name x p) (e :: es) [] pos) (tCallS sp (WE W) t) := by
  obtain ⟨f, fd, m, kp, b, F⟩ := G
  exact pe_callS (p := p) F hr hg m kp b (fun σ => L2N.passAt tk σ) ha hdb he hpl
theorem r_calS {sp : Sp} {E : L2.St → XK} {σ : L2.St} {H : Hp} {Q : VK} (k : t σ H fun vs H1 => sp vs H1 Q (E σ)) : tCallS sp E t σ H Q := k
end
/-- the class at D, raised by the name x; S the class of all refusals -/
structure XR (K : PySem.W.Frag) (mg : Str → Option Value) (x : Str) (D S : Addr) : Prop where
  g : mg x = some (.ref D)
  kp : PySem.W.keepIn K (.ref D) = true
  ex : PySem.W.excIn K D [.type "ValueError", .type "Exception", .type "BaseException", .type "object"] "ValueError.__new__" = true
  sb : PySem.W.subIn K (.ref D) (.type "BaseException") = some true
  ty : PySem.W.typeIn K (.ref D) = some (.type "type")
  em : PySem.W.exmOne K (.ref D) (.ref S) = some true
theorem XR.mk' {X : Cx} {x m : Str} {j : Nat} {p p2 pos : Pos} {D S : Addr} (C : XR X.K X.mg x D S) (hg : Gl X x) (hdb : (x == ("__debug__" : Str)) = false := by decide) : L2N.PMk X (.Call (.Name x p) [.Constant (.str m) j p2] [] pos) (fun _ H Q => Q (.ref D) none H) :=
  L2N.pmk_own PySem.F.excBase_ValueError C.ex C.g C.kp (raises_own C.sb C.ty) hg hdb
theorem XR.mk0 {K : PySem.W.Frag} {mg : Str → Option Value} {x : Str} {D S : Addr} (g : mg x = some (.ref D)) (kp : PySem.W.keepIn K (.ref D) = true) (ex : PySem.W.excIn K D [.type "ValueError", .type "Exception", .type "BaseException", .type "object"] "ValueError.__new__" = true)
    (sb : PySem.W.subIn K (.ref D) (.type "BaseException") = some true) (ty : PySem.W.typeIn K (.ref D) = some (.type "type")) (s1 : PySem.W.subIn K (.ref S) (.type "BaseException") = some true) (hd : PySem.W.hasDictIn K S = true) (ts : PySem.W.typeIn K (.ref S) = some (.type "type"))
    (s2 : PySem.W.subIn K (.ref D) (.ref S) = some true) : XR K mg x D S := ⟨g, kp, ex, sb, ty, PySem.W.exm_ref s1 hd ts s2⟩
/-- raise X('m') -/
def tRaise (W : WX) (D : Addr) : TS := fun _ σ H => W (.ref D) none σ H
theorem ps_raiseX {X : Cx} {W : WX} {x m : Str} {j : Nat} {p p2 pos pos2 : Pos} {D S : Addr} (hc : X.calm = true) (tk : L2N.Takes X W) (C : XR X.K X.mg x D S) (hg : Gl X x) (hdb : (x == ("__debug__" : Str)) = false := by decide) :
    PS X (.Raise (some (.Call (.Name x p) [.Constant (.str m) j p2] [] pos)) none pos2) (tRaise W D) := L2N.ps_raise hc tk (C.mk' hg hdb)
theorem r_raise {W : WX} {D : Addr} {F : Ends} {σ : L2.St} {H : Hp} (k : W (.ref D) none σ H) : tRaise W D F σ H := k
/-- the clause takes it -/
theorem w_as {K : PySem.W.Frag} {cls c : Value} {i : Nat} {ts : Addr → Value → Option Addr → TS} {Wout : WX} {D : Ends} {d : Option Addr} {σ : L2.St} {H : Hp} (h : PySem.W.exmOne K cls c = some true)
    (k : ∀ a, H a = none → ts a cls d { nx := fun σ' H' => D.nx (σ'.set i none) H', rt := D.rt, bk := fun σ' H' => D.bk (σ'.set i none) H', ct := fun σ' H' => D.ct (σ'.set i none) H' } (σ.set i (some (.ref a))) H) : wAs K c i ts Wout D cls d σ H :=
  ⟨true, h, fun _ => k, fun z => Bool.noConfusion z⟩
/-! ### a def that is handed the exception -/
/-- the def named x, handed an exception of the class cls while it is handled, gives the text z -/
def HasE (P : Program) (w : World) (K : PySem.W.Frag) (mg : Str → Option Value) (base : Heap) (k : Nat) (x : Str) (ps : List Str) (Kd : Value → Str → Prop) : Prop :=
  ∃ f fd, mg x = some (.ref f) ∧ PySem.W.keepIn K (.ref f) = true ∧ Binds K fd ps [] ∧ ps.length = 1 ∧
    ∀ (cls : Value) (z : Str), Kd cls z → ∀ (A : Around) (outer : List Env) (s : Shared) (H : Hp) (args : Args) (us : List Value) (Q : VK) (E : XK) (p : Addr × Obj), L2H.RoomH k A → L2H.Hot1 A p → L2H.PinOk outer H s p → Zc cls none p.2 → Env0 P w K mg base A outer s H → BindsTo s fd args (ps.zip us) → Vals [.ref p.1] us →
      (∀ H', Ex H H' → Q (.str z) H') → codeAny (model P w) A (.call (.ref f) args) (CR CX0 outer P w H s Q E) s
section
variable {P : Program} {w : World} {K : PySem.W.Frag} {mg : Str → Option Value} {base : Heap}
theorem HasE.mono {x : Str} {ps : List Str} {Kd : Value → Str → Prop} {j k : Nat} (G : HasE P w K mg base j x ps Kd) (h : j ≤ k) : HasE P w K mg base k x ps Kd := by
  obtain ⟨f, fd, m, kp, b, len, r⟩ := G
  exact ⟨f, fd, m, kp, b, len, fun cls z kd A outer s H args us Q E p hr => r cls z kd A outer s H args us Q E p (hr.mono h)⟩
theorem DefAt.okE {x : Str} {st : Stmt} {N ps : List Str} {k : Nat} {Kd : Value → Str → Prop} (D : DefAt K mg x st ps) (S : FnScope N ps (defScope st)) (len : ps.length = 1)
    (hbody : ∀ (cls : Value) (z : Str), Kd cls z → ∀ (f : Addr) (cdv : Value) (A : Around) (outer : List Env) (s : Shared) (H : Hp) (Q : VK) (E : XK) (p : Addr × Obj), L2H.Hot1 A p → Zc cls Option.none p.2 → L2H.RoomH k (A.deeper (envOfC x (defScope st) s.heap.objs.size f cdv)) → (∀ H', Ex H H' → Q (.str z) H') →
      ∃ t, PSs (L2H.cxH CX0 P w K mg base N x (defScope st) f cdv A outer s H E p) (defBody st) t ∧ t { nx := fun _ H' => Q .non H', rt := Q } (start N [.ref p.1]) H) : HasE P w K mg base (k + 1) x ps Kd := by
  obtain ⟨f, fd, F, m, b⟩ := D
  obtain ⟨oc, od, kV, doc, pm, an, cdv, ct, osl, rfl, lk, hcd⟩ := F.ex
  refine ⟨f, _, m, F.kp, b, len, fun cls z kd A outer s H args us Q E p hr hot hpin zc e0 hb r hq => ?_⟩
  have KX : K.In s.heap := e0.mod.kin.keeps fun b o e => (e0.bs b o e).1
  have lim : s.heap.NoLimit := e0.mod.nolimit.keeps fun b o e => (e0.bs b o e).1
  have kinds : ∀ y ∈ ps.zip us, (defScope st).names.lookup y.1 = some .local ∨ ((defScope st).names.lookup y.1 = some .cell ∧ ((cellsFrom (s.heap.objs.size + 1) (defScope st).names []).lookup y.1).isSome = true) := fun ⟨n, v⟩ hy =>
    (S.par n (List.of_mem_zip hy).1).elim .inl fun q => .inr ⟨q, PySem.W.cellsFrom_some _ _ _ (.inl q)⟩
  refine codeAny_call_function hr.depth (KX _ _ lk) rfl S.co S.gen rfl (PySem.W.codeRec_of KX hcd) (hb _ _ _ _ (wpAny_newFunctionEnv_cells S.kind kinds fun env he s1 ic => ?_))
  subst he
  refine ⟨lim.keeps ic.toInCall.keep, codeAny_func ?_⟩
  obtain ⟨t, ht, hq'⟩ := hbody cls z kd f cdv A outer s H Q E p hot zc (hr.deeper _) hq
  have I := L2H.inv_startH (CX := CX0) (mg := mg) (qual := x) (f := f) (cd := cdv) (A := A) (E := E) (vs := [.ref p.1]) S hpin e0 len.symm r ic
  refine wpAny_mono (ht.run [] s1 (start N [.ref p.1]) H _ I hq') (fun fl s' hs => ?_) fun e s' hs => hs
  cases fl with
  | ret u =>
    obtain ⟨v, σ', H', J, rv, q⟩ := hs
    exact ⟨v, H', J.os, J.bare, J.base, J.hok, rv, q⟩
  | next =>
    obtain ⟨σ', H', J, q⟩ := hs
    exact ⟨.non, H', J.os, J.bare, J.base, J.hok, rfl, q⟩
  | brk =>
    obtain ⟨_, _, _, q⟩ := hs
    exact q.elim
  | cont =>
    obtain ⟨_, _, _, q⟩ := hs
    exact q.elim
end
/-- f(e), within the suite that handles e -/
def tKind (Kd : Value → Str → Prop) (a : Addr) (cls : Value) (d : Option Addr) (t : TA) : TE := fun σ H Q => t σ H fun vs H1 => vs = [.ref a] ∧ d = none ∧ ∃ z, Kd cls z ∧ ∀ H', Ex H1 H' → Q (.str z) H'
theorem pcallE {X : Cx} {x : Str} {q pos : Pos} {e : Expr} {t : TA} {k : Nat} {ps : List Str} {Kd : Value → Str → Prop} {a : Addr} {oe : Obj} {cls : Value} {d : Option Addr} {pn : List (Addr × Obj)}
    (G : HasE X.prog X.w X.K X.mg X.base k x ps Kd) (hr : Room k X.A) (hz : L2N.Zn cls d oe) (hf : ∃ vs, oe.data = .fields vs) (ha : PA (X.suite a ((a, oe) :: pn)) [e] t) (hg : Gl X x := by rfl)
    (hdb : (x == ("__debug__" : Str)) = false := by decide) (he : starEach [e] X.env = (false, eval e X.env) :: starEach [] X.env := by rfl) (hpl : (backTo pos (starEach [] X.env)).any (·.1) = false := by rfl) :
    PE (X.suite a ((a, oe) :: pn)) (.Call (.Name x q) [e] [] pos) (tKind Kd a cls d t) := by
  obtain ⟨f, fd, m, kp, b, len, run⟩ := G
  refine ⟨fun pins s σ H Q I h => wpAny_Call_Name_kw (ld_glob (X := X.suite a ((a, oe) :: pn)) I hg m ?_ hdb)⟩
  have h' : t σ H fun vs H1 => vs = [.ref a] ∧ d = none ∧ ∃ z, Kd cls z ∧ ∀ H', Ex H1 H' → Q (.str z) H' := h
  refine PySem.W.callWith_K (h₀ := X.base) I.ok.mod.kin kp (thn (ha.run pos pins s σ H _ I h') fun us s1 ⟨vs, H1, I1, rv, ev, ed, z, kd, q⟩ => ⟨I1.kIn, ?_⟩) he hpl
  subst ev ed
  have hu : us.length = ps.length := by rw [← rv.length, len]; rfl
  have hb := b s1 us I1.kIn (by rw [List.append_nil]; exact hu)
  rw [List.append_nil] at hb
  obtain ⟨vs, hv⟩ := hf
  have P1 := I1.pin (a, oe) (List.mem_append_left _ List.mem_cons_self)
  have hpin : L2H.PinOk X.stack H1 s1 (a, oe) := ⟨P1.1, P1.2.1, fun hm => (List.mem_cons.mp (I1.stkSub a hm)).elim P1.2.2.1 P1.2.2.2.1, P1.2.2.2.2⟩
  have hot : L2H.Hot1 (X.suite a ((a, oe) :: pn)).A (a, oe) := ⟨rfl, vs, hv, hz.2.2 vs hv⟩
  refine wpAny_call (codeAny_mono (run cls z kd (X.suite a ((a, oe) :: pn)).A X.stack s1 H1 ⟨us, []⟩ us Q E0 (a, oe) ⟨hr.dp, hr.un⟩ hot hpin hz.zc I1.env0 hb rv q) fun r s2 hr => ?_)
  match r, hr with
  | .error err, hr => exact hr.elim
  | .ok (.ret u), hr => exact I1.after hr
  | .ok .next, hr => exact hr.elim
  | .ok .brk, hr => exact hr.elim
  | .ok .cont, hr => exact hr.elim
theorem r_kind {Kd : Value → Str → Prop} {a : Addr} {cls : Value} {t : TA} {σ : L2.St} {H : Hp} {Q : VK} (k : t σ H fun vs H1 => vs = [.ref a] ∧ (none : Option Addr) = none ∧ ∃ z, Kd cls z ∧ ∀ H', Ex H1 H' → Q (.str z) H') : tKind Kd a cls none t σ H Q := k
theorem takesN0 {X : Cx} : L2N.Takes X (fun _ _ _ _ => False) := fun _ _ x => by
  obtain ⟨_, _, _, _, _, _, _, _, _, _, _, _, _, _, _, _, z⟩ := x
  exact z.elim
/-- try: .. except X as n: .. -/
def tTry (K : PySem.W.Frag) (c : Value) (i : Nat) (tb : WX → TS) (ts : Addr → Value → Option Addr → TS) : TS := fun D σ H => tb (wAs K c i ts (fun _ _ _ _ => False) D) D σ H
theorem r_try {K : PySem.W.Frag} {c : Value} {i : Nat} {tb : WX → TS} {ts : Addr → Value → Option Addr → TS} {D : Ends} {σ : L2.St} {H : Hp} (k : tb (wAs K c i ts (fun _ _ _ _ => False) D) D σ H) : tTry K c i tb ts D σ H := k
theorem ps_tryX {X : Cx} {x n : Str} {S : Addr} {i : Nat} {body suite : List Stmt} {b₀ : Stmt} {np pos pos' : Pos} {tb : WX → TS} {ts : Addr → Value → Option Addr → TS} (hs : X.stack = X.env :: X.outer) (hf : X.env.frame = some X.env.locals) (hN : X.N.Nodup) (hi : X.N[i]? = some n) (hln : X.env.kindOf n = some .local)
    (hg : Gl X x) (hd : (x == ("__debug__" : Str)) = false) (gS : X.mg x = some (.ref S))
    (hb : ∀ (W : WX) (pn : List (Addr × Obj)) (xe : Value → Shared → Prop), L2N.Takes (X.tr pn xe) W → PSs (X.tr pn xe) body (tb W))
    (hsu : ∀ (a : Addr) (oe : Obj) (cls : Value) (d : Option Addr) (pn : List (Addr × Obj)), L2N.Zn cls d oe → (∃ vs, oe.data = .fields vs) → PSs (X.suite a ((a, oe) :: pn)) (b₀ :: suite) (ts a cls d)) :
    PS X (.Try body [.ExceptHandler (some (.Name x np)) (some n) (b₀ :: suite) pos'] [] [] pos) (tTry X.K (.ref S) i tb ts) :=
  L2N.ps_try_as hs hf hN hi hln ⟨hg, hd, .inl gS⟩ takesN0 (fun W pn xe tk _ => hb W pn xe tk) hsu
/-! ### the table of refusals -/
abbrev vE : List Value := [.type "ValueError", .type "Exception", .type "BaseException", .type "object"]
/-- a class without own __init__, behind itself bm -/
def CT (K : PySem.W.Frag) (C : Addr) (bm : List Value) : Prop := ∃ nm q N bs sn sub ab col dd k0 k1 k2 k3 k5, K.lookup C = some (excClassObj nm q C N bs bm true sn sub ab col dd k0 k1 k2 k3 k5 "ValueError.__new__")
section
variable {K : PySem.W.Frag} {C : Addr} {bm : List Value}
theorem CT.ty (h : CT K C bm) : PySem.W.typeIn K (.ref C) = some (.type "type") := by
  obtain ⟨_, _, _, _, _, _, _, _, _, _, _, _, _, _, l⟩ := h
  show (K.lookup C).map (·.cls) = _
  rw [l]
  rfl
theorem CT.cls (h : CT K C bm) : ∃ cd, PySem.W.clsIn K C = some cd ∧ cd.mro = .ref C :: bm ∧ cd.hasDict = true := by
  obtain ⟨_, _, _, _, _, _, _, _, _, _, _, _, _, _, l⟩ := h
  unfold PySem.W.clsIn
  rw [l]
  exact ⟨_, rfl, rfl, rfl⟩
theorem CT.mro (h : CT K C bm) (base : Value) : PySem.W.mroIn K C base = some ((Value.ref C :: bm).contains base) := by
  obtain ⟨cd, e, m, _⟩ := h.cls
  unfold PySem.W.mroIn
  rw [e]
  show (if cd.mro.isEmpty = true then none else some (cd.mro.contains base)) = _
  rw [m]
  rfl
theorem CT.sub (h : CT K C bm) (base : Value) : PySem.W.subIn K (.ref C) base = some ((Value.ref C :: bm).contains base) := h.mro base
theorem CT.dct (h : CT K C bm) : PySem.W.hasDictIn K C = true := by
  obtain ⟨cd, e, _, d⟩ := h.cls
  unfold PySem.W.hasDictIn
  rw [e]
  exact d
end
structure Cl where
  S : Addr
  NoBounds : Addr
  NoCoins : Addr
  NoCount : Addr
  NoEntry : Addr
  NoName : Addr
  NoPartner : Addr
  NoPower : Addr
  NoRing : Addr
  NoRise : Addr
  NoRow : Addr
  NoStair : Addr
  NoSteps : Addr
  NoText : Addr
  NoWalker : Addr
  NothingLeft : Addr
  TooMany : Addr
structure XT (K : PySem.W.Frag) (mg : Str → Option Value) (c : Cl) : Prop where
  gS : mg "StairError" = some (.ref c.S)
  tS : CT K c.S vE
  g_NoBounds : mg "NoBounds" = some (.ref c.NoBounds)
  t_NoBounds : CT K c.NoBounds (.ref c.S :: vE)
  g_NoCoins : mg "NoCoins" = some (.ref c.NoCoins)
  t_NoCoins : CT K c.NoCoins (.ref c.S :: vE)
  g_NoCount : mg "NoCount" = some (.ref c.NoCount)
  t_NoCount : CT K c.NoCount (.ref c.S :: vE)
  g_NoEntry : mg "NoEntry" = some (.ref c.NoEntry)
  t_NoEntry : CT K c.NoEntry (.ref c.S :: vE)
  g_NoName : mg "NoName" = some (.ref c.NoName)
  t_NoName : CT K c.NoName (.ref c.S :: vE)
  g_NoPartner : mg "NoPartner" = some (.ref c.NoPartner)
  t_NoPartner : CT K c.NoPartner (.ref c.S :: vE)
  g_NoPower : mg "NoPower" = some (.ref c.NoPower)
  t_NoPower : CT K c.NoPower (.ref c.S :: vE)
  g_NoRing : mg "NoRing" = some (.ref c.NoRing)
  t_NoRing : CT K c.NoRing (.ref c.S :: vE)
  g_NoRise : mg "NoRise" = some (.ref c.NoRise)
  t_NoRise : CT K c.NoRise (.ref c.S :: vE)
  g_NoRow : mg "NoRow" = some (.ref c.NoRow)
  t_NoRow : CT K c.NoRow (.ref c.S :: vE)
  g_NoStair : mg "NoStair" = some (.ref c.NoStair)
  t_NoStair : CT K c.NoStair (.ref c.S :: vE)
  g_NoSteps : mg "NoSteps" = some (.ref c.NoSteps)
  t_NoSteps : CT K c.NoSteps (.ref c.S :: vE)
  g_NoText : mg "NoText" = some (.ref c.NoText)
  t_NoText : CT K c.NoText (.ref c.S :: vE)
  g_NoWalker : mg "NoWalker" = some (.ref c.NoWalker)
  t_NoWalker : CT K c.NoWalker (.ref c.S :: vE)
  g_NothingLeft : mg "NothingLeft" = some (.ref c.NothingLeft)
  t_NothingLeft : CT K c.NothingLeft (.ref c.S :: vE)
  g_TooMany : mg "TooMany" = some (.ref c.TooMany)
  t_TooMany : CT K c.TooMany (.ref c.S :: vE)
  ne : [c.S, c.NoBounds, c.NoCoins, c.NoCount, c.NoEntry, c.NoName, c.NoPartner, c.NoPower, c.NoRing, c.NoRise, c.NoRow, c.NoStair, c.NoSteps, c.NoText, c.NoWalker, c.NothingLeft, c.TooMany].Nodup
  hn : PySem.W.specialIn K (.builtin "object.__class__") "__get__" = some (some (.builtin "getset_descriptor.__get__"))
  ht : PySem.W.takesIn K (.builtin "object.__class__") = some true
/-- what is needed of a class that is raised -/
structure XD (K : PySem.W.Frag) (D : Addr) : Prop where
  kp : PySem.W.keepIn K (.ref D) = true
  ex : PySem.W.excIn K D vE "ValueError.__new__" = true
  hg : PySem.W.findIn K (.ref D) "__getattribute__" = some (some (.builtin "BaseException.__getattribute__"))
  hk : PySem.W.findIn K (.ref D) "__getattr__" = some none
  ha : PySem.W.findIn K (.ref D) "__class__" = some (some (.builtin "object.__class__"))
section
variable {K : PySem.W.Frag} {mg : Str → Option Value} {c : Cl} {D : Addr}
theorem ct_has {S D : Addr} {T : String} (h : vE.contains (.type T) = true) : (Value.ref D :: Value.ref S :: vE).contains (.type T) = true := by
  rw [List.contains_cons, List.contains_cons, h, Bool.or_true, Bool.or_true]
theorem ct_ne {S D C : Addr} (h1 : C ≠ D) (h2 : C ≠ S) : (Value.ref D :: Value.ref S :: vE).contains (.ref C) = false := by
  have e1 : (Value.ref C == Value.ref D) = false := beq_eq_false_iff_ne.mpr fun z => h1 (Value.ref.inj z)
  have e2 : (Value.ref C == Value.ref S) = false := beq_eq_false_iff_ne.mpr fun z => h2 (Value.ref.inj z)
  rw [List.contains_cons, List.contains_cons, e1, e2]
  rfl
theorem XT.exc (X : XT K mg c) (t : CT K D (.ref c.S :: vE)) (d : XD K D) : ExcC K D :=
  ⟨d.hg, d.hk, by rw [t.sub, ct_has (by decide)], t.dct, d.ha, X.hn, X.ht, by rw [t.mro, ct_has (by decide)]⟩
theorem XT.xr (X : XT K mg c) {x : Str} (g : mg x = some (.ref D)) (t : CT K D (.ref c.S :: vE)) (d : XD K D) : XR K mg x D c.S :=
  XR.mk0 g d.kp d.ex (by rw [t.sub, ct_has (by decide)]) t.ty (by
    rw [X.tS.sub, List.contains_cons]
    exact congrArg some (Bool.or_eq_true_iff.mpr (.inr (by decide)))) X.tS.dct X.tS.ty (by
    rw [t.sub, List.contains_cons, List.contains_cons, beq_self_eq_true, Bool.true_or, Bool.or_true])
theorem kit_same {t : Value} : PySem.W.kitOne K t t = some true := if_pos (beq_self_eq_true t)
theorem kit_ref {C S : Addr} (tD : CT K D (.ref S :: vE)) (tC : CT K C (.ref S :: vE)) (h : C ≠ D) (h2 : C ≠ S) : PySem.W.kitOne K (.ref D) (.ref C) = some false := by
  have e1 : ¬ (Value.ref D == Value.ref C) = true := fun z => h (Value.ref.inj (beq_iff_eq.mp z)).symm
  obtain ⟨cd, ec, _⟩ := tC.cls
  have e2 : ((PySem.W.clsIn K C).isSome && PySem.W.typeIn K (.ref C) == some (.type "type")) = true := by
    rw [ec, tC.ty]
    rfl
  unfold PySem.W.kitOne
  rw [if_neg e1]
  show (if ((PySem.W.clsIn K C).isSome && PySem.W.typeIn K (.ref C) == some (.type "type")) = true then PySem.W.subIn K (.ref D) (.ref C) else none) = some false
  rw [if_pos e2, tD.sub, ct_ne h h2]
theorem kit_val {S : Addr} (tD : CT K D (.ref S :: vE)) : PySem.W.kitOne K (.ref D) (.type "ValueError") = some true := by
  have e1 : ¬ (Value.ref D == Value.type "ValueError") = true := fun z => by
    have := beq_iff_eq.mp z
    cases this
  unfold PySem.W.kitOne
  rw [if_neg e1]
  show (if PySem.W.kitMeta "ValueError" = true then PySem.W.subIn K (.ref D) (.type "ValueError") else none) = some true
  rw [if_pos (by decide +kernel), tD.sub, ct_has (by decide)]
end
theorem nd_ne {l : List Addr} {i j : Nat} {a b : Addr} (h : l.Nodup) (hi : l[i]? = some a) (hj : l[j]? = some b) (n : i ≠ j) : a ≠ b := by
  obtain ⟨h1, e1⟩ := List.getElem?_eq_some_iff.mp hi
  obtain ⟨h2, e2⟩ := List.getElem?_eq_some_iff.mp hj
  have p := List.pairwise_iff_getElem.mp h
  intro z
  rw [← e1, ← e2] at z
  rcases Nat.lt_or_gt_of_ne n with q | q
  · exact p i j h1 h2 q z
  · exact p j i h2 h1 q z.symm
/-- the class D is the i-th one -/
def Nth (c : Cl) (i : Nat) (D : Addr) : Prop := [c.NoBounds, c.NoCoins, c.NoCount, c.NoEntry, c.NoName, c.NoPartner, c.NoPower, c.NoRing, c.NoRise, c.NoRow, c.NoStair, c.NoSteps, c.NoText, c.NoWalker, c.NothingLeft, c.TooMany][i]? = some D
def kindT (i : Nat) : Str := (["NoBounds+", "NoCoins+", "NoCount+", "NoEntry+", "NoName+", "NoPartner+", "NoPower+", "NoRing+", "NoRise+", "NoRow+", "NoStair+", "NoSteps+", "NoText+", "NoWalker+", "NothingLeft+", "TooMany+"] : List Str).getD i ""

theorem XT.kit {K : PySem.W.Frag} {mg : Str → Option Value} {c : Cl} {D : Addr} (X : XT K mg c) {i : Nat} (n : Nth c i D) : i < 16 ∧ CT K D (.ref c.S :: vE) ∧ PySem.W.kitOne K (.ref D) (.ref c.NoBounds) = some (decide (i = 0)) ∧ PySem.W.kitOne K (.ref D) (.ref c.NoCoins) = some (decide (i = 1)) ∧ PySem.W.kitOne K (.ref D) (.ref c.NoCount) = some (decide (i = 2)) ∧ PySem.W.kitOne K (.ref D) (.ref c.NoEntry) = some (decide (i = 3)) ∧ PySem.W.kitOne K (.ref D) (.ref c.NoName) = some (decide (i = 4)) ∧ PySem.W.kitOne K (.ref D) (.ref c.NoPartner) = some (decide (i = 5)) ∧ PySem.W.kitOne K (.ref D) (.ref c.NoPower) = some (decide (i = 6)) ∧ PySem.W.kitOne K (.ref D) (.ref c.NoRing) = some (decide (i = 7)) ∧ PySem.W.kitOne K (.ref D) (.ref c.NoRise) = some (decide (i = 8)) ∧ PySem.W.kitOne K (.ref D) (.ref c.NoRow) = some (decide (i = 9)) ∧ PySem.W.kitOne K (.ref D) (.ref c.NoStair) = some (decide (i = 10)) ∧ PySem.W.kitOne K (.ref D) (.ref c.NoSteps) = some (decide (i = 11)) ∧ PySem.W.kitOne K (.ref D) (.ref c.NoText) = some (decide (i = 12)) ∧ PySem.W.kitOne K (.ref D) (.ref c.NoWalker) = some (decide (i = 13)) ∧ PySem.W.kitOne K (.ref D) (.ref c.NothingLeft) = some (decide (i = 14)) ∧ PySem.W.kitOne K (.ref D) (.ref c.TooMany) = some (decide (i = 15)) := by
  unfold Nth at n
  match i, n with
  | 0, n =>
    cases n
    refine ⟨by decide, X.t_NoBounds, kit_same, kit_ref X.t_NoBounds X.t_NoCoins (nd_ne X.ne (i := 2) (j := 1) rfl rfl (by decide)) (nd_ne X.ne (i := 2) (j := 0) rfl rfl (by decide)), kit_ref X.t_NoBounds X.t_NoCount (nd_ne X.ne (i := 3) (j := 1) rfl rfl (by decide)) (nd_ne X.ne (i := 3) (j := 0) rfl rfl (by decide)), kit_ref X.t_NoBounds X.t_NoEntry (nd_ne X.ne (i := 4) (j := 1) rfl rfl (by decide)) (nd_ne X.ne (i := 4) (j := 0) rfl rfl (by decide)), kit_ref X.t_NoBounds X.t_NoName (nd_ne X.ne (i := 5) (j := 1) rfl rfl (by decide)) (nd_ne X.ne (i := 5) (j := 0) rfl rfl (by decide)), kit_ref X.t_NoBounds X.t_NoPartner (nd_ne X.ne (i := 6) (j := 1) rfl rfl (by decide)) (nd_ne X.ne (i := 6) (j := 0) rfl rfl (by decide)), kit_ref X.t_NoBounds X.t_NoPower (nd_ne X.ne (i := 7) (j := 1) rfl rfl (by decide)) (nd_ne X.ne (i := 7) (j := 0) rfl rfl (by decide)), kit_ref X.t_NoBounds X.t_NoRing (nd_ne X.ne (i := 8) (j := 1) rfl rfl (by decide)) (nd_ne X.ne (i := 8) (j := 0) rfl rfl (by decide)), kit_ref X.t_NoBounds X.t_NoRise (nd_ne X.ne (i := 9) (j := 1) rfl rfl (by decide)) (nd_ne X.ne (i := 9) (j := 0) rfl rfl (by decide)), kit_ref X.t_NoBounds X.t_NoRow (nd_ne X.ne (i := 10) (j := 1) rfl rfl (by decide)) (nd_ne X.ne (i := 10) (j := 0) rfl rfl (by decide)), kit_ref X.t_NoBounds X.t_NoStair (nd_ne X.ne (i := 11) (j := 1) rfl rfl (by decide)) (nd_ne X.ne (i := 11) (j := 0) rfl rfl (by decide)), kit_ref X.t_NoBounds X.t_NoSteps (nd_ne X.ne (i := 12) (j := 1) rfl rfl (by decide)) (nd_ne X.ne (i := 12) (j := 0) rfl rfl (by decide)), kit_ref X.t_NoBounds X.t_NoText (nd_ne X.ne (i := 13) (j := 1) rfl rfl (by decide)) (nd_ne X.ne (i := 13) (j := 0) rfl rfl (by decide)), kit_ref X.t_NoBounds X.t_NoWalker (nd_ne X.ne (i := 14) (j := 1) rfl rfl (by decide)) (nd_ne X.ne (i := 14) (j := 0) rfl rfl (by decide)), kit_ref X.t_NoBounds X.t_NothingLeft (nd_ne X.ne (i := 15) (j := 1) rfl rfl (by decide)) (nd_ne X.ne (i := 15) (j := 0) rfl rfl (by decide)), kit_ref X.t_NoBounds X.t_TooMany (nd_ne X.ne (i := 16) (j := 1) rfl rfl (by decide)) (nd_ne X.ne (i := 16) (j := 0) rfl rfl (by decide))⟩
  | 1, n =>
    cases n
    refine ⟨by decide, X.t_NoCoins, kit_ref X.t_NoCoins X.t_NoBounds (nd_ne X.ne (i := 1) (j := 2) rfl rfl (by decide)) (nd_ne X.ne (i := 1) (j := 0) rfl rfl (by decide)), kit_same, kit_ref X.t_NoCoins X.t_NoCount (nd_ne X.ne (i := 3) (j := 2) rfl rfl (by decide)) (nd_ne X.ne (i := 3) (j := 0) rfl rfl (by decide)), kit_ref X.t_NoCoins X.t_NoEntry (nd_ne X.ne (i := 4) (j := 2) rfl rfl (by decide)) (nd_ne X.ne (i := 4) (j := 0) rfl rfl (by decide)), kit_ref X.t_NoCoins X.t_NoName (nd_ne X.ne (i := 5) (j := 2) rfl rfl (by decide)) (nd_ne X.ne (i := 5) (j := 0) rfl rfl (by decide)), kit_ref X.t_NoCoins X.t_NoPartner (nd_ne X.ne (i := 6) (j := 2) rfl rfl (by decide)) (nd_ne X.ne (i := 6) (j := 0) rfl rfl (by decide)), kit_ref X.t_NoCoins X.t_NoPower (nd_ne X.ne (i := 7) (j := 2) rfl rfl (by decide)) (nd_ne X.ne (i := 7) (j := 0) rfl rfl (by decide)), kit_ref X.t_NoCoins X.t_NoRing (nd_ne X.ne (i := 8) (j := 2) rfl rfl (by decide)) (nd_ne X.ne (i := 8) (j := 0) rfl rfl (by decide)), kit_ref X.t_NoCoins X.t_NoRise (nd_ne X.ne (i := 9) (j := 2) rfl rfl (by decide)) (nd_ne X.ne (i := 9) (j := 0) rfl rfl (by decide)), kit_ref X.t_NoCoins X.t_NoRow (nd_ne X.ne (i := 10) (j := 2) rfl rfl (by decide)) (nd_ne X.ne (i := 10) (j := 0) rfl rfl (by decide)), kit_ref X.t_NoCoins X.t_NoStair (nd_ne X.ne (i := 11) (j := 2) rfl rfl (by decide)) (nd_ne X.ne (i := 11) (j := 0) rfl rfl (by decide)), kit_ref X.t_NoCoins X.t_NoSteps (nd_ne X.ne (i := 12) (j := 2) rfl rfl (by decide)) (nd_ne X.ne (i := 12) (j := 0) rfl rfl (by decide)), kit_ref X.t_NoCoins X.t_NoText (nd_ne X.ne (i := 13) (j := 2) rfl rfl (by decide)) (nd_ne X.ne (i := 13) (j := 0) rfl rfl (by decide)), kit_ref X.t_NoCoins X.t_NoWalker (nd_ne X.ne (i := 14) (j := 2) rfl rfl (by decide)) (nd_ne X.ne (i := 14) (j := 0) rfl rfl (by decide)), kit_ref X.t_NoCoins X.t_NothingLeft (nd_ne X.ne (i := 15) (j := 2) rfl rfl (by decide)) (nd_ne X.ne (i := 15) (j := 0) rfl rfl (by decide)), kit_ref X.t_NoCoins X.t_TooMany (nd_ne X.ne (i := 16) (j := 2) rfl rfl (by decide)) (nd_ne X.ne (i := 16) (j := 0) rfl rfl (by decide))⟩
  | 2, n =>
    cases n
    refine ⟨by decide, X.t_NoCount, kit_ref X.t_NoCount X.t_NoBounds (nd_ne X.ne (i := 1) (j := 3) rfl rfl (by decide)) (nd_ne X.ne (i := 1) (j := 0) rfl rfl (by decide)), kit_ref X.t_NoCount X.t_NoCoins (nd_ne X.ne (i := 2) (j := 3) rfl rfl (by decide)) (nd_ne X.ne (i := 2) (j := 0) rfl rfl (by decide)), kit_same, kit_ref X.t_NoCount X.t_NoEntry (nd_ne X.ne (i := 4) (j := 3) rfl rfl (by decide)) (nd_ne X.ne (i := 4) (j := 0) rfl rfl (by decide)), kit_ref X.t_NoCount X.t_NoName (nd_ne X.ne (i := 5) (j := 3) rfl rfl (by decide)) (nd_ne X.ne (i := 5) (j := 0) rfl rfl (by decide)), kit_ref X.t_NoCount X.t_NoPartner (nd_ne X.ne (i := 6) (j := 3) rfl rfl (by decide)) (nd_ne X.ne (i := 6) (j := 0) rfl rfl (by decide)), kit_ref X.t_NoCount X.t_NoPower (nd_ne X.ne (i := 7) (j := 3) rfl rfl (by decide)) (nd_ne X.ne (i := 7) (j := 0) rfl rfl (by decide)), kit_ref X.t_NoCount X.t_NoRing (nd_ne X.ne (i := 8) (j := 3) rfl rfl (by decide)) (nd_ne X.ne (i := 8) (j := 0) rfl rfl (by decide)), kit_ref X.t_NoCount X.t_NoRise (nd_ne X.ne (i := 9) (j := 3) rfl rfl (by decide)) (nd_ne X.ne (i := 9) (j := 0) rfl rfl (by decide)), kit_ref X.t_NoCount X.t_NoRow (nd_ne X.ne (i := 10) (j := 3) rfl rfl (by decide)) (nd_ne X.ne (i := 10) (j := 0) rfl rfl (by decide)), kit_ref X.t_NoCount X.t_NoStair (nd_ne X.ne (i := 11) (j := 3) rfl rfl (by decide)) (nd_ne X.ne (i := 11) (j := 0) rfl rfl (by decide)), kit_ref X.t_NoCount X.t_NoSteps (nd_ne X.ne (i := 12) (j := 3) rfl rfl (by decide)) (nd_ne X.ne (i := 12) (j := 0) rfl rfl (by decide)), kit_ref X.t_NoCount X.t_NoText (nd_ne X.ne (i := 13) (j := 3) rfl rfl (by decide)) (nd_ne X.ne (i := 13) (j := 0) rfl rfl (by decide)), kit_ref X.t_NoCount X.t_NoWalker (nd_ne X.ne (i := 14) (j := 3) rfl rfl (by decide)) (nd_ne X.ne (i := 14) (j := 0) rfl rfl (by decide)), kit_ref X.t_NoCount X.t_NothingLeft (nd_ne X.ne (i := 15) (j := 3) rfl rfl (by decide)) (nd_ne X.ne (i := 15) (j := 0) rfl rfl (by decide)), kit_ref X.t_NoCount X.t_TooMany (nd_ne X.ne (i := 16) (j := 3) rfl rfl (by decide)) (nd_ne X.ne (i := 16) (j := 0) rfl rfl (by decide))⟩
  | 3, n =>
    cases n
    refine ⟨by decide, X.t_NoEntry, kit_ref X.t_NoEntry X.t_NoBounds (nd_ne X.ne (i := 1) (j := 4) rfl rfl (by decide)) (nd_ne X.ne (i := 1) (j := 0) rfl rfl (by decide)), kit_ref X.t_NoEntry X.t_NoCoins (nd_ne X.ne (i := 2) (j := 4) rfl rfl (by decide)) (nd_ne X.ne (i := 2) (j := 0) rfl rfl (by decide)), kit_ref X.t_NoEntry X.t_NoCount (nd_ne X.ne (i := 3) (j := 4) rfl rfl (by decide)) (nd_ne X.ne (i := 3) (j := 0) rfl rfl (by decide)), kit_same, kit_ref X.t_NoEntry X.t_NoName (nd_ne X.ne (i := 5) (j := 4) rfl rfl (by decide)) (nd_ne X.ne (i := 5) (j := 0) rfl rfl (by decide)), kit_ref X.t_NoEntry X.t_NoPartner (nd_ne X.ne (i := 6) (j := 4) rfl rfl (by decide)) (nd_ne X.ne (i := 6) (j := 0) rfl rfl (by decide)), kit_ref X.t_NoEntry X.t_NoPower (nd_ne X.ne (i := 7) (j := 4) rfl rfl (by decide)) (nd_ne X.ne (i := 7) (j := 0) rfl rfl (by decide)), kit_ref X.t_NoEntry X.t_NoRing (nd_ne X.ne (i := 8) (j := 4) rfl rfl (by decide)) (nd_ne X.ne (i := 8) (j := 0) rfl rfl (by decide)), kit_ref X.t_NoEntry X.t_NoRise (nd_ne X.ne (i := 9) (j := 4) rfl rfl (by decide)) (nd_ne X.ne (i := 9) (j := 0) rfl rfl (by decide)), kit_ref X.t_NoEntry X.t_NoRow (nd_ne X.ne (i := 10) (j := 4) rfl rfl (by decide)) (nd_ne X.ne (i := 10) (j := 0) rfl rfl (by decide)), kit_ref X.t_NoEntry X.t_NoStair (nd_ne X.ne (i := 11) (j := 4) rfl rfl (by decide)) (nd_ne X.ne (i := 11) (j := 0) rfl rfl (by decide)), kit_ref X.t_NoEntry X.t_NoSteps (nd_ne X.ne (i := 12) (j := 4) rfl rfl (by decide)) (nd_ne X.ne (i := 12) (j := 0) rfl rfl (by decide)), kit_ref X.t_NoEntry X.t_NoText (nd_ne X.ne (i := 13) (j := 4) rfl rfl (by decide)) (nd_ne X.ne (i := 13) (j := 0) rfl rfl (by decide)), kit_ref X.t_NoEntry X.t_NoWalker (nd_ne X.ne (i := 14) (j := 4) rfl rfl (by decide)) (nd_ne X.ne (i := 14) (j := 0) rfl rfl (by decide)), kit_ref X.t_NoEntry X.t_NothingLeft (nd_ne X.ne (i := 15) (j := 4) rfl rfl (by decide)) (nd_ne X.ne (i := 15) (j := 0) rfl rfl (by decide)), kit_ref X.t_NoEntry X.t_TooMany (nd_ne X.ne (i := 16) (j := 4) rfl rfl (by decide)) (nd_ne X.ne (i := 16) (j := 0) rfl rfl (by decide))⟩
  | 4, n =>
    cases n
    refine ⟨by decide, X.t_NoName, kit_ref X.t_NoName X.t_NoBounds (nd_ne X.ne (i := 1) (j := 5) rfl rfl (by decide)) (nd_ne X.ne (i := 1) (j := 0) rfl rfl (by decide)), kit_ref X.t_NoName X.t_NoCoins (nd_ne X.ne (i := 2) (j := 5) rfl rfl (by decide)) (nd_ne X.ne (i := 2) (j := 0) rfl rfl (by decide)), kit_ref X.t_NoName X.t_NoCount (nd_ne X.ne (i := 3) (j := 5) rfl rfl (by decide)) (nd_ne X.ne (i := 3) (j := 0) rfl rfl (by decide)), kit_ref X.t_NoName X.t_NoEntry (nd_ne X.ne (i := 4) (j := 5) rfl rfl (by decide)) (nd_ne X.ne (i := 4) (j := 0) rfl rfl (by decide)), kit_same, kit_ref X.t_NoName X.t_NoPartner (nd_ne X.ne (i := 6) (j := 5) rfl rfl (by decide)) (nd_ne X.ne (i := 6) (j := 0) rfl rfl (by decide)), kit_ref X.t_NoName X.t_NoPower (nd_ne X.ne (i := 7) (j := 5) rfl rfl (by decide)) (nd_ne X.ne (i := 7) (j := 0) rfl rfl (by decide)), kit_ref X.t_NoName X.t_NoRing (nd_ne X.ne (i := 8) (j := 5) rfl rfl (by decide)) (nd_ne X.ne (i := 8) (j := 0) rfl rfl (by decide)), kit_ref X.t_NoName X.t_NoRise (nd_ne X.ne (i := 9) (j := 5) rfl rfl (by decide)) (nd_ne X.ne (i := 9) (j := 0) rfl rfl (by decide)), kit_ref X.t_NoName X.t_NoRow (nd_ne X.ne (i := 10) (j := 5) rfl rfl (by decide)) (nd_ne X.ne (i := 10) (j := 0) rfl rfl (by decide)), kit_ref X.t_NoName X.t_NoStair (nd_ne X.ne (i := 11) (j := 5) rfl rfl (by decide)) (nd_ne X.ne (i := 11) (j := 0) rfl rfl (by decide)), kit_ref X.t_NoName X.t_NoSteps (nd_ne X.ne (i := 12) (j := 5) rfl rfl (by decide)) (nd_ne X.ne (i := 12) (j := 0) rfl rfl (by decide)), kit_ref X.t_NoName X.t_NoText (nd_ne X.ne (i := 13) (j := 5) rfl rfl (by decide)) (nd_ne X.ne (i := 13) (j := 0) rfl rfl (by decide)), kit_ref X.t_NoName X.t_NoWalker (nd_ne X.ne (i := 14) (j := 5) rfl rfl (by decide)) (nd_ne X.ne (i := 14) (j := 0) rfl rfl (by decide)), kit_ref X.t_NoName X.t_NothingLeft (nd_ne X.ne (i := 15) (j := 5) rfl rfl (by decide)) (nd_ne X.ne (i := 15) (j := 0) rfl rfl (by decide)), kit_ref X.t_NoName X.t_TooMany (nd_ne X.ne (i := 16) (j := 5) rfl rfl (by decide)) (nd_ne X.ne (i := 16) (j := 0) rfl rfl (by decide))⟩
  | 5, n =>
    cases n
    refine ⟨by decide, X.t_NoPartner, kit_ref X.t_NoPartner X.t_NoBounds (nd_ne X.ne (i := 1) (j := 6) rfl rfl (by decide)) (nd_ne X.ne (i := 1) (j := 0) rfl rfl (by decide)), kit_ref X.t_NoPartner X.t_NoCoins (nd_ne X.ne (i := 2) (j := 6) rfl rfl (by decide)) (nd_ne X.ne (i := 2) (j := 0) rfl rfl (by decide)), kit_ref X.t_NoPartner X.t_NoCount (nd_ne X.ne (i := 3) (j := 6) rfl rfl (by decide)) (nd_ne X.ne (i := 3) (j := 0) rfl rfl (by decide)), kit_ref X.t_NoPartner X.t_NoEntry (nd_ne X.ne (i := 4) (j := 6) rfl rfl (by decide)) (nd_ne X.ne (i := 4) (j := 0) rfl rfl (by decide)), kit_ref X.t_NoPartner X.t_NoName (nd_ne X.ne (i := 5) (j := 6) rfl rfl (by decide)) (nd_ne X.ne (i := 5) (j := 0) rfl rfl (by decide)), kit_same, kit_ref X.t_NoPartner X.t_NoPower (nd_ne X.ne (i := 7) (j := 6) rfl rfl (by decide)) (nd_ne X.ne (i := 7) (j := 0) rfl rfl (by decide)), kit_ref X.t_NoPartner X.t_NoRing (nd_ne X.ne (i := 8) (j := 6) rfl rfl (by decide)) (nd_ne X.ne (i := 8) (j := 0) rfl rfl (by decide)), kit_ref X.t_NoPartner X.t_NoRise (nd_ne X.ne (i := 9) (j := 6) rfl rfl (by decide)) (nd_ne X.ne (i := 9) (j := 0) rfl rfl (by decide)), kit_ref X.t_NoPartner X.t_NoRow (nd_ne X.ne (i := 10) (j := 6) rfl rfl (by decide)) (nd_ne X.ne (i := 10) (j := 0) rfl rfl (by decide)), kit_ref X.t_NoPartner X.t_NoStair (nd_ne X.ne (i := 11) (j := 6) rfl rfl (by decide)) (nd_ne X.ne (i := 11) (j := 0) rfl rfl (by decide)), kit_ref X.t_NoPartner X.t_NoSteps (nd_ne X.ne (i := 12) (j := 6) rfl rfl (by decide)) (nd_ne X.ne (i := 12) (j := 0) rfl rfl (by decide)), kit_ref X.t_NoPartner X.t_NoText (nd_ne X.ne (i := 13) (j := 6) rfl rfl (by decide)) (nd_ne X.ne (i := 13) (j := 0) rfl rfl (by decide)), kit_ref X.t_NoPartner X.t_NoWalker (nd_ne X.ne (i := 14) (j := 6) rfl rfl (by decide)) (nd_ne X.ne (i := 14) (j := 0) rfl rfl (by decide)), kit_ref X.t_NoPartner X.t_NothingLeft (nd_ne X.ne (i := 15) (j := 6) rfl rfl (by decide)) (nd_ne X.ne (i := 15) (j := 0) rfl rfl (by decide)), kit_ref X.t_NoPartner X.t_TooMany (nd_ne X.ne (i := 16) (j := 6) rfl rfl (by decide)) (nd_ne X.ne (i := 16) (j := 0) rfl rfl (by decide))⟩
  | 6, n =>
    cases n
    refine ⟨by decide, X.t_NoPower, kit_ref X.t_NoPower X.t_NoBounds (nd_ne X.ne (i := 1) (j := 7) rfl rfl (by decide)) (nd_ne X.ne (i := 1) (j := 0) rfl rfl (by decide)), kit_ref X.t_NoPower X.t_NoCoins (nd_ne X.ne (i := 2) (j := 7) rfl rfl (by decide)) (nd_ne X.ne (i := 2) (j := 0) rfl rfl (by decide)), kit_ref X.t_NoPower X.t_NoCount (nd_ne X.ne (i := 3) (j := 7) rfl rfl (by decide)) (nd_ne X.ne (i := 3) (j := 0) rfl rfl (by decide)), kit_ref X.t_NoPower X.t_NoEntry (nd_ne X.ne (i := 4) (j := 7) rfl rfl (by decide)) (nd_ne X.ne (i := 4) (j := 0) rfl rfl (by decide)), kit_ref X.t_NoPower X.t_NoName (nd_ne X.ne (i := 5) (j := 7) rfl rfl (by decide)) (nd_ne X.ne (i := 5) (j := 0) rfl rfl (by decide)), kit_ref X.t_NoPower X.t_NoPartner (nd_ne X.ne (i := 6) (j := 7) rfl rfl (by decide)) (nd_ne X.ne (i := 6) (j := 0) rfl rfl (by decide)), kit_same, kit_ref X.t_NoPower X.t_NoRing (nd_ne X.ne (i := 8) (j := 7) rfl rfl (by decide)) (nd_ne X.ne (i := 8) (j := 0) rfl rfl (by decide)), kit_ref X.t_NoPower X.t_NoRise (nd_ne X.ne (i := 9) (j := 7) rfl rfl (by decide)) (nd_ne X.ne (i := 9) (j := 0) rfl rfl (by decide)), kit_ref X.t_NoPower X.t_NoRow (nd_ne X.ne (i := 10) (j := 7) rfl rfl (by decide)) (nd_ne X.ne (i := 10) (j := 0) rfl rfl (by decide)), kit_ref X.t_NoPower X.t_NoStair (nd_ne X.ne (i := 11) (j := 7) rfl rfl (by decide)) (nd_ne X.ne (i := 11) (j := 0) rfl rfl (by decide)), kit_ref X.t_NoPower X.t_NoSteps (nd_ne X.ne (i := 12) (j := 7) rfl rfl (by decide)) (nd_ne X.ne (i := 12) (j := 0) rfl rfl (by decide)), kit_ref X.t_NoPower X.t_NoText (nd_ne X.ne (i := 13) (j := 7) rfl rfl (by decide)) (nd_ne X.ne (i := 13) (j := 0) rfl rfl (by decide)), kit_ref X.t_NoPower X.t_NoWalker (nd_ne X.ne (i := 14) (j := 7) rfl rfl (by decide)) (nd_ne X.ne (i := 14) (j := 0) rfl rfl (by decide)), kit_ref X.t_NoPower X.t_NothingLeft (nd_ne X.ne (i := 15) (j := 7) rfl rfl (by decide)) (nd_ne X.ne (i := 15) (j := 0) rfl rfl (by decide)), kit_ref X.t_NoPower X.t_TooMany (nd_ne X.ne (i := 16) (j := 7) rfl rfl (by decide)) (nd_ne X.ne (i := 16) (j := 0) rfl rfl (by decide))⟩
  | 7, n =>
    cases n
    refine ⟨by decide, X.t_NoRing, kit_ref X.t_NoRing X.t_NoBounds (nd_ne X.ne (i := 1) (j := 8) rfl rfl (by decide)) (nd_ne X.ne (i := 1) (j := 0) rfl rfl (by decide)), kit_ref X.t_NoRing X.t_NoCoins (nd_ne X.ne (i := 2) (j := 8) rfl rfl (by decide)) (nd_ne X.ne (i := 2) (j := 0) rfl rfl (by decide)), kit_ref X.t_NoRing X.t_NoCount (nd_ne X.ne (i := 3) (j := 8) rfl rfl (by decide)) (nd_ne X.ne (i := 3) (j := 0) rfl rfl (by decide)), kit_ref X.t_NoRing X.t_NoEntry (nd_ne X.ne (i := 4) (j := 8) rfl rfl (by decide)) (nd_ne X.ne (i := 4) (j := 0) rfl rfl (by decide)), kit_ref X.t_NoRing X.t_NoName (nd_ne X.ne (i := 5) (j := 8) rfl rfl (by decide)) (nd_ne X.ne (i := 5) (j := 0) rfl rfl (by decide)), kit_ref X.t_NoRing X.t_NoPartner (nd_ne X.ne (i := 6) (j := 8) rfl rfl (by decide)) (nd_ne X.ne (i := 6) (j := 0) rfl rfl (by decide)), kit_ref X.t_NoRing X.t_NoPower (nd_ne X.ne (i := 7) (j := 8) rfl rfl (by decide)) (nd_ne X.ne (i := 7) (j := 0) rfl rfl (by decide)), kit_same, kit_ref X.t_NoRing X.t_NoRise (nd_ne X.ne (i := 9) (j := 8) rfl rfl (by decide)) (nd_ne X.ne (i := 9) (j := 0) rfl rfl (by decide)), kit_ref X.t_NoRing X.t_NoRow (nd_ne X.ne (i := 10) (j := 8) rfl rfl (by decide)) (nd_ne X.ne (i := 10) (j := 0) rfl rfl (by decide)), kit_ref X.t_NoRing X.t_NoStair (nd_ne X.ne (i := 11) (j := 8) rfl rfl (by decide)) (nd_ne X.ne (i := 11) (j := 0) rfl rfl (by decide)), kit_ref X.t_NoRing X.t_NoSteps (nd_ne X.ne (i := 12) (j := 8) rfl rfl (by decide)) (nd_ne X.ne (i := 12) (j := 0) rfl rfl (by decide)), kit_ref X.t_NoRing X.t_NoText (nd_ne X.ne (i := 13) (j := 8) rfl rfl (by decide)) (nd_ne X.ne (i := 13) (j := 0) rfl rfl (by decide)), kit_ref X.t_NoRing X.t_NoWalker (nd_ne X.ne (i := 14) (j := 8) rfl rfl (by decide)) (nd_ne X.ne (i := 14) (j := 0) rfl rfl (by decide)), kit_ref X.t_NoRing X.t_NothingLeft (nd_ne X.ne (i := 15) (j := 8) rfl rfl (by decide)) (nd_ne X.ne (i := 15) (j := 0) rfl rfl (by decide)), kit_ref X.t_NoRing X.t_TooMany (nd_ne X.ne (i := 16) (j := 8) rfl rfl (by decide)) (nd_ne X.ne (i := 16) (j := 0) rfl rfl (by decide))⟩
  | 8, n =>
    cases n
    refine ⟨by decide, X.t_NoRise, kit_ref X.t_NoRise X.t_NoBounds (nd_ne X.ne (i := 1) (j := 9) rfl rfl (by decide)) (nd_ne X.ne (i := 1) (j := 0) rfl rfl (by decide)), kit_ref X.t_NoRise X.t_NoCoins (nd_ne X.ne (i := 2) (j := 9) rfl rfl (by decide)) (nd_ne X.ne (i := 2) (j := 0) rfl rfl (by decide)), kit_ref X.t_NoRise X.t_NoCount (nd_ne X.ne (i := 3) (j := 9) rfl rfl (by decide)) (nd_ne X.ne (i := 3) (j := 0) rfl rfl (by decide)), kit_ref X.t_NoRise X.t_NoEntry (nd_ne X.ne (i := 4) (j := 9) rfl rfl (by decide)) (nd_ne X.ne (i := 4) (j := 0) rfl rfl (by decide)), kit_ref X.t_NoRise X.t_NoName (nd_ne X.ne (i := 5) (j := 9) rfl rfl (by decide)) (nd_ne X.ne (i := 5) (j := 0) rfl rfl (by decide)), kit_ref X.t_NoRise X.t_NoPartner (nd_ne X.ne (i := 6) (j := 9) rfl rfl (by decide)) (nd_ne X.ne (i := 6) (j := 0) rfl rfl (by decide)), kit_ref X.t_NoRise X.t_NoPower (nd_ne X.ne (i := 7) (j := 9) rfl rfl (by decide)) (nd_ne X.ne (i := 7) (j := 0) rfl rfl (by decide)), kit_ref X.t_NoRise X.t_NoRing (nd_ne X.ne (i := 8) (j := 9) rfl rfl (by decide)) (nd_ne X.ne (i := 8) (j := 0) rfl rfl (by decide)), kit_same, kit_ref X.t_NoRise X.t_NoRow (nd_ne X.ne (i := 10) (j := 9) rfl rfl (by decide)) (nd_ne X.ne (i := 10) (j := 0) rfl rfl (by decide)), kit_ref X.t_NoRise X.t_NoStair (nd_ne X.ne (i := 11) (j := 9) rfl rfl (by decide)) (nd_ne X.ne (i := 11) (j := 0) rfl rfl (by decide)), kit_ref X.t_NoRise X.t_NoSteps (nd_ne X.ne (i := 12) (j := 9) rfl rfl (by decide)) (nd_ne X.ne (i := 12) (j := 0) rfl rfl (by decide)), kit_ref X.t_NoRise X.t_NoText (nd_ne X.ne (i := 13) (j := 9) rfl rfl (by decide)) (nd_ne X.ne (i := 13) (j := 0) rfl rfl (by decide)), kit_ref X.t_NoRise X.t_NoWalker (nd_ne X.ne (i := 14) (j := 9) rfl rfl (by decide)) (nd_ne X.ne (i := 14) (j := 0) rfl rfl (by decide)), kit_ref X.t_NoRise X.t_NothingLeft (nd_ne X.ne (i := 15) (j := 9) rfl rfl (by decide)) (nd_ne X.ne (i := 15) (j := 0) rfl rfl (by decide)), kit_ref X.t_NoRise X.t_TooMany (nd_ne X.ne (i := 16) (j := 9) rfl rfl (by decide)) (nd_ne X.ne (i := 16) (j := 0) rfl rfl (by decide))⟩
  | 9, n =>
    cases n
    refine ⟨by decide, X.t_NoRow, kit_ref X.t_NoRow X.t_NoBounds (nd_ne X.ne (i := 1) (j := 10) rfl rfl (by decide)) (nd_ne X.ne (i := 1) (j := 0) rfl rfl (by decide)), kit_ref X.t_NoRow X.t_NoCoins (nd_ne X.ne (i := 2) (j := 10) rfl rfl (by decide)) (nd_ne X.ne (i := 2) (j := 0) rfl rfl (by decide)), kit_ref X.t_NoRow X.t_NoCount (nd_ne X.ne (i := 3) (j := 10) rfl rfl (by decide)) (nd_ne X.ne (i := 3) (j := 0) rfl rfl (by decide)), kit_ref X.t_NoRow X.t_NoEntry (nd_ne X.ne (i := 4) (j := 10) rfl rfl (by decide)) (nd_ne X.ne (i := 4) (j := 0) rfl rfl (by decide)), kit_ref X.t_NoRow X.t_NoName (nd_ne X.ne (i := 5) (j := 10) rfl rfl (by decide)) (nd_ne X.ne (i := 5) (j := 0) rfl rfl (by decide)), kit_ref X.t_NoRow X.t_NoPartner (nd_ne X.ne (i := 6) (j := 10) rfl rfl (by decide)) (nd_ne X.ne (i := 6) (j := 0) rfl rfl (by decide)), kit_ref X.t_NoRow X.t_NoPower (nd_ne X.ne (i := 7) (j := 10) rfl rfl (by decide)) (nd_ne X.ne (i := 7) (j := 0) rfl rfl (by decide)), kit_ref X.t_NoRow X.t_NoRing (nd_ne X.ne (i := 8) (j := 10) rfl rfl (by decide)) (nd_ne X.ne (i := 8) (j := 0) rfl rfl (by decide)), kit_ref X.t_NoRow X.t_NoRise (nd_ne X.ne (i := 9) (j := 10) rfl rfl (by decide)) (nd_ne X.ne (i := 9) (j := 0) rfl rfl (by decide)), kit_same, kit_ref X.t_NoRow X.t_NoStair (nd_ne X.ne (i := 11) (j := 10) rfl rfl (by decide)) (nd_ne X.ne (i := 11) (j := 0) rfl rfl (by decide)), kit_ref X.t_NoRow X.t_NoSteps (nd_ne X.ne (i := 12) (j := 10) rfl rfl (by decide)) (nd_ne X.ne (i := 12) (j := 0) rfl rfl (by decide)), kit_ref X.t_NoRow X.t_NoText (nd_ne X.ne (i := 13) (j := 10) rfl rfl (by decide)) (nd_ne X.ne (i := 13) (j := 0) rfl rfl (by decide)), kit_ref X.t_NoRow X.t_NoWalker (nd_ne X.ne (i := 14) (j := 10) rfl rfl (by decide)) (nd_ne X.ne (i := 14) (j := 0) rfl rfl (by decide)), kit_ref X.t_NoRow X.t_NothingLeft (nd_ne X.ne (i := 15) (j := 10) rfl rfl (by decide)) (nd_ne X.ne (i := 15) (j := 0) rfl rfl (by decide)), kit_ref X.t_NoRow X.t_TooMany (nd_ne X.ne (i := 16) (j := 10) rfl rfl (by decide)) (nd_ne X.ne (i := 16) (j := 0) rfl rfl (by decide))⟩
  | 10, n =>
    cases n
    refine ⟨by decide, X.t_NoStair, kit_ref X.t_NoStair X.t_NoBounds (nd_ne X.ne (i := 1) (j := 11) rfl rfl (by decide)) (nd_ne X.ne (i := 1) (j := 0) rfl rfl (by decide)), kit_ref X.t_NoStair X.t_NoCoins (nd_ne X.ne (i := 2) (j := 11) rfl rfl (by decide)) (nd_ne X.ne (i := 2) (j := 0) rfl rfl (by decide)), kit_ref X.t_NoStair X.t_NoCount (nd_ne X.ne (i := 3) (j := 11) rfl rfl (by decide)) (nd_ne X.ne (i := 3) (j := 0) rfl rfl (by decide)), kit_ref X.t_NoStair X.t_NoEntry (nd_ne X.ne (i := 4) (j := 11) rfl rfl (by decide)) (nd_ne X.ne (i := 4) (j := 0) rfl rfl (by decide)), kit_ref X.t_NoStair X.t_NoName (nd_ne X.ne (i := 5) (j := 11) rfl rfl (by decide)) (nd_ne X.ne (i := 5) (j := 0) rfl rfl (by decide)), kit_ref X.t_NoStair X.t_NoPartner (nd_ne X.ne (i := 6) (j := 11) rfl rfl (by decide)) (nd_ne X.ne (i := 6) (j := 0) rfl rfl (by decide)), kit_ref X.t_NoStair X.t_NoPower (nd_ne X.ne (i := 7) (j := 11) rfl rfl (by decide)) (nd_ne X.ne (i := 7) (j := 0) rfl rfl (by decide)), kit_ref X.t_NoStair X.t_NoRing (nd_ne X.ne (i := 8) (j := 11) rfl rfl (by decide)) (nd_ne X.ne (i := 8) (j := 0) rfl rfl (by decide)), kit_ref X.t_NoStair X.t_NoRise (nd_ne X.ne (i := 9) (j := 11) rfl rfl (by decide)) (nd_ne X.ne (i := 9) (j := 0) rfl rfl (by decide)), kit_ref X.t_NoStair X.t_NoRow (nd_ne X.ne (i := 10) (j := 11) rfl rfl (by decide)) (nd_ne X.ne (i := 10) (j := 0) rfl rfl (by decide)), kit_same, kit_ref X.t_NoStair X.t_NoSteps (nd_ne X.ne (i := 12) (j := 11) rfl rfl (by decide)) (nd_ne X.ne (i := 12) (j := 0) rfl rfl (by decide)), kit_ref X.t_NoStair X.t_NoText (nd_ne X.ne (i := 13) (j := 11) rfl rfl (by decide)) (nd_ne X.ne (i := 13) (j := 0) rfl rfl (by decide)), kit_ref X.t_NoStair X.t_NoWalker (nd_ne X.ne (i := 14) (j := 11) rfl rfl (by decide)) (nd_ne X.ne (i := 14) (j := 0) rfl rfl (by decide)), kit_ref X.t_NoStair X.t_NothingLeft (nd_ne X.ne (i := 15) (j := 11) rfl rfl (by decide)) (nd_ne X.ne (i := 15) (j := 0) rfl rfl (by decide)), kit_ref X.t_NoStair X.t_TooMany (nd_ne X.ne (i := 16) (j := 11) rfl rfl (by decide)) (nd_ne X.ne (i := 16) (j := 0) rfl rfl (by decide))⟩
  | 11, n =>
    cases n
    refine ⟨by decide, X.t_NoSteps, kit_ref X.t_NoSteps X.t_NoBounds (nd_ne X.ne (i := 1) (j := 12) rfl rfl (by decide)) (nd_ne X.ne (i := 1) (j := 0) rfl rfl (by decide)), kit_ref X.t_NoSteps X.t_NoCoins (nd_ne X.ne (i := 2) (j := 12) rfl rfl (by decide)) (nd_ne X.ne (i := 2) (j := 0) rfl rfl (by decide)), kit_ref X.t_NoSteps X.t_NoCount (nd_ne X.ne (i := 3) (j := 12) rfl rfl (by decide)) (nd_ne X.ne (i := 3) (j := 0) rfl rfl (by decide)), kit_ref X.t_NoSteps X.t_NoEntry (nd_ne X.ne (i := 4) (j := 12) rfl rfl (by decide)) (nd_ne X.ne (i := 4) (j := 0) rfl rfl (by decide)), kit_ref X.t_NoSteps X.t_NoName (nd_ne X.ne (i := 5) (j := 12) rfl rfl (by decide)) (nd_ne X.ne (i := 5) (j := 0) rfl rfl (by decide)), kit_ref X.t_NoSteps X.t_NoPartner (nd_ne X.ne (i := 6) (j := 12) rfl rfl (by decide)) (nd_ne X.ne (i := 6) (j := 0) rfl rfl (by decide)), kit_ref X.t_NoSteps X.t_NoPower (nd_ne X.ne (i := 7) (j := 12) rfl rfl (by decide)) (nd_ne X.ne (i := 7) (j := 0) rfl rfl (by decide)), kit_ref X.t_NoSteps X.t_NoRing (nd_ne X.ne (i := 8) (j := 12) rfl rfl (by decide)) (nd_ne X.ne (i := 8) (j := 0) rfl rfl (by decide)), kit_ref X.t_NoSteps X.t_NoRise (nd_ne X.ne (i := 9) (j := 12) rfl rfl (by decide)) (nd_ne X.ne (i := 9) (j := 0) rfl rfl (by decide)), kit_ref X.t_NoSteps X.t_NoRow (nd_ne X.ne (i := 10) (j := 12) rfl rfl (by decide)) (nd_ne X.ne (i := 10) (j := 0) rfl rfl (by decide)), kit_ref X.t_NoSteps X.t_NoStair (nd_ne X.ne (i := 11) (j := 12) rfl rfl (by decide)) (nd_ne X.ne (i := 11) (j := 0) rfl rfl (by decide)), kit_same, kit_ref X.t_NoSteps X.t_NoText (nd_ne X.ne (i := 13) (j := 12) rfl rfl (by decide)) (nd_ne X.ne (i := 13) (j := 0) rfl rfl (by decide)), kit_ref X.t_NoSteps X.t_NoWalker (nd_ne X.ne (i := 14) (j := 12) rfl rfl (by decide)) (nd_ne X.ne (i := 14) (j := 0) rfl rfl (by decide)), kit_ref X.t_NoSteps X.t_NothingLeft (nd_ne X.ne (i := 15) (j := 12) rfl rfl (by decide)) (nd_ne X.ne (i := 15) (j := 0) rfl rfl (by decide)), kit_ref X.t_NoSteps X.t_TooMany (nd_ne X.ne (i := 16) (j := 12) rfl rfl (by decide)) (nd_ne X.ne (i := 16) (j := 0) rfl rfl (by decide))⟩
  | 12, n =>
    cases n
    refine ⟨by decide, X.t_NoText, kit_ref X.t_NoText X.t_NoBounds (nd_ne X.ne (i := 1) (j := 13) rfl rfl (by decide)) (nd_ne X.ne (i := 1) (j := 0) rfl rfl (by decide)), kit_ref X.t_NoText X.t_NoCoins (nd_ne X.ne (i := 2) (j := 13) rfl rfl (by decide)) (nd_ne X.ne (i := 2) (j := 0) rfl rfl (by decide)), kit_ref X.t_NoText X.t_NoCount (nd_ne X.ne (i := 3) (j := 13) rfl rfl (by decide)) (nd_ne X.ne (i := 3) (j := 0) rfl rfl (by decide)), kit_ref X.t_NoText X.t_NoEntry (nd_ne X.ne (i := 4) (j := 13) rfl rfl (by decide)) (nd_ne X.ne (i := 4) (j := 0) rfl rfl (by decide)), kit_ref X.t_NoText X.t_NoName (nd_ne X.ne (i := 5) (j := 13) rfl rfl (by decide)) (nd_ne X.ne (i := 5) (j := 0) rfl rfl (by decide)), kit_ref X.t_NoText X.t_NoPartner (nd_ne X.ne (i := 6) (j := 13) rfl rfl (by decide)) (nd_ne X.ne (i := 6) (j := 0) rfl rfl (by decide)), kit_ref X.t_NoText X.t_NoPower (nd_ne X.ne (i := 7) (j := 13) rfl rfl (by decide)) (nd_ne X.ne (i := 7) (j := 0) rfl rfl (by decide)), kit_ref X.t_NoText X.t_NoRing (nd_ne X.ne (i := 8) (j := 13) rfl rfl (by decide)) (nd_ne X.ne (i := 8) (j := 0) rfl rfl (by decide)), kit_ref X.t_NoText X.t_NoRise (nd_ne X.ne (i := 9) (j := 13) rfl rfl (by decide)) (nd_ne X.ne (i := 9) (j := 0) rfl rfl (by decide)), kit_ref X.t_NoText X.t_NoRow (nd_ne X.ne (i := 10) (j := 13) rfl rfl (by decide)) (nd_ne X.ne (i := 10) (j := 0) rfl rfl (by decide)), kit_ref X.t_NoText X.t_NoStair (nd_ne X.ne (i := 11) (j := 13) rfl rfl (by decide)) (nd_ne X.ne (i := 11) (j := 0) rfl rfl (by decide)), kit_ref X.t_NoText X.t_NoSteps (nd_ne X.ne (i := 12) (j := 13) rfl rfl (by decide)) (nd_ne X.ne (i := 12) (j := 0) rfl rfl (by decide)), kit_same, kit_ref X.t_NoText X.t_NoWalker (nd_ne X.ne (i := 14) (j := 13) rfl rfl (by decide)) (nd_ne X.ne (i := 14) (j := 0) rfl rfl (by decide)), kit_ref X.t_NoText X.t_NothingLeft (nd_ne X.ne (i := 15) (j := 13) rfl rfl (by decide)) (nd_ne X.ne (i := 15) (j := 0) rfl rfl (by decide)), kit_ref X.t_NoText X.t_TooMany (nd_ne X.ne (i := 16) (j := 13) rfl rfl (by decide)) (nd_ne X.ne (i := 16) (j := 0) rfl rfl (by decide))⟩
  | 13, n =>
    cases n
    refine ⟨by decide, X.t_NoWalker, kit_ref X.t_NoWalker X.t_NoBounds (nd_ne X.ne (i := 1) (j := 14) rfl rfl (by decide)) (nd_ne X.ne (i := 1) (j := 0) rfl rfl (by decide)), kit_ref X.t_NoWalker X.t_NoCoins (nd_ne X.ne (i := 2) (j := 14) rfl rfl (by decide)) (nd_ne X.ne (i := 2) (j := 0) rfl rfl (by decide)), kit_ref X.t_NoWalker X.t_NoCount (nd_ne X.ne (i := 3) (j := 14) rfl rfl (by decide)) (nd_ne X.ne (i := 3) (j := 0) rfl rfl (by decide)), kit_ref X.t_NoWalker X.t_NoEntry (nd_ne X.ne (i := 4) (j := 14) rfl rfl (by decide)) (nd_ne X.ne (i := 4) (j := 0) rfl rfl (by decide)), kit_ref X.t_NoWalker X.t_NoName (nd_ne X.ne (i := 5) (j := 14) rfl rfl (by decide)) (nd_ne X.ne (i := 5) (j := 0) rfl rfl (by decide)), kit_ref X.t_NoWalker X.t_NoPartner (nd_ne X.ne (i := 6) (j := 14) rfl rfl (by decide)) (nd_ne X.ne (i := 6) (j := 0) rfl rfl (by decide)), kit_ref X.t_NoWalker X.t_NoPower (nd_ne X.ne (i := 7) (j := 14) rfl rfl (by decide)) (nd_ne X.ne (i := 7) (j := 0) rfl rfl (by decide)), kit_ref X.t_NoWalker X.t_NoRing (nd_ne X.ne (i := 8) (j := 14) rfl rfl (by decide)) (nd_ne X.ne (i := 8) (j := 0) rfl rfl (by decide)), kit_ref X.t_NoWalker X.t_NoRise (nd_ne X.ne (i := 9) (j := 14) rfl rfl (by decide)) (nd_ne X.ne (i := 9) (j := 0) rfl rfl (by decide)), kit_ref X.t_NoWalker X.t_NoRow (nd_ne X.ne (i := 10) (j := 14) rfl rfl (by decide)) (nd_ne X.ne (i := 10) (j := 0) rfl rfl (by decide)), kit_ref X.t_NoWalker X.t_NoStair (nd_ne X.ne (i := 11) (j := 14) rfl rfl (by decide)) (nd_ne X.ne (i := 11) (j := 0) rfl rfl (by decide)), kit_ref X.t_NoWalker X.t_NoSteps (nd_ne X.ne (i := 12) (j := 14) rfl rfl (by decide)) (nd_ne X.ne (i := 12) (j := 0) rfl rfl (by decide)), kit_ref X.t_NoWalker X.t_NoText (nd_ne X.ne (i := 13) (j := 14) rfl rfl (by decide)) (nd_ne X.ne (i := 13) (j := 0) rfl rfl (by decide)), kit_same, kit_ref X.t_NoWalker X.t_NothingLeft (nd_ne X.ne (i := 15) (j := 14) rfl rfl (by decide)) (nd_ne X.ne (i := 15) (j := 0) rfl rfl (by decide)), kit_ref X.t_NoWalker X.t_TooMany (nd_ne X.ne (i := 16) (j := 14) rfl rfl (by decide)) (nd_ne X.ne (i := 16) (j := 0) rfl rfl (by decide))⟩
  | 14, n =>
    cases n
    refine ⟨by decide, X.t_NothingLeft, kit_ref X.t_NothingLeft X.t_NoBounds (nd_ne X.ne (i := 1) (j := 15) rfl rfl (by decide)) (nd_ne X.ne (i := 1) (j := 0) rfl rfl (by decide)), kit_ref X.t_NothingLeft X.t_NoCoins (nd_ne X.ne (i := 2) (j := 15) rfl rfl (by decide)) (nd_ne X.ne (i := 2) (j := 0) rfl rfl (by decide)), kit_ref X.t_NothingLeft X.t_NoCount (nd_ne X.ne (i := 3) (j := 15) rfl rfl (by decide)) (nd_ne X.ne (i := 3) (j := 0) rfl rfl (by decide)), kit_ref X.t_NothingLeft X.t_NoEntry (nd_ne X.ne (i := 4) (j := 15) rfl rfl (by decide)) (nd_ne X.ne (i := 4) (j := 0) rfl rfl (by decide)), kit_ref X.t_NothingLeft X.t_NoName (nd_ne X.ne (i := 5) (j := 15) rfl rfl (by decide)) (nd_ne X.ne (i := 5) (j := 0) rfl rfl (by decide)), kit_ref X.t_NothingLeft X.t_NoPartner (nd_ne X.ne (i := 6) (j := 15) rfl rfl (by decide)) (nd_ne X.ne (i := 6) (j := 0) rfl rfl (by decide)), kit_ref X.t_NothingLeft X.t_NoPower (nd_ne X.ne (i := 7) (j := 15) rfl rfl (by decide)) (nd_ne X.ne (i := 7) (j := 0) rfl rfl (by decide)), kit_ref X.t_NothingLeft X.t_NoRing (nd_ne X.ne (i := 8) (j := 15) rfl rfl (by decide)) (nd_ne X.ne (i := 8) (j := 0) rfl rfl (by decide)), kit_ref X.t_NothingLeft X.t_NoRise (nd_ne X.ne (i := 9) (j := 15) rfl rfl (by decide)) (nd_ne X.ne (i := 9) (j := 0) rfl rfl (by decide)), kit_ref X.t_NothingLeft X.t_NoRow (nd_ne X.ne (i := 10) (j := 15) rfl rfl (by decide)) (nd_ne X.ne (i := 10) (j := 0) rfl rfl (by decide)), kit_ref X.t_NothingLeft X.t_NoStair (nd_ne X.ne (i := 11) (j := 15) rfl rfl (by decide)) (nd_ne X.ne (i := 11) (j := 0) rfl rfl (by decide)), kit_ref X.t_NothingLeft X.t_NoSteps (nd_ne X.ne (i := 12) (j := 15) rfl rfl (by decide)) (nd_ne X.ne (i := 12) (j := 0) rfl rfl (by decide)), kit_ref X.t_NothingLeft X.t_NoText (nd_ne X.ne (i := 13) (j := 15) rfl rfl (by decide)) (nd_ne X.ne (i := 13) (j := 0) rfl rfl (by decide)), kit_ref X.t_NothingLeft X.t_NoWalker (nd_ne X.ne (i := 14) (j := 15) rfl rfl (by decide)) (nd_ne X.ne (i := 14) (j := 0) rfl rfl (by decide)), kit_same, kit_ref X.t_NothingLeft X.t_TooMany (nd_ne X.ne (i := 16) (j := 15) rfl rfl (by decide)) (nd_ne X.ne (i := 16) (j := 0) rfl rfl (by decide))⟩
  | 15, n =>
    cases n
    refine ⟨by decide, X.t_TooMany, kit_ref X.t_TooMany X.t_NoBounds (nd_ne X.ne (i := 1) (j := 16) rfl rfl (by decide)) (nd_ne X.ne (i := 1) (j := 0) rfl rfl (by decide)), kit_ref X.t_TooMany X.t_NoCoins (nd_ne X.ne (i := 2) (j := 16) rfl rfl (by decide)) (nd_ne X.ne (i := 2) (j := 0) rfl rfl (by decide)), kit_ref X.t_TooMany X.t_NoCount (nd_ne X.ne (i := 3) (j := 16) rfl rfl (by decide)) (nd_ne X.ne (i := 3) (j := 0) rfl rfl (by decide)), kit_ref X.t_TooMany X.t_NoEntry (nd_ne X.ne (i := 4) (j := 16) rfl rfl (by decide)) (nd_ne X.ne (i := 4) (j := 0) rfl rfl (by decide)), kit_ref X.t_TooMany X.t_NoName (nd_ne X.ne (i := 5) (j := 16) rfl rfl (by decide)) (nd_ne X.ne (i := 5) (j := 0) rfl rfl (by decide)), kit_ref X.t_TooMany X.t_NoPartner (nd_ne X.ne (i := 6) (j := 16) rfl rfl (by decide)) (nd_ne X.ne (i := 6) (j := 0) rfl rfl (by decide)), kit_ref X.t_TooMany X.t_NoPower (nd_ne X.ne (i := 7) (j := 16) rfl rfl (by decide)) (nd_ne X.ne (i := 7) (j := 0) rfl rfl (by decide)), kit_ref X.t_TooMany X.t_NoRing (nd_ne X.ne (i := 8) (j := 16) rfl rfl (by decide)) (nd_ne X.ne (i := 8) (j := 0) rfl rfl (by decide)), kit_ref X.t_TooMany X.t_NoRise (nd_ne X.ne (i := 9) (j := 16) rfl rfl (by decide)) (nd_ne X.ne (i := 9) (j := 0) rfl rfl (by decide)), kit_ref X.t_TooMany X.t_NoRow (nd_ne X.ne (i := 10) (j := 16) rfl rfl (by decide)) (nd_ne X.ne (i := 10) (j := 0) rfl rfl (by decide)), kit_ref X.t_TooMany X.t_NoStair (nd_ne X.ne (i := 11) (j := 16) rfl rfl (by decide)) (nd_ne X.ne (i := 11) (j := 0) rfl rfl (by decide)), kit_ref X.t_TooMany X.t_NoSteps (nd_ne X.ne (i := 12) (j := 16) rfl rfl (by decide)) (nd_ne X.ne (i := 12) (j := 0) rfl rfl (by decide)), kit_ref X.t_TooMany X.t_NoText (nd_ne X.ne (i := 13) (j := 16) rfl rfl (by decide)) (nd_ne X.ne (i := 13) (j := 0) rfl rfl (by decide)), kit_ref X.t_TooMany X.t_NoWalker (nd_ne X.ne (i := 14) (j := 16) rfl rfl (by decide)) (nd_ne X.ne (i := 14) (j := 0) rfl rfl (by decide)), kit_ref X.t_TooMany X.t_NothingLeft (nd_ne X.ne (i := 15) (j := 16) rfl rfl (by decide)) (nd_ne X.ne (i := 15) (j := 0) rfl rfl (by decide)), kit_same⟩
  | i + 16, n => simp at n
theorem hotc_of {X : Cx} {A : Around} {p : Addr × Obj} (hot : L2H.Hot1 A p) (h : X.A.handled = A.handled) (hp : p ∈ X.pn) : L2H.HotC X := ⟨p, ⟨h.trans hot.1, hot.2⟩, hp⟩
theorem pg_tupHK {X : Cx} {K : PySem.W.Frag} {es : List Expr} {k : Nat} {t : TGs} {n : Nat} {pos : Pos} (hc : L2H.HotC X) (h : PGs X es t) (hK : X.K = K := by rfl)
    (hn : (assignEach es X.env).length = n := by rfl) (hst : (assignEach es X.env).findIdx? (·.1) = none := by rfl) : PG X (.Tuple es k pos) (gTup K n t) := hK ▸ pg_tupH hc h hn hst
theorem cxH_K {CX : CXT} {P : Program} {w : World} {K : PySem.W.Frag} {mg : Str → Option Value} {base : Heap} {N : List Str} {qual : Str} {scope : Scope} {f : Addr} {cd : Value} {A : Around} {outer : List Env} {s : Shared} {H : Hp} {E : XK} {p : Addr × Obj} : (L2H.cxH CX P w K mg base N qual scope f cd A outer s H E p).K = K := rfl
def kindW : List Str := ["NoBounds", "NoCoins", "NoCount", "NoEntry", "NoName", "NoPartner", "NoPower", "NoRing", "NoRise", "NoRow", "NoStair", "NoSteps", "NoText", "NoWalker", "NothingLeft", "TooMany", "+"]
def kindB (i : Nat) : List Bool := (List.range 16).map (fun j => decide (i = j)) ++ [true]
theorem kind_txt : ∀ i, i < 16 → Txt.join "" (((kindW.zip (kindB i)).filter (·.2)).map (·.1)) = kindT i := by decide +kernel
theorem kind_len : ∀ i, i < 16 → ((((kindW.zip (kindB i)).filter (·.2)).map (·.1)).map (·.length)).sum + (((kindW.zip (kindB i)).filter (·.2)).map (·.1)).length * (Str.ofString "").length ≤ 16777216 := by decide +kernel
theorem r_neSS {a : Str} {H : Hp} {Q : VK} (k : Q (.bl false) H) : rNe (.str a) (.str a) H Q := ⟨rfl, by rw [decide_eq_true rfl]; exact k⟩
theorem r_eqSS {a : Str} {H : Hp} {Q : VK} (k : Q (.bl true) H) : rEq (.str a) (.str a) H Q := ⟨rfl, by rw [decide_eq_true rfl]; exact k⟩
theorem r_neSD {a b : Str} (h : a ≠ b) {H : Hp} {Q : VK} (k : Q (.bl true) H) : rNe (.str a) (.str b) H Q := ⟨rfl, by rw [decide_eq_false (fun z => h (V.str.inj z))]; exact k⟩
theorem r_eqSD {a b : Str} (h : a ≠ b) {H : Hp} {Q : VK} (k : Q (.bl false) H) : rEq (.str a) (.str b) H Q := ⟨rfl, by rw [decide_eq_false (fun z => h (V.str.inj z))]; exact k⟩
theorem eqv_ns (z : Str) : PyData.eqv (.tuple [.none, .str z]) (.tuple [.none, .str z]) = true := by
  show (PyData.eqv .none .none && (PyData.eqv (.str z) (.str z) && true)) = true
  show (true && ((z == z) && true)) = true
  rw [beq_self_eq_true]
  rfl
theorem dp_ns {K : PySem.W.Frag} {H : Hp} {p : Addr} {z : Str} (h : H p = some (.tup [.non, .str z])) : Dp K H (.ref p) (.tuple [.none, .str z]) := .tup (SqT.of h) (.cons .non (.cons (.str z) .nil))
theorem r_neNS {K : PySem.W.Frag} {H : Hp} {Q : VK} {p q : Addr} {z : Str} (h : H p = some (.tup [.non, .str z])) (h' : H q = some (.tup [.non, .str z])) (k : Q (.bl false) H) (hs : SeqAt.shaped (.tuple [.none, .str z]) = true := by decide +kernel) : rNeD K (.ref p) (.ref q) H Q :=
  r_neD (dp_ns h) (dp_ns h') hs hs (by rw [eqv_ns]; exact k)
/-- False in a list of Trues -/
theorem r_inBF {K : PySem.W.Frag} {H : Hp} {Q : VK} {p : Addr} {n : Nat} (h : SqL K H p (List.replicate n (.bl true))) (k : Q (.bl false) H) : rIn K false (.bl false) (.ref p) H Q := by
  refine ⟨p, _, rfl, .inl h, rfl, ?_, ?_⟩
  · rw [List.all_eq_true]
    intro x hx
    rw [List.eq_of_mem_replicate hx]
    rfl
  · have e : inV (.bl false) (List.replicate n (V.bl true)) = false := by
      unfold inV
      rw [List.any_eq_false]
      intro x hx
      rw [List.eq_of_mem_replicate hx]
      decide
    rw [e]
    exact k
/-- a class that is raised, and what is told of it -/
def KdK (K : PySem.W.Frag) (c : Cl) (cls : Value) (z : Str) : Prop := ∃ i D, Nth c i D ∧ cls = .ref D ∧ z = kindT i ∧ XD K D
theorem kd_mk {K : PySem.W.Frag} {c : Cl} {D : Addr} (i : Nat) (d : XD K D) (n : Nth c i D) : KdK K c (.ref D) (kindT i) := ⟨i, D, n, rfl, rfl, d⟩
theorem r_isE {K : PySem.W.Frag} {D a C : Addr} {b : Bool} {H : Hp} {Q : VK} (e : PySem.W.kitOne K (.ref D) (.ref C) = some b) (k : Q (.bl b) H) : rIsE K D a [.ref a, .ref C] H Q :=
  ⟨.ref C, .ref C, b, rfl, fun u r => r, e, k⟩
theorem r_isEV {K : PySem.W.Frag} {D a : Addr} {S : Addr} {H : Hp} {Q : VK} (t : CT K D (.ref S :: vE)) (k : Q (.bl true) H) : rIsE K D a [.ref a, .ty "ValueError"] H Q :=
  ⟨.ty "ValueError", .type "ValueError", true, rfl, fun u r => r, kit_val t, k⟩
/-- [w for w, b in zip(words, flags) if b] -/
theorem lc_zipF {K : PySem.W.Frag} {σ : L2.St} {H : Hp} {Q : VK} {te : TE} {tt : TT} {a b : Addr} {ws : List Str} {bs : List Bool} {j1 j2 : Nat} {vs : List Nat} (ha : SqL K H a (ws.map V.str)) (hb : SqL K H b (bs.map V.bl)) (hl : ws.length = bs.length) (hn : ws.length ≤ 1000)
    (hw : ∀ x y, wipe (((wipe σ vs).set j1 (some x)).set j2 (some y)) vs = wipe σ vs)
    (ht : ∀ w f, PureT tt (((wipe σ vs).set j1 (some (.str w))).set j2 (some (.bl f))) H f) (he : ∀ w f, PureE te (((wipe σ vs).set j1 (some (.str w))).set j2 (some (.bl f))) H (.str w))
    (k : ∀ p H1, H p = none → Ex H H1 → H1 p = some (.lst ((((ws.zip bs).filter (·.2)).map (·.1)).map V.str)) → Q (.ref p) H1) : LcB (ItzH K a b) (gTup K 2 (gCons (gName j1) (gCons (gName j2) gNil))) tt te vs σ H Q := fun Dl hD => by
  have lz : (ws.zip bs).length = ws.length := by rw [List.length_zip, ← hl, Nat.min_self]
  refine ⟨fun i m H' => m = ws.length - i ∧ i ≤ ws.length ∧ Ex H H' ∧ H' Dl = some (.lst (((((ws.zip bs).take i).filter (·.2)).map (·.1)).map V.str)), ⟨_, rfl, Nat.zero_le _, Ex.new hD, by rw [upd_same]; rfl⟩, ?_⟩
  rintro i m H' ⟨rfl, hi, e, hd⟩
  by_cases hx : i = ws.length
  · subst hx
    refine .inl ⟨⟨_, sql_up e ha, by rw [List.length_map]; exact Nat.le_refl _⟩, ?_⟩
    rw [← lz, List.take_length] at hd
    exact k Dl H' hD e hd
  · have h1 : i < ws.length := by omega
    have h2 : i < bs.length := by omega
    have g1 : (ws.map V.str)[i]? = some (.str ws[i]) := by rw [List.getElem?_map, List.getElem?_eq_getElem h1]; rfl
    have g2 : (bs.map V.bl)[i]? = some (.bl bs[i]) := by rw [List.getElem?_map, List.getElem?_eq_getElem h2]; rfl
    have gz : (ws.zip bs)[i]? = some (ws[i], bs[i]) := by
      rw [List.getElem?_eq_getElem (by omega), List.getElem_zip]
    refine .inr ⟨⟨_, _, _, _, sql_up e ha, sql_up e hb, g1, g2⟩, fun H3 => Ex H H3 ∧ H3 Dl = some (.lst (((((ws.zip bs).take (i + 1)).filter (·.2)).map (·.1)).map V.str)), fun H3 p => ⟨ws.length - (i + 1), by omega, rfl, by omega, p⟩, ?_⟩
    rintro x H2 ⟨T, x1, y1, rfl, hT, rfl, q1, q2⟩
    have e1 : x1 = .str ws[i] := Option.some.inj ((q1 _ (sql_up e ha)).symm.trans g1)
    have e2 : y1 = .bl bs[i] := Option.some.inj ((q2 _ (sql_up e hb)).symm.trans g2)
    subst e1 e2
    refine ⟨T, _, rfl, SqT.of upd_same, rfl, _, _, rfl, _, _, rfl, rfl, hw _ _, ?_⟩
    have eT : Ex H' (upd H' T (.tup [.str ws[i], .bl bs[i]])) := Ex.new hT
    refine ht ws[i] bs[i] _ (e.trans eT) _ fun H4 e4 => ?_
    have eD := e4 _ _ (eT _ _ hd)
    have tk : (ws.zip bs).take (i + 1) = (ws.zip bs).take i ++ [(ws[i], bs[i])] := by rw [List.take_add_one, gz]; rfl
    cases hc : bs[i] with
    | true =>
      rw [if_pos rfl]
      have hc' := hc
      refine he ws[i] true H4 ((e.trans eT).trans e4) _ fun H5 e5 => ⟨_, e5 _ _ eD, ?_, ?_⟩
      · rw [List.length_map, List.length_map]
        have := List.length_filter_le (·.2) ((ws.zip bs).take i)
        rw [List.length_take] at this
        exact len_lt (by omega)
      · refine ⟨fun a o ho => ?_, ?_⟩
        · rw [upd_ne (ne_of_none ho hD)]
          exact e5 _ _ (e4 _ _ (eT _ _ (e _ _ ho)))
        · rw [upd_same, tk, List.filter_append, List.map_append, List.map_append, hc]
          rfl
    | false =>
      rw [if_neg Bool.false_ne_true]
      refine ⟨(e.trans eT).trans e4, ?_⟩
      rw [eD, tk, List.filter_append, List.map_append, List.map_append, hc]
      simp
theorem r_iZipH {K : PySem.W.Frag} {ta : TA} {σ : L2.St} {H : Hp} {R : It → Hp → Prop} (k : ta σ H fun vs H1 => ∃ a b xs ys, vs = [.ref a, .ref b] ∧ SqL K H1 a xs ∧ SqL K H1 b ys ∧ R (ItzH K a b) H1) : iZipH K ta σ H R := k
theorem r_zipE {K : PySem.W.Frag} {H : Hp} {a b : Addr} {xs ys : List V} {R : It → Hp → Prop} (ha : SqL K H a xs) (hb : SqL K H b ys) (k : R (ItzH K a b) H) : ∃ a' b' xs ys, [V.ref a, V.ref b] = [.ref a', .ref b'] ∧ SqL K H a' xs ∧ SqL K H b' ys ∧ R (ItzH K a' b') H := ⟨a, b, xs, ys, rfl, ha, hb, k⟩
end Sd
namespace Sd
open PySem PySem.Spec PyProof.Rows L2
def topS (i : Nat) : Stmt := PySem.Challenge.pw_stairsum_k36_two_coins.main.body.getD i (.Pass ⟨0, 0, 0, 0⟩)
local macro_rules | `(tactic| walk_at "pos") => `(tactic| first | assumption | decide | omega | fail "no step")
local macro_rules | `(tactic| walk_at "sz") => `(tactic| first
  | assumption
  | (with_reducible refine Sz.lit ?_; decide)
  | with_reducible exact Sz.b2
  | (with_reducible refine Sz.mul (n := ?n) (m := ?m) ?a ?b; (case a => walk_at "sz"); (case b => walk_at "sz"))
  | (with_reducible refine Sz.add (n := ?n) (m := ?m) ?a ?b; (case a => walk_at "sz"); (case b => walk_at "sz"))
  | (with_reducible refine Sz.sub (n := ?n) (m := ?m) ?a ?b; (case a => walk_at "sz"); (case b => walk_at "sz"))
  | (with_reducible refine Sz.neg (n := ?n) ?a; (case a => walk_at "sz"))
  | (with_reducible refine Sz.abs (n := ?n) ?a; (case a => walk_at "sz"))
  | (with_reducible refine Sz.div (n := ?n) ?a ?b; (case a => walk_at "sz"); (case b => walk_at "pos"))
  | (with_reducible refine Sz.mod (n := ?n) ?a ?b; (case a => walk_at "sz"); (case b => walk_at "pos"))
  | fail "no step")
local macro_rules | `(tactic| walk_at "mulW") => `(tactic| first
  | exact mulR ⟨by decide, by decide⟩
  | exact mulL ⟨by decide, by decide⟩
  | (refine mulX (n := ?n) (m := ?m) ?a ?b ?h; (case a => walk_at "sz"); (case b => walk_at "sz"); (case h => decide))
  | fail "no step")
local macro_rules | `(tactic| walk_at "divW") => `(tactic| (refine divW (n := ?n) ?p ?a ?h; (case p => walk_at "pos"); (case a => walk_at "sz"); (case h => decide)))
/- H a = some _ at the heap at hand -/
local macro_rules | `(tactic| walk_at "at") => `(tactic| first
  | assumption
  | (with_reducible refine Kp.tup (H := ?H) (d := ?d) ?k ?D ?_; (case k => assumption); (case D => assumption); walk_at "at")
  | (with_reducible refine Ex.at (H := ?H) ?k ?_; (case k => assumption); walk_at "at")
  | fail "no step")
local macro_rules | `(tactic| walk_at "sqt") => `(tactic| first
  | assumption
  | exact SqT.of (by walk_at "at")
  | (with_reducible refine sqt_kp (H := ?H) (d := ?d) ?k ?D ?_; (case k => assumption); (case D => assumption); walk_at "sqt")
  | (with_reducible refine sqt_up (H := ?H) ?k ?_; (case k => assumption); walk_at "sqt")
  | fail "no step")
local macro_rules | `(tactic| walk_at "sql") => `(tactic| first
  | assumption
  | exact SqL.of (by walk_at "at")
  | (with_reducible refine sql_up (H := ?H) ?k ?_; (case k => assumption); walk_at "sql")
  | fail "no step")
local macro_rules | `(tactic| walk_at "dec_f") => `(tactic| first
  | with_reducible rfl | with_reducible assumption
  | (with_reducible refine not_f ?_; walk_at "dec_t")
  | (with_reducible refine decide_eq_false ?_; first | with_reducible assumption | omega | (simp only [List.length_cons, List.length_nil]; omega))
  | fail "no step")
local macro_rules | `(tactic| walk_at "dec_t") => `(tactic| first
  | with_reducible rfl | with_reducible assumption
  | (with_reducible refine not_t ?_; walk_at "dec_f")
  | (with_reducible refine decide_eq_true ?_; first | with_reducible assumption | with_reducible rfl | omega | (simp only [List.length_cons, List.length_nil]; omega))
  | fail "no step")
local macro_rules | `(tactic| walk_at "sets") => `(tactic| first
  | with_reducible exact set_z
  | ((with_reducible refine set_s (l' := ?l) ?a); (case a => walk_at "sets"))
  | ((with_reducible refine set_in (e' := ?e) ?a ?b); (case a => walk_at "sets"); (case b => walk_at "sets"))
  | fail "no step")
local macro_rules | `(tactic| walk_at "go1") => `(tactic| first
  | ((with_reducible refine r_nxS (l' := ?l) ?h ?_); (case h => walk_at "sets"))
  | with_reducible refine r_seq ?_
  | with_reducible refine r_asg ?_
  | ((with_reducible refine r_var (v := ?v) ?h ?_); (case h => exact rfl))
  | with_reducible refine r_c ?_
  | with_reducible refine r_nx ?_
  | with_reducible refine r_rt ?_
  | with_reducible refine r_op ?_
  | with_reducible refine r_cons ?_
  | with_reducible refine r_nil ?_
  | with_reducible refine r_cal ?_
  | with_reducible refine r_I0 ?_
  | ((with_reducible refine r_mul ?c ?_); (case c => walk_at "mulW"))
  | ((with_reducible refine r_div ?c ?_); (case c => walk_at "divW"))
  | ((with_reducible refine r_mod ?c ?_); (case c => walk_at "pos"))
  | with_reducible refine r_p6 ?_
  | with_reducible refine r_p18 ?_
  | with_reducible refine r_p29 ?_
  | with_reducible refine r_p30 ?_
  | with_reducible refine r_p60 ?_
  | with_reducible refine r_p15 ?_
  | with_reducible refine r_p24 ?_
  | ((with_reducible refine r_pow ?c ?_); (case c => exact ⟨by decide, by decide, by decide⟩))
  | with_reducible refine r_ifS ?_
  | with_reducible refine r_test ?_
  | with_reducible refine r_tB ?_
  | with_reducible refine r_bl ?_
  | with_reducible refine r_eqI ?_
  | with_reducible refine r_neI ?_
  | with_reducible refine r_not ?_
  | with_reducible refine r_and ?_
  | with_reducible refine r_or ?_
  | with_reducible refine r_notV ?_
  | with_reducible refine r_andV ?_
  | with_reducible refine r_orV ?_
  | with_reducible refine r_blV ?_
  | with_reducible refine r_chain ?_
  | with_reducible refine r_ret ?_
  | with_reducible refine r_retN ?_
  | with_reducible refine r_drop ?_
  | with_reducible refine r_next ?_
  | with_reducible refine r_un ?_
  | with_reducible refine r_U ?_
  | with_reducible refine r_tup ?_
  | with_reducible refine r_lst ?_
  | ((with_reducible refine r_newT ?l ?_); (case l => exact Nat.le_of_ble_eq_true rfl); intro _ _ _ _ _)
  | ((with_reducible refine r_newL ?l ?_); (case l => exact Nat.le_of_ble_eq_true rfl); intro _ _ _ _ _)
  | ((with_reducible refine r_ixT (xs := ?x) (v := ?v) ?h ?a ?_); (case h => walk_at "sqt"); (case a => exact rfl))
  | ((with_reducible refine r_ixL (xs := ?x) (v := ?v) ?h ?a ?_); (case h => walk_at "sql"); (case a => exact rfl))
  | with_reducible refine r_asgG ?_
  | ((with_reducible refine r_gTup (xs := ?x) ?h ?l ?_); (case h => walk_at "sqt"); (case l => exact rfl))
  | with_reducible refine r_gCons ?_
  | with_reducible refine r_gNil ?_
  | with_reducible refine r_gName ?_
  | with_reducible refine r_gSub ?_
  | with_reducible refine r_par ?_
  | with_reducible refine r_parE ?_
  | with_reducible refine r_par3 ?_
  | with_reducible refine r_parE3 ?_
  | ((with_reducible refine r_aug (i := ?i) ?h ?_); (case h => exact rfl))
  | with_reducible refine r_ipI ?_
  | with_reducible refine r_if ?_
  | with_reducible refine r_chain3 ?_
  | ((with_reducible refine r_gLst (xs := ?x) ?h ?l ?_); (case h => walk_at "sql"); (case l => exact rfl))
  | with_reducible refine r_CB ?_
  | with_reducible refine r_isII ?_
  | with_reducible refine r_isIB ?_
  | ((with_reducible refine r_isTT (xs := ?x) ?h ?_); (case h => walk_at "at"))
  | with_reducible refine r_tyS ?_
  | with_reducible refine r_isSS ?_
  | with_reducible refine r_iZip ?_
  | ((with_reducible refine r_isLL (xs := ?x) ?h ?_); (case h => walk_at "at"))
  | ((with_reducible refine r_lenL (ys := ?x) ?h ?_); (case h => walk_at "sql"))
  | ((with_reducible refine r_lenT (ys := ?x) ?h ?_); (case h => walk_at "sqt"))
  | with_reducible refine r_abs ?_
  | with_reducible refine r_max2 ?_
  | with_reducible refine r_min2 ?_
  | with_reducible refine r_intI ?_
  | with_reducible refine r_intB ?_
  | with_reducible refine r_isBB ?_
  | with_reducible refine r_for ?_
  | ((with_reducible refine r_eqT3 (a := ?a) (b := ?b) (c := ?c) (a' := ?a') (b' := ?b') (c' := ?c') ?h ?h' ?_); (case h => walk_at "sqt"); (case h' => walk_at "sqt"))
  | ((with_reducible refine r_neT3 (a := ?a) (b := ?b) (c := ?c) (a' := ?a') (b' := ?b') (c' := ?c') ?h ?h' ?_); (case h => walk_at "sqt"); (case h' => walk_at "sqt"))
  | with_reducible refine r_notB ?_
  | with_reducible refine r_isB ?_
  | with_reducible refine r_bm ?_
  | ((with_reducible refine r_tyL (xs := ?x) ?h ?_); (case h => walk_at "sql"))
  | with_reducible refine r_sl ?_
  | with_reducible refine r_noP ?_
  | with_reducible refine r_part ?_
  | with_reducible refine r_partI ?_
  | ((with_reducible refine r_sl4 (a := ?a) (b := ?b) (c := ?c) (d := ?d) (e := ?e) ?h ?_); (case h => walk_at "sqt"); intro _ _ _ _ _)
  | ((with_reducible refine r_cat13 (x := ?x) (a := ?a) (b := ?b) (c := ?c) ?h ?h2 ?_); (case h => walk_at "sqt"); (case h2 => walk_at "sqt"); intro _ _ _ _ _)
  | ((with_reducible refine r_cat41 (x := ?x) (a := ?a) (b := ?b) (c := ?c) (y := ?y) ?h ?h2 ?_); (case h => walk_at "sqt"); (case h2 => walk_at "sqt"); intro _ _ _ _ _)
  | ((with_reducible refine r_neT4 (a := ?a) (b := ?b) (c := ?c) (d := ?d) (a' := ?a') (b' := ?b') (c' := ?c') (d' := ?d') ?h ?h' ?_); (case h => walk_at "sqt"); (case h' => walk_at "sqt"))
  | ((with_reducible refine r_listL (ys := ?y) ?h ?_); (case h => walk_at "sql"); intro _ _ _ _ _)
  | with_reducible refine r_rev ?_
  | with_reducible refine r_isNnI ?_
  | with_reducible refine r_isNnR ?_
  | with_reducible refine r_isNnN ?_
  | with_reducible refine r_notNnI ?_
  | with_reducible refine r_notNnR ?_
  | with_reducible refine r_notNnN ?_
  | with_reducible refine r_iRng1 ?_
  | with_reducible refine r_iRng2 ?_
  | with_reducible refine r_iList ?_
  | with_reducible refine r_iTup ?_
  | with_reducible refine r_lc ?_
  | ((with_reducible refine r_ItL (xs := ?x) ?h ?_); (case h => walk_at "sql"))
  | ((with_reducible refine r_ItT (xs := ?x) ?h ?_); (case h => walk_at "sqt"))
  | ((with_reducible refine if_T ?h ?_); (case h => walk_at "dec_t"))
  | ((with_reducible refine if_F ?h ?_); (case h => walk_at "dec_f"))
  | fail "no step")
local macro_rules | `(tactic| walk_at "go") => `(tactic| repeat walk_at "go1")
local macro_rules | `(tactic| walk_at "szm") => `(tactic| (refine Sz.mono (n := ?n) ?a ?h; (case a => walk_at "sz"); (case h => decide)))
local macro_rules | `(tactic| walk_at "go1") => `(tactic| first
  | ((with_reducible refine r_isE (b := ?b) ?h ?_); (case h => assumption))
  | ((with_reducible refine r_isEV (S := ?S) ?h ?_); (case h => assumption))
  | with_reducible refine r_iZipH ?_
  | ((with_reducible refine r_zipE (xs := ?x) (ys := ?y) ?h ?h2 ?_); (case h => walk_at "sql"); (case h2 => walk_at "sql"))
  | ((with_reducible refine r_catL (xs := ?x) (ys := ?y) ?h ?h2 ?n ?_); (case h => walk_at "at"); (case h2 => walk_at "at"); (case n => exact Nat.le_of_ble_eq_true rfl); intro _ _ _ _ _)
  | with_reducible refine r_neSS ?_
  | with_reducible refine r_eqSS ?_
  | ((with_reducible refine r_neSD ?h ?_); (case h => decide +kernel))
  | ((with_reducible refine r_eqSD ?h ?_); (case h => decide +kernel))
  | with_reducible refine r_raise ?_
  | with_reducible refine r_try ?_
  | with_reducible refine r_kind ?_
  | with_reducible refine r_calS ?_
  | fail "no step")
def sp_law_draws (K : PySem.W.Frag) : Sp := fun vs H Q _ => ∃ (a : Addr) (ns : List Int) (k : Int), vs = [.ref a, .int k] ∧ SqL K H a (ns.map V.int) ∧ 0 ≤ k ∧ k ≤ 1000 ∧ ∀ d H', H d = none → Ex H H' → Dr H' d → Q (.ref d) H'
theorem use_law_draws {K : PySem.W.Frag} {H : Hp} {Q : VK} {E : XK} {a : Addr} {ns : List Int} {k : Int} (h : SqL K H a (ns.map V.int)) (h0 : 0 ≤ k) (h1 : k ≤ 1000) (q : ∀ d H', H d = none → Ex H H' → Dr H' d → Q (.ref d) H') : sp_law_draws K [.ref a, .int k] H Q E := ⟨a, ns, k, rfl, h, h0, h1, q⟩
abbrev s_law_draws : Stmt := topS 31
abbrev nm_law_draws : List Str := ["script", "k", "cell"]
theorem sc_law_draws : FnScope nm_law_draws ["script", "k"] (defScope s_law_draws) := ⟨rfl, rfl, rfl, by decide +kernel, rfl, by decide +kernel, by decide +kernel⟩
theorem st_law_draws {v0 v1 : V} : start nm_law_draws [v0, v1] = [some v0, some v1, none] := rfl
section
variable {P : Program} {w : World} {K : PySem.W.Frag} {mg : Str → Option Value} {base : Heap} {c : Cl}
theorem ok_law_draws (D : DefAt K mg "_law_draws" s_law_draws ["script", "k"]) (B_len : mg "len" = none) (B_int : mg "int" = none) : Has P w K mg base CX0 2 "_law_draws" ["script", "k"] (sp_law_draws K) := by
  refine D.ok sc_law_draws (by rintro _ _ _ _ ⟨_, _, _, rfl, _⟩; rfl) (fun f cdv A outer s H vs Q E hr h => ?_)
  obtain ⟨a, ns, k, rfl, hS, h0, h1, q⟩ := h
  have zk : Sz 200 k := Sz.small (by omega)
  refine ⟨_, (pss_cons (ps_set (i := 2) sc_law_draws.nd rfl (Or.inl rfl) (pe_op op_mulX pe_int (pv 1)))
      (pcut (ps_if (pt_cmpR op_lt (pv 1) (pe_callB cl_len (by rfl) B_len (by decide +kernel) (pa_cons (pv 0) pa_nil)) (nomark _)) (pss_one (ps_set (i := 2) sc_law_draws.nd rfl (Or.inl rfl) (pe_op op_mod (pe_ix ix_list (pv 0) (pv 1) (fun _ _ => rfl)) (pe_op op_mulX (pe_op op_pow pe_int pe_int) (pe_op op_pow pe_int pe_int))))) (pss_one (ps_if (pt_cmpR op_gt (pe_callB cl_len (by rfl) B_len (by decide +kernel) (pa_cons (pv 0) pa_nil)) pe_int (nomark _)) (pss_one (ps_set (i := 2) sc_law_draws.nd rfl (Or.inl rfl) (pe_op op_add (pe_op op_mod (pe_ix ix_list (pv 0) (pe_op op_mod (pv 1) (pe_callB cl_len (by rfl) B_len (by decide +kernel) (pa_cons (pv 0) pa_nil))) (fun _ _ => rfl)) (pe_op op_pow pe_int pe_int)) (pe_op op_mulX pe_int (pv 1))))) pss_nil)))
      (pss_one (ps_ret (pe_lst (pa_cons (pe_op op_mulX (pv 2) (pe_callTy cl_int1 (by rfl) B_int (by decide +kernel) (pa_cons (pe_cmpR op_ge (pv 2) (pe_op op_pow pe_int pe_int) (nomark _)) pa_nil))) (pa_cons (pe_op op_add pe_int (pe_op op_mod (pe_op op_add (pe_op op_mulX (pv 2) pe_int) (pe_op op_mulX pe_int (pe_op op_add (pv 1) pe_int))) pe_int)) pa_nil))))))), ?_⟩
  rw [st_law_draws]
  try dsimp only [Cx.nox, Cx.wish, Cx.blk, cx_K, cxH_K]
  walk_at "go"
  refine r_cut (fun σ H' => H' = H ∧ ∃ c : Int, σ = [some (.ref a), some (.int k), some (.int c)] ∧ Sz 500 c) ?_ ?_
  · walk_at "go"
    refine if_2 (fun hx => ?_) (fun hx => ?_)
    · have hx := of_decide_eq_true hx
      rw [List.length_map] at hx
      obtain ⟨z, hz, _⟩ := at_ints h0 hx
      walk_at "go"
      refine r_ixL hS hz ?_
      walk_at "go"
      exact ⟨rfl, _, rfl, by walk_at "szm"⟩
    · have hx := of_decide_eq_false hx
      rw [List.length_map] at hx
      walk_at "go"
      refine if_2 (fun hy => ?_) (fun hy => ?_)
      · have hy := of_decide_eq_true hy
        obtain ⟨z, hz, _⟩ := at_ints (ns := ns) (i := k % ((ns.map V.int).length : Nat)) (Int.emod_nonneg _ (by omega)) (by
          have := Int.emod_lt_of_pos k hy
          rw [List.length_map] at this ⊢
          exact this)
        walk_at "go"
        refine r_ixL hS hz ?_
        walk_at "go"
        refine ⟨rfl, _, rfl, (Sz.small ?_).mono (by decide)⟩
        omega
      · walk_at "go"
        refine ⟨rfl, _, rfl, (Sz.small ?_).mono (by decide)⟩
        omega
  rintro σ H' ⟨rfl, c, rfl, zc⟩
  walk_at "go"
  rename_i d H1 nd e1 hd
  exact q _ _ nd e1 ⟨_, _, hd, by omega, by omega⟩

end
/-- a digit below n is drawn -/
def sp_law_draw (_ : PySem.W.Frag) : Sp := fun vs H Q _ => ∃ (d : Addr) (n : Int), vs = [.ref d, .int n] ∧ Dr H d ∧ 0 < n ∧ Sz 4000 n ∧ ∀ v H', 0 ≤ v → v < n → Kp d H H' → Dr H' d → Q (.int v) H'
theorem use_law_draw {K : PySem.W.Frag} {H : Hp} {Q : VK} {E : XK} {d : Addr} {n : Int} (D : Dr H d) (p : 0 < n) (z : Sz 4000 n) (k : ∀ v H', 0 ≤ v → v < n → Kp d H H' → Dr H' d → Q (.int v) H') : sp_law_draw K [.ref d, .int n] H Q E := ⟨d, n, rfl, D, p, z, k⟩
abbrev s_law_draw : Stmt := topS 32
abbrev nm_law_draw : List Str := ["draws", "many", "found"]
theorem sc_law_draw : FnScope nm_law_draw ["draws", "many"] (defScope s_law_draw) := ⟨rfl, rfl, rfl, by decide +kernel, rfl, by decide +kernel, by decide +kernel⟩
theorem st_law_draw {v0 v1 : V} : start nm_law_draw [v0, v1] = [some v0, some v1, none] := rfl
section
variable {P : Program} {w : World} {K : PySem.W.Frag} {mg : Str → Option Value} {base : Heap} {c : Cl}
theorem ok_law_draw (D : DefAt K mg "_law_draw" s_law_draw ["draws", "many"]) : Has P w K mg base CX0 2 "_law_draw" ["draws", "many"] (sp_law_draw K) := by
  refine D.ok sc_law_draw (by rintro _ _ _ _ ⟨_, _, rfl, _⟩; rfl) (fun f cdv A outer s H vs Q E hr h => ?_)
  obtain ⟨d, n, rfl, ⟨x, y, hd, y0, y1⟩, hn, zn, k⟩ := h
  have zy : Sz 200 y := by
    show y.natAbs < 2 ^ 200
    omega
  refine ⟨_, (pss_cons (ps_if (pt_cmpR op_gt (pe_ix ix_list (pv 0) pe_int (fun _ _ => rfl)) pe_int (nomark _)) (pss_cons (ps_set (i := 2) sc_law_draw.nd rfl (Or.inl rfl) (pe_op op_mod (pe_ix ix_list (pv 0) pe_int (fun _ _ => rfl)) (pv 1)))
        (pss_cons (ps_asg (pe_op op_fdivW (pe_ix ix_list (pv 0) pe_int (fun _ _ => rfl)) (pv 1)) (pg_sub (pv 0) pe_int set_list))
        (pss_one (ps_ret (pv 2))))) pss_nil)
      (pss_cons (ps_asg (pe_op op_mod (pe_op op_mulX (pe_ix ix_list (pv 0) pe_int (fun _ _ => rfl)) pe_int) pe_int) (pg_sub (pv 0) pe_int set_list))
      (pss_one (ps_ret (pe_op op_mod (pe_op op_fdivW (pe_op op_mod (pe_op op_mulX (pe_ix ix_list (pv 0) pe_int (fun _ _ => rfl)) (pe_op op_add (pe_op op_fdivW (pe_ix ix_list (pv 0) pe_int (fun _ _ => rfl)) pe_int) pe_int)) pe_int) pe_int) (pv 1)))))), ?_⟩
  rw [st_law_draw]
  try dsimp only [Cx.nox, Cx.wish, Cx.blk, cx_K, cxH_K]
  walk_at "go"
  refine if_2 (fun hx => ?_) (fun hx => ?_)
  · walk_at "go"
    refine r_setL (k0 := 0) hd (by rfl) ?_
    walk_at "go"
    exact k _ _ (Int.emod_nonneg _ (by omega)) (Int.emod_lt_of_pos _ hn) Kp.upd ⟨_, _, upd_same, y0, y1⟩
  · walk_at "go"
    refine r_setL (k0 := 1) hd (by rfl) ?_
    have hd2 : (upd H d (.lst [.int x, .int (y * 69621 % 2147483647)])) d = some (.lst [.int x, .int (y * 69621 % 2147483647)]) := upd_same
    walk_at "go"
    exact k _ _ (Int.emod_nonneg _ (by omega)) (Int.emod_lt_of_pos _ hn) Kp.upd ⟨_, _, upd_same, Int.emod_nonneg _ (by decide), Int.emod_lt_of_pos _ (by decide)⟩

end
def sp_need_coins (_ : PySem.W.Frag) : Sp := fun vs H Q _ => ∃ (x y : Int), vs = [.int x, .int y] ∧ 0 < x ∧ 0 < y ∧ Q .non H
theorem use_need_coins {K : PySem.W.Frag} {H : Hp} {Q : VK} {E : XK} {x y : Int} (hx : 0 < x) (hy : 0 < y) (q : Q .non H) : sp_need_coins K [.int x, .int y] H Q E := ⟨x, y, rfl, hx, hy, q⟩
abbrev s_need_coins : Stmt := topS 23
abbrev nm_need_coins : List Str := ["p", "q"]
theorem sc_need_coins : FnScope nm_need_coins ["p", "q"] (defScope s_need_coins) := ⟨rfl, rfl, rfl, by decide +kernel, rfl, by decide +kernel, by decide +kernel⟩
theorem st_need_coins {v0 v1 : V} : start nm_need_coins [v0, v1] = [some v0, some v1] := rfl
section
variable {P : Program} {w : World} {K : PySem.W.Frag} {mg : Str → Option Value} {base : Heap} {c : Cl}
theorem ok_need_coins (D : DefAt K mg "need_coins" s_need_coins ["p", "q"]) : Has P w K mg base CX0 2 "need_coins" ["p", "q"] (sp_need_coins K) := by
  refine D.ok sc_need_coins (by rintro _ _ _ _ ⟨_, _, rfl, _⟩; rfl) (fun f cdv A outer s H vs Q E hr h => ?_)
  obtain ⟨x, y, rfl, hx, hy, q⟩ := h
  refine ⟨_, (pss_one (ps_if (PW.pt (pw_or (pt_cmpR op_lt (pv 0) pe_int (nomark _)) (pw_or1 (pt_cmpR op_lt (pv 1) pe_int (nomark _))))) (pss_one ps_never) pss_nil)), ?_⟩
  rw [st_need_coins]
  try dsimp only [Cx.nox, Cx.wish, Cx.blk, cx_K, cxH_K]
  walk_at "go"
  exact q

end
/-! whole parts -/
theorem div_split (a b k : Int) {m : Int} (hm : 0 < m) : (a * k + b) / m = a / m * k + b / m + (a % m * k + b % m) / m := by
  have ea := Int.emod_add_mul_ediv a m
  have eb := Int.emod_add_mul_ediv b m
  have e : a * k + b = (a % m * k + b % m) + m * (a / m * k + b / m) := by
    have h1 : a * k = a % m * k + m * (a / m) * k := by
      rw [← Int.add_mul, ea]
    rw [h1, Int.mul_add, Int.mul_assoc]
    omega
  rw [e, Int.add_mul_ediv_left _ _ (by omega : m ≠ 0)]
  omega
theorem mod_split (a b k : Int) {m : Int} : (a * k + b) % m = (a % m * k + b % m) % m := by
  have ea := Int.emod_add_mul_ediv a m
  have eb := Int.emod_add_mul_ediv b m
  have e : a * k + b = (a % m * k + b % m) + m * (a / m * k + b / m) := by
    have h1 : a * k = a % m * k + m * (a / m) * k := by
      rw [← Int.add_mul, ea]
    rw [h1, Int.mul_add, Int.mul_assoc]
    omega
  rw [e, Int.add_mul_emod_self_left]

--@ needs Div
/-! sums, whole parts of many fractions -/
def sm (f : Nat → Int) : Nat → Int
  | 0 => 0
  | n + 1 => sm f n + f n
theorem sm_congr {f g : Nat → Int} : ∀ {n : Nat}, (∀ i, i < n → f i = g i) → sm f n = sm g n
  | 0, _ => rfl
  | n + 1, h => by
    show sm f n + f n = sm g n + g n
    rw [sm_congr (fun i hi => h i (by omega)), h n (by omega)]
theorem sm_add {f : Nat → Int} (n : Nat) : ∀ k : Nat, sm f (n + k) = sm f n + sm (fun i => f (n + i)) k
  | 0 => by
    show sm f n = sm f n + 0
    omega
  | k + 1 => by
    show sm f (n + k) + f (n + k) = sm f n + (sm (fun i => f (n + i)) k + f (n + k))
    rw [sm_add n k]
    omega
theorem sm_plus {f g : Nat → Int} : ∀ n : Nat, sm (fun i => f i + g i) n = sm f n + sm g n
  | 0 => rfl
  | n + 1 => by
    show sm (fun i => f i + g i) n + (f n + g n) = sm f n + f n + (sm g n + g n)
    rw [sm_plus n]
    omega
theorem sm_mul {f : Nat → Int} (c : Int) : ∀ n : Nat, sm (fun i => c * f i) n = c * sm f n
  | 0 => by show (0 : Int) = c * 0; rw [Int.mul_zero]
  | n + 1 => by
    show sm (fun i => c * f i) n + c * f n = c * (sm f n + f n)
    rw [sm_mul c n, Int.mul_add]
theorem sm_const (c : Int) : ∀ n : Nat, sm (fun _ => c) n = c * n
  | 0 => by show (0 : Int) = c * 0; rw [Int.mul_zero]
  | n + 1 => by
    show sm (fun _ => c) n + c = c * ((n : Int) + 1)
    rw [sm_const c n, Int.mul_add, Int.mul_one]
theorem sm_first {f : Nat → Int} : ∀ n : Nat, sm f (n + 1) = f 0 + sm (fun i => f (i + 1)) n
  | 0 => by
    show 0 + f 0 = f 0 + 0
    omega
  | n + 1 => by
    show sm f (n + 1) + f (n + 1) = f 0 + (sm (fun i => f (i + 1)) n + f (n + 1))
    rw [sm_first n]
    omega
theorem sm_rev {f : Nat → Int} : ∀ n : Nat, sm f n = sm (fun i => f (n - 1 - i)) n
  | 0 => rfl
  | n + 1 => by
    rw [sm_first (f := fun i => f (n + 1 - 1 - i))]
    show sm f n + f n = f (n + 1 - 1 - 0) + sm (fun i => f (n + 1 - 1 - (i + 1))) n
    rw [sm_rev n, sm_congr (g := fun i => f (n + 1 - 1 - (i + 1))) (fun i hi => by
      show f (n - 1 - i) = f (n + 1 - 1 - (i + 1))
      congr 1
      omega)]
    show _ + f n = f n + _
    omega
theorem sm_tri : ∀ n : Nat, 2 * sm (fun i => (i : Int)) n = (n : Int) * (n - 1)
  | 0 => rfl
  | n + 1 => by
    show 2 * (sm (fun i => (i : Int)) n + n) = ((n : Int) + 1) * ((n : Int) + 1 - 1)
    rw [Int.mul_add, sm_tri n, show (n : Int) + 1 - 1 = n by omega, Int.add_mul, Int.mul_sub]
    omega
theorem sm_tri2 (n : Nat) : (n : Int) * (n - 1) / 2 = sm (fun i => (i : Int)) n := by
  rw [← sm_tri n]
  omega
/-- the sum of the whole parts of (a k + b) / m over the first n places -/
@[irreducible] def fs (n : Nat) (a b m : Int) : Int := sm (fun k => (a * k + b) / m) n
theorem fs_zero (a b m : Int) : fs 0 a b m = 0 := by unfold fs; rfl
theorem fs_succ (n : Nat) (a b m : Int) : fs (n + 1) a b m = fs n a b m + (a * n + b) / m := by unfold fs; rfl
theorem fs_split (n : Nat) (a b : Int) {m : Int} (hm : 0 < m) : fs n a b m = a / m * ((n : Int) * (n - 1) / 2) + b / m * n + fs n (a % m) (b % m) m := by
  rw [sm_tri2]
  unfold fs
  rw [sm_congr (g := fun k : Nat => (a / m * (k : Int) + b / m) + (a % m * k + b % m) / m) (fun i _ => div_split a b i hm)]
  rw [sm_plus, sm_plus, sm_mul, sm_const]
theorem ediv_is {x m q : Int} (hm : 0 < m) (h0 : q * m ≤ x) (h1 : x < (q + 1) * m) : x / m = q := by
  have e1 : q ≤ x / m := (Int.le_ediv_iff_mul_le hm).mpr h0
  have e2 : x / m < q + 1 := (Int.ediv_lt_iff_lt_mul hm).mpr h1
  omega
/-- the places below a height -/
@[irreducible] def fsH (n : Int) (s m r : Int) (c : Nat) : Int := sm (fun i => n + (s - m * ((i : Int) + 1)) / r) c
theorem fsH_step (n s m r : Int) (c : Nat) : fsH (n + 1) s m r c = fsH n s m r c + c := by
  unfold fsH
  rw [sm_congr (g := fun i : Nat => (n + (s - m * ((i : Int) + 1)) / r) + 1) (fun i _ => by omega), sm_plus, sm_const]
  omega
/-- the turn: (r k + s) / m over n places, by m and r exchanged -/
theorem fs_turnH (s : Int) {m r : Int} (hr : 0 < r) (s0 : 0 ≤ s) (s1 : s < m) : ∀ n : Nat, fs n r s m = fsH n s m r ((r * n + s) / m).toNat := by
  have hm : 0 < m := by omega
  intro n
  induction n with
  | zero =>
    rw [show r * ((0 : Nat) : Int) + s = s by rw [show ((0 : Nat) : Int) = 0 from rfl, Int.mul_zero]; omega, Int.ediv_eq_zero_of_lt s0 s1]
    unfold fs fsH
    rfl
  | succ n ih =>
    rw [fs_succ, ih]
    generalize hy : (r * (n : Int) + s) / m = y
    generalize hz : (r * ((n + 1 : Nat) : Int) + s) / m = z
    have hn1 : r * ((n + 1 : Nat) : Int) + s = r * n + s + r := by
      rw [show ((n + 1 : Nat) : Int) = (n : Int) + 1 from rfl, Int.mul_add, Int.mul_one]
      omega
    have rn : 0 ≤ r * (n : Int) := Int.mul_nonneg (by omega) (by omega)
    have y0 : 0 ≤ y := by
      rw [← hy]
      exact Int.ediv_nonneg (by omega) (by omega)
    have yz : y ≤ z := by
      rw [← hy, ← hz, hn1]
      exact Int.ediv_le_ediv hm (by omega)
    obtain ⟨Y, hY⟩ : ∃ Y : Nat, y = Y := ⟨y.toNat, by omega⟩
    obtain ⟨D, hD⟩ : ∃ D : Nat, z = Y + D := ⟨(z - y).toNat, by omega⟩
    have eY : y.toNat = Y := by omega
    have eZ : z.toNat = Y + D := by omega
    rw [eY, eZ]
    show fsH n s m r Y + y = fsH (((n : Nat) : Int) + 1) s m r (Y + D)
    have e3 : fsH (((n : Nat) : Int) + 1) s m r (Y + D) = fsH (((n : Nat) : Int) + 1) s m r Y + sm (fun i => ((n : Nat) : Int) + 1 + (s - m * (((Y + i : Nat) : Int) + 1)) / r) D := by
      unfold fsH
      exact sm_add Y D
    rw [e3, fsH_step, sm_congr (g := fun _ => 0) (fun i hi => ?_), sm_const]
    · omega
    · have b1 : m * (((Y + i : Nat) : Int) + 1) ≤ r * n + s + r := by
        have h1 : z * m ≤ r * n + s + r := by
          rw [← hz, hn1]
          exact Int.ediv_mul_le _ (by omega)
        have h2 : (((Y + i : Nat) : Int) + 1) * m ≤ z * m := Int.mul_le_mul_of_nonneg_right (by omega) (by omega)
        rw [Int.mul_comm]
        omega
      have b2 : r * n + s < m * (((Y + i : Nat) : Int) + 1) := by
        have h1 : r * n + s < (y + 1) * m := by
          rw [← hy]
          exact Int.lt_ediv_add_one_mul_self _ hm
        have h2 : (y + 1) * m ≤ (((Y + i : Nat) : Int) + 1) * m := Int.mul_le_mul_of_nonneg_right (by omega) (by omega)
        rw [Int.mul_comm m]
        omega
      have q : (s - m * (((Y + i : Nat) : Int) + 1)) / r = -((n : Int) + 1) := by
        refine ediv_is hr ?_ ?_
        · rw [Int.neg_mul, Int.add_mul, Int.one_mul, Int.mul_comm (n : Int) r]
          omega
        · rw [show -((n : Int) + 1) + 1 = -(n : Int) by omega, Int.neg_mul, Int.mul_comm (n : Int) r]
          omega
      show ((n : Nat) : Int) + 1 + (s - m * (((Y + i : Nat) : Int) + 1)) / r = 0
      rw [q]
      omega
theorem fs_turn (n : Nat) (s : Int) {m r : Int} (hr : 0 ≤ r) (s0 : 0 ≤ s) (s1 : s < m) : fs n r s m = fs ((r * n + s) / m).toNat m ((r * n + s) % m) r := by
  have hm : 0 < m := by omega
  by_cases h : r = 0
  · subst h
    rw [Int.zero_mul, Int.zero_add, Int.ediv_eq_zero_of_lt s0 s1]
    rw [show Int.toNat 0 = 0 from rfl, fs_zero]
    unfold fs
    rw [sm_congr (g := fun _ => 0) (fun i _ => by rw [Int.zero_mul, Int.zero_add, Int.ediv_eq_zero_of_lt s0 s1]), sm_const]
    omega
  · rw [fs_turnH s (by omega) s0 s1 n]
    generalize hy : (r * (n : Int) + s) / m = y
    have rn : 0 ≤ r * (n : Int) := Int.mul_nonneg hr (by omega)
    have y0 : 0 ≤ y := by
      rw [← hy]
      exact Int.ediv_nonneg (by omega) (by omega)
    unfold fsH fs
    rw [sm_rev]
    refine sm_congr fun i hi => ?_
    have e := Int.emod_add_mul_ediv (r * n + s) m
    rw [hy] at e
    have c : (((y.toNat - 1 - i : Nat) : Int) + 1) = y - i := by omega
    show (n : Int) + (s - m * (((y.toNat - 1 - i : Nat) : Int) + 1)) / r = (m * (i : Int) + (r * n + s) % m) / r
    rw [c, show m * (i : Int) + (r * n + s) % m = (s - m * (y - i)) + r * n by rw [Int.mul_sub]; omega, Int.add_mul_ediv_left _ _ h]
    omega
theorem fs_loop (n : Nat) (a b : Int) {m : Int} (hm : 0 < m) :
    fs n a b m = a / m * ((n : Int) * (n - 1) / 2) + b / m * n + fs ((a % m * n + b % m) / m).toNat m ((a % m * n + b % m) % m) (a % m) := by
  rw [fs_split n a b hm, fs_turn n (b % m) (Int.emod_nonneg _ (by omega)) (Int.emod_nonneg _ (by omega)) (Int.emod_lt_of_pos _ hm)]
/-- the law's own turn, from the last place -/
theorem fs_quick (b : Int) {m a : Int} (a0 : 0 ≤ a) (b0 : 0 ≤ b) (b1 : b < m) : ∀ L : Nat, fs (L + 1) a b m = (L : Int) * ((a * L + b) / m) - fs ((a * L + b) / m).toNat m (m - b - 1) a := by
  have hm : 0 < m := by omega
  intro L
  induction L with
  | zero =>
    rw [show a * ((0 : Nat) : Int) + b = b by rw [show ((0 : Nat) : Int) = 0 from rfl, Int.mul_zero]; omega, Int.ediv_eq_zero_of_lt b0 b1, fs_succ]
    rw [show a * ((0 : Nat) : Int) + b = b by rw [show ((0 : Nat) : Int) = 0 from rfl, Int.mul_zero]; omega, Int.ediv_eq_zero_of_lt b0 b1, fs_zero, show Int.toNat 0 = 0 from rfl, fs_zero]
    rfl
  | succ n ih =>
    rw [fs_succ, ih]
    generalize hy : (a * (n : Int) + b) / m = y
    generalize hz : (a * ((n + 1 : Nat) : Int) + b) / m = z
    have hn1 : a * ((n + 1 : Nat) : Int) + b = a * n + b + a := by
      rw [show ((n + 1 : Nat) : Int) = (n : Int) + 1 from rfl, Int.mul_add, Int.mul_one]
      omega
    have rn : 0 ≤ a * (n : Int) := Int.mul_nonneg a0 (by omega)
    have y0 : 0 ≤ y := by
      rw [← hy]
      exact Int.ediv_nonneg (by omega) (by omega)
    have yz : y ≤ z := by
      rw [← hy, ← hz, hn1]
      exact Int.ediv_le_ediv hm (by omega)
    obtain ⟨Y, hY⟩ : ∃ Y : Nat, y = Y := ⟨y.toNat, by omega⟩
    obtain ⟨D, hD⟩ : ∃ D : Nat, z = Y + D := ⟨(z - y).toNat, by omega⟩
    have eY : y.toNat = Y := by omega
    have eZ : z.toNat = Y + D := by omega
    rw [eY, eZ]
    have e3 : fs (Y + D) m (m - b - 1) a = fs Y m (m - b - 1) a + sm (fun i => (m * ((Y + i : Nat) : Int) + (m - b - 1)) / a) D := by
      unfold fs
      exact sm_add Y D
    rw [e3, sm_congr (g := fun _ => (n : Int)) (fun i hi => ?_), sm_const, hD, hY]
    · rw [show ((n + 1 : Nat) : Int) = (n : Int) + 1 from rfl, Int.add_mul, Int.one_mul, Int.mul_add]
      omega
    · have b1' : (((Y + i : Nat) : Int) + 1) * m ≤ a * n + b + a := by
        have h1 : z * m ≤ a * n + b + a := by
          rw [← hz, hn1]
          exact Int.ediv_mul_le _ (by omega)
        have h2 : (((Y + i : Nat) : Int) + 1) * m ≤ z * m := Int.mul_le_mul_of_nonneg_right (by omega) (by omega)
        omega
      have b2 : a * n + b < (((Y + i : Nat) : Int) + 1) * m := by
        have h1 : a * n + b < (y + 1) * m := by
          rw [← hy]
          exact Int.lt_ediv_add_one_mul_self _ hm
        have h2 : (y + 1) * m ≤ (((Y + i : Nat) : Int) + 1) * m := Int.mul_le_mul_of_nonneg_right (by omega) (by omega)
        omega
      have ap : 0 < a := by omega
      show (m * ((Y + i : Nat) : Int) + (m - b - 1)) / a = (n : Int)
      have h3 : (((Y + i : Nat) : Int) + 1) * m = m * ((Y + i : Nat) : Int) + m := by rw [Int.add_mul, Int.one_mul, Int.mul_comm m]
      rw [h3] at b1' b2
      refine ediv_is ap ?_ ?_
      · rw [Int.mul_comm (n : Int) a]
        omega
      · rw [Int.add_mul, Int.one_mul, Int.mul_comm (n : Int) a]
        omega
theorem fs_add (n k : Nat) (a b m : Int) : fs (n + k) a b m = fs n a b m + fs k a (a * n + b) m := by
  unfold fs
  rw [sm_add]
  congr 1
  refine sm_congr fun i _ => ?_
  show (a * ((n + i : Nat) : Int) + b) / m = (a * (i : Int) + (a * (n : Int) + b)) / m
  rw [show ((n + i : Nat) : Int) = (n : Int) + i from rfl, Int.mul_add]
  congr 1
  omega
theorem fs_a (n : Nat) (a b y : Int) {m : Int} (hm : 0 < m) : fs n (a + y * m) b m = fs n a b m + y * ((n : Int) * (n - 1) / 2) := by
  rw [sm_tri2, ← sm_mul]
  unfold fs
  rw [← sm_plus]
  refine sm_congr fun i _ => ?_
  show ((a + y * m) * (i : Int) + b) / m = (a * (i : Int) + b) / m + y * (i : Int)
  rw [show (a + y * m) * (i : Int) + b = (a * i + b) + m * (y * i) by
    rw [Int.add_mul, Int.mul_comm y m, Int.mul_assoc]
    omega, Int.add_mul_ediv_left _ _ (by omega : m ≠ 0)]
theorem fs_b (n : Nat) (a b y : Int) {m : Int} (hm : 0 < m) : fs n a (b + y * m) m = fs n a b m + y * n := by
  rw [← sm_const]
  unfold fs
  rw [← sm_plus]
  refine sm_congr fun i _ => ?_
  show (a * (i : Int) + (b + y * m)) / m = (a * (i : Int) + b) / m + y
  rw [show a * (i : Int) + (b + y * m) = (a * i + b) + m * y by
    rw [Int.mul_comm y m]
    omega, Int.add_mul_ediv_left _ _ (by omega : m ≠ 0)]
theorem fs_rev (n : Nat) (a b m : Int) : fs n (0 - a) (a * (n - 1) + b) m = fs n a b m := by
  unfold fs
  rw [sm_rev]
  refine sm_congr fun i hi => ?_
  show ((0 - a) * ((n - 1 - i : Nat) : Int) + (a * ((n : Int) - 1) + b)) / m = (a * (i : Int) + b) / m
  rw [show ((n - 1 - i : Nat) : Int) = (n : Int) - 1 - i by omega, Int.sub_mul, Int.zero_mul, Int.mul_sub a _ (i : Int)]
  congr 1
  omega

def sp_summed (_ : PySem.W.Frag) : Sp := fun vs H Q _ => ∃ (n a b m : Int), vs = [.int n, .int a, .int b, .int m] ∧ 0 < m ∧ Sz 4000 n ∧ Sz 4000 a ∧ Sz 4000 b ∧ Sz 4000 m ∧ Q (.int (fs n.toNat a b m)) H
theorem use_summed {K : PySem.W.Frag} {H : Hp} {Q : VK} {E : XK} {n a b m : Int} (hm : 0 < m) (zn : Sz 4000 n) (za : Sz 4000 a) (zb : Sz 4000 b) (zm : Sz 4000 m) (q : Q (.int (fs n.toNat a b m)) H) : sp_summed K [.int n, .int a, .int b, .int m] H Q E := ⟨n, a, b, m, rfl, hm, zn, za, zb, zm, q⟩
theorem summed_n {n r s m : Int} (hn : 0 ≤ n) (r0 : 0 ≤ r) (r1 : r < m) (s1 : s < m) : (r * n + s) / m ≤ n := by
  have h : (r * n + s) / m < n + 1 := by
    refine (Int.ediv_lt_iff_lt_mul (by omega)).mpr ?_
    have h1 : r * n ≤ (m - 1) * n := Int.mul_le_mul_of_nonneg_right (by omega) hn
    rw [Int.sub_mul, Int.one_mul] at h1
    rw [Int.add_mul, Int.one_mul, Int.mul_comm n m]
    omega
  omega
abbrev s_summed : Stmt := topS 21
abbrev nm_summed : List Str := ["n", "a", "b", "m", "total", "top"]
theorem sc_summed : FnScope nm_summed ["n", "a", "b", "m"] (defScope s_summed) := ⟨rfl, rfl, rfl, by decide +kernel, rfl, by decide +kernel, by decide +kernel⟩
theorem st_summed {v0 v1 v2 v3 : V} : start nm_summed [v0, v1, v2, v3] = [some v0, some v1, some v2, some v3, none, none] := rfl
section
variable {P : Program} {w : World} {K : PySem.W.Frag} {mg : Str → Option Value} {base : Heap} {c : Cl}
theorem ok_summed (D : DefAt K mg "summed" s_summed ["n", "a", "b", "m"]) : Has P w K mg base CX0 2 "summed" ["n", "a", "b", "m"] (sp_summed K) := by
  refine D.ok sc_summed (by rintro _ _ _ _ ⟨_, _, _, _, rfl, _⟩; rfl) (fun f cdv A outer s H vs Q E hr h => ?_)
  obtain ⟨n, a, b, m, rfl, hm, zn, za, zb, zm, q⟩ := h
  refine ⟨_, (pss_cons (ps_set (i := 4) sc_summed.nd rfl (Or.inl rfl) pe_int)
      (pss_cons (ps_while PassesOwn.never (pt_cmpR op_gt (pv 0) pe_int (nomark _)) (pss_cons (ps_aug (i := 4) sc_summed.nd rfl (Or.inl rfl) (pe_op op_add (pe_op op_mulX (pe_op op_fdivW (pv 1) (pv 3)) (pe_op op_fdivW (pe_op op_mulX (pv 0) (pe_op op_sub (pv 0) pe_int)) pe_int)) (pe_op op_mulX (pe_op op_fdivW (pv 2) (pv 3)) (pv 0))) ip_add)
        (pss_cons (ps_set (i := 1) sc_summed.nd rfl (Or.inl rfl) (pe_op op_mod (pv 1) (pv 3)))
        (pss_cons (ps_set (i := 5) sc_summed.nd rfl (Or.inl rfl) (pe_op op_add (pe_op op_mulX (pv 1) (pv 0)) (pe_op op_mod (pv 2) (pv 3))))
        (pss_cons (ps_par (i := 0) (j := 2) (by rfl) sc_summed.nd rfl rfl (by decide) rfl rfl (pa_cons (pe_op op_fdivW (pv 5) (pv 3)) (pa_cons (pe_op op_mod (pv 5) (pv 3)) pa_nil)) (by rfl))
        (pss_one (ps_par (i := 1) (j := 3) (by rfl) sc_summed.nd rfl rfl (by decide) rfl rfl (pa_cons (pv 3) (pa_cons (pv 1) pa_nil)) (by rfl))))))))
      (pss_one (ps_ret (pv 4))))), ?_⟩
  rw [st_summed]
  try dsimp only [Cx.nox, Cx.wish, Cx.blk, cx_K, cxH_K]
  walk_at "go"
  refine while_m (fun μ σ H' => H' = H ∧ ∃ (n' a' b' m' t : Int) (o : Option V), σ = [some (.int n'), some (.int a'), some (.int b'), some (.int m'), some (.int t), o] ∧ μ = m'.toNat ∧ 0 ≤ m' ∧ (0 < n' → 0 < m') ∧ Sz 4000 n' ∧ Sz 4000 a' ∧ Sz 4000 b' ∧ Sz 4000 m' ∧ t + fs n'.toNat a' b' m' = fs n.toNat a b m)
    m.toNat ⟨rfl, n, a, b, m, 0, none, rfl, rfl, by omega, fun _ => hm, zn, za, zb, zm, by omega⟩ ?_
  rintro μ σ H1 ⟨eH, n', a', b', m', t, o, rfl, rfl, m0, hnm, zn', za', zb', zm', e⟩
  walk_at "go"
  refine if_2 (fun hx => ?_) (fun hx => ?_)
  · have hx := of_decide_eq_true hx
    have mp := hnm hx
    refine r_body (fun σ H' => ∃ (n1 a1 b1 m1 t1 : Int) (o : Option V), σ = [some (.int n1), some (.int a1), some (.int b1), some (.int m1), some (.int t1), o] ∧ H' = H ∧ m1.toNat < m'.toNat ∧ 0 ≤ m1 ∧ (0 < n1 → 0 < m1) ∧ Sz 4000 n1 ∧ Sz 4000 a1 ∧ Sz 4000 b1 ∧ Sz 4000 m1 ∧ t1 + fs n1.toNat a1 b1 m1 = fs n.toNat a b m) ?_ ?_
    · rintro σ H2 ⟨n1, a1, b1, m1, t1, o, rfl, e2, lt, r⟩
      exact ⟨_, lt, e2, n1, a1, b1, m1, t1, o, rfl, rfl, r⟩
    walk_at "go"
    have r0 := Int.emod_nonneg a' (show m' ≠ 0 by omega)
    have r1 := Int.emod_lt_of_pos a' mp
    have s0 := Int.emod_nonneg b' (show m' ≠ 0 by omega)
    have s1 := Int.emod_lt_of_pos b' mp
    have hN : ((n'.toNat : Nat) : Int) = n' := by omega
    have rn : 0 ≤ a' % m' * n' := Int.mul_nonneg r0 (by omega)
    have y0 : 0 ≤ (a' % m' * n' + b' % m') / m' := Int.ediv_nonneg (by omega) (by omega)
    have y1 := summed_n (n := n') (by omega) r0 r1 s1
    refine ⟨_, _, _, _, _, _, rfl, eH, by omega, r0, fun yp => ?_, zn'.le (by omega) (by omega), zm', Sz.mod zm' mp, Sz.mod zm' mp, ?_⟩
    · by_cases z : a' % m' = 0
      · rw [z, Int.zero_mul, Int.zero_add, Int.ediv_eq_zero_of_lt s0 s1] at yp
        omega
      · omega
    · rw [← e, fs_loop n'.toNat a' b' mp, hN]
      omega
  · have hx := of_decide_eq_false hx
    walk_at "go"
    have e0 : n'.toNat = 0 := by omega
    rw [e0, fs_zero] at e
    rw [show t = fs n.toNat a b m by omega, eH]
    exact q

end
--@ needs Div
/-! common divisors -/
theorem gcd_step (x y : Nat) : Nat.gcd y (x % y) = Nat.gcd x y := by
  rw [Nat.gcd_comm x y, Nat.gcd_rec y x, Nat.gcd_comm]
/-- the stair made least -/
def lsA (a m : Int) : Int := a / (Int.gcd a m : Int)
def lsM (a m : Int) : Int := m / (Int.gcd a m : Int)
def lsB (a b m : Int) : Int := b / (Int.gcd a m : Int)
theorem gcd_pos {a m : Int} (hm : 0 < m) : 0 < (Int.gcd a m : Int) := by
  have : 0 < Int.gcd a m := Int.gcd_pos_of_ne_zero_right a (by omega)
  omega
theorem lsA_mul (a m : Int) : lsA a m * (Int.gcd a m : Int) = a := Int.ediv_mul_cancel (Int.gcd_dvd_left a m)
theorem lsM_mul (a m : Int) : lsM a m * (Int.gcd a m : Int) = m := Int.ediv_mul_cancel (Int.gcd_dvd_right a m)
theorem lsM_pos {a m : Int} (hm : 0 < m) : 0 < lsM a m := by
  have h := lsM_mul a m
  have g := gcd_pos (a := a) hm
  refine Int.pos_of_mul_pos_left (b := (Int.gcd a m : Int)) ?_ g
  omega
theorem ls_height (a b k : Int) {m : Int} (hm : 0 < m) : (lsA a m * k + lsB a b m) / lsM a m = (a * k + b) / m := by
  have g := gcd_pos (a := a) hm
  have ha := lsA_mul a m
  have hM := lsM_mul a m
  generalize lsA a m = A at *
  generalize lsM a m = M at *
  unfold lsB
  generalize (Int.gcd a m : Int) = G at *
  subst ha
  subst hM
  rw [Int.mul_comm M G, ← Int.ediv_ediv_of_nonneg (by omega), show A * G * k + b = b + G * (A * k) by rw [Int.mul_comm A G, Int.mul_assoc]; omega, Int.add_mul_ediv_left _ _ (by omega : G ≠ 0), Int.add_comm]
theorem ls_cop {a m : Int} (hm : 0 < m) : Int.gcd (lsA a m) (lsM a m) = 1 := by
  have g := gcd_pos (a := a) hm
  unfold lsA lsM
  exact Int.gcd_ediv_gcd_ediv_gcd (by omega)
/-- only 1 divides both: no lesser place is a period -/
theorem cop_no {a m k : Int} (h : Int.gcd a m = 1) (k0 : 0 < k) (k1 : k < m) : a * k % m ≠ 0 := by
  intro z
  have d : m ∣ a * k := Int.dvd_of_emod_eq_zero z
  have d2 : m ∣ k := by
    have d3 := Int.dvd_gcd_mul_iff_dvd_mul.mpr d
    rw [Int.gcd_comm, h] at d3
    rw [show ((1 : Nat) : Int) * k = k by omega] at d3
    exact d3
  have := Int.le_of_dvd k0 d2
  omega

--@ needs Sum
--@ needs Gcd
/-! turned stairs, sums over a period -/
/-- the heights over n places and the turned places fill the rectangle -/
theorem fs_rect {a b m : Int} (ha : 0 < a) (hm : 0 < m) (n : Nat) (n0 : 0 < n) :
    fs n a b m = (a * ((n : Int) - 1) + b) / m * n - fs ((a * ((n : Int) - 1) + b) / m - b / m).toNat m (m * (b / m + 1) + (a - 1 - b)) a := by
  obtain ⟨L, rfl⟩ : ∃ L, n = L + 1 := ⟨n - 1, by omega⟩
  have c1 : ((L + 1 : Nat) : Int) - 1 = L := by omega
  rw [c1]
  have s0 := Int.emod_nonneg b (show m ≠ 0 by omega)
  have s1 := Int.emod_lt_of_pos b hm
  have eb := Int.emod_add_mul_ediv b m
  have e1 : fs (L + 1) a b m = fs (L + 1) a (b % m) m + b / m * ((L + 1 : Nat) : Int) := by
    rw [← fs_b (L + 1) a (b % m) (b / m) hm, Int.mul_comm (b / m) m, eb]
  have e2 : (a * (L : Int) + b) / m = (a * (L : Int) + b % m) / m + b / m := by
    rw [show a * (L : Int) + b = (a * L + b % m) + m * (b / m) by omega, Int.add_mul_ediv_left _ _ (by omega : m ≠ 0)]
  rw [e1, fs_quick (b % m) (by omega) s0 s1 L, e2]
  generalize hy : (a * (L : Int) + b % m) / m = y
  generalize hf : b / m = f at *
  have y0 : 0 ≤ y := by
    rw [← hy]
    have := Int.mul_nonneg (show 0 ≤ a by omega) (show (0 : Int) ≤ L by omega)
    exact Int.ediv_nonneg (by omega) (by omega)
  rw [show y + f - f = y by omega]
  have e3 : fs y.toNat m (m * (f + 1) + (a - 1 - b)) a = fs y.toNat m (m - b % m - 1) a + y := by
    have h := fs_b y.toNat m (m - b % m - 1) 1 ha
    rw [show ((y.toNat : Nat) : Int) = y by omega] at h
    rw [show m * (f + 1) + (a - 1 - b) = m - b % m - 1 + 1 * a by grind, h]
    omega
  rw [e3, show ((L + 1 : Nat) : Int) = (L : Int) + 1 from rfl, Int.add_mul y f, Int.mul_add y, Int.mul_add f, Int.mul_comm (L : Int) y]
  omega
theorem ls_fs (n : Nat) (a b c : Int) {m : Int} (hm : 0 < m) : fs n (lsA a m) (lsA a m * c + lsB a b m) (lsM a m) = fs n a (a * c + b) m := by
  unfold fs
  refine sm_congr fun i _ => ?_
  show (lsA a m * (i : Int) + (lsA a m * c + lsB a b m)) / lsM a m = (a * (i : Int) + (a * c + b)) / m
  rw [← Int.add_assoc, ← Int.mul_add, ls_height a b _ hm, Int.mul_add, Int.add_assoc]
/-- places with no rest -/
def ind (M k : Int) : Int := if k % M = 0 then 1 else 0
theorem sm_ind {M : Int} (hM : 0 < M) : sm (fun k => ind M k) M.toNat = 1 := by
  obtain ⟨K, rfl⟩ : ∃ K : Nat, M = (K : Int) + 1 := ⟨(M - 1).toNat, by omega⟩
  rw [show ((K : Int) + 1).toNat = K + 1 by omega, sm_first, sm_congr (g := fun _ => 0) (fun i hi => ?_), sm_const]
  · unfold ind
    rw [if_pos (by simp)]
    omega
  · show ind ((K : Int) + 1) ((i + 1 : Nat) : Int) = 0
    unfold ind
    rw [if_neg]
    rw [Int.emod_eq_of_lt (by omega) (by omega)]
    omega
theorem sm_ind_g {M : Int} (hM : 0 < M) : ∀ g : Nat, sm (fun k => ind M k) (g * M.toNat) = g
  | 0 => by
    rw [Nat.zero_mul]
    rfl
  | g + 1 => by
    rw [Nat.add_mul, Nat.one_mul, sm_add, sm_ind_g hM g, sm_congr (g := fun k => ind M k) (fun i _ => ?_), sm_ind hM]
    · omega
    · show ind M ((g * M.toNat + i : Nat) : Int) = ind M i
      unfold ind
      rw [show ((g * M.toNat + i : Nat) : Int) = (i : Int) + M * g by
        rw [Int.natCast_add, Int.natCast_mul, show ((M.toNat : Nat) : Int) = M by omega, Int.mul_comm]
        omega, Int.add_mul_emod_self_left]
theorem mod_zero_iff {a m : Int} (hm : 0 < m) (k : Int) : (a * k % m = 0) ↔ (k % lsM a m = 0) := by
  have g := gcd_pos (a := a) hm
  have M0 := lsM_pos (a := a) hm
  constructor
  · intro h
    by_cases z : k % lsM a m = 0
    · exact z
    · exfalso
      have r0 := Int.emod_nonneg k (show lsM a m ≠ 0 by omega)
      have r1 := Int.emod_lt_of_pos k M0
      refine cop_no (ls_cop hm) (show 0 < k % lsM a m by omega) r1 ?_
      have e := Int.emod_add_mul_ediv k (lsM a m)
      have h2 : lsA a m * k % lsM a m = 0 := by
        have ea := lsA_mul a m
        have em := lsM_mul a m
        refine Int.emod_eq_zero_of_dvd ?_
        have d := Int.dvd_of_emod_eq_zero h
        generalize lsA a m = A at *
        generalize lsM a m = M at *
        generalize (Int.gcd a m : Int) = G at *
        subst ea em
        rw [show A * G * k = A * k * G by grind] at d
        exact Int.dvd_of_mul_dvd_mul_right (by omega) d
      rw [← e, Int.mul_add, ← Int.mul_assoc, Int.mul_comm (lsA a m) (lsM a m), Int.mul_assoc, Int.add_mul_emod_self_left] at h2
      exact h2
  · intro h
    refine Int.emod_eq_zero_of_dvd ?_
    have d := Int.dvd_of_emod_eq_zero h
    have ea := lsA_mul a m
    have em := lsM_mul a m
    generalize lsA a m = A at *
    generalize lsM a m = M at *
    generalize (Int.gcd a m : Int) = G at *
    subst ea em
    obtain ⟨c, rfl⟩ := d
    exact ⟨A * c, by grind⟩
/-- the sum over a period without a begin -/
theorem fs_period {a m : Int} (hm : 0 < m) : 2 * fs m.toNat a 0 m = (a - 1) * (m - 1) + (Int.gcd a m : Int) - 1 := by
  obtain ⟨K, rfl⟩ : ∃ K : Nat, m = (K : Int) + 1 := ⟨(m - 1).toNat, by omega⟩
  rw [show ((K : Int) + 1).toNat = K + 1 by omega]
  have e1 : fs (K + 1) a 0 ((K : Int) + 1) = sm (fun i => a * ((i + 1 : Nat) : Int) / ((K : Int) + 1)) K := by
    unfold fs
    rw [sm_first]
    show (a * ((0 : Nat) : Int) + 0) / ((K : Int) + 1) + _ = _
    rw [show a * ((0 : Nat) : Int) + 0 = 0 by simp, Int.zero_ediv, Int.zero_add]
    exact sm_congr fun i _ => by rw [Int.add_zero]
  have e2 : sm (fun i => a * ((i + 1 : Nat) : Int) / ((K : Int) + 1)) K = sm (fun i => a * ((K : Int) - i) / ((K : Int) + 1)) K := by
    rw [sm_rev]
    refine sm_congr fun i hi => ?_
    show a * ((K - 1 - i + 1 : Nat) : Int) / ((K : Int) + 1) = a * ((K : Int) - i) / ((K : Int) + 1)
    rw [show ((K - 1 - i + 1 : Nat) : Int) = (K : Int) - i by omega]
  have e3 : ∀ i : Nat, i < K → a * ((i + 1 : Nat) : Int) / ((K : Int) + 1) + a * ((K : Int) - i) / ((K : Int) + 1) = (a - 1) + ind (lsM a ((K : Int) + 1)) ((i + 1 : Nat) : Int) := by
    intro i hi
    have hm' : ((K : Int) + 1) ≠ 0 := by omega
    have c : a * ((K : Int) - i) = (((K : Int) + 1) - 1) - a * ((i + 1 : Nat) : Int) + ((K : Int) + 1) * (a - 1) + 1 := by
      rw [show ((i + 1 : Nat) : Int) = (i : Int) + 1 from rfl, Int.mul_sub, Int.mul_add a, Int.add_mul _ _ (a - 1), Int.mul_sub, Int.mul_comm (K : Int) a]
      omega
    unfold ind
    have eq := Int.emod_add_mul_ediv (a * ((i + 1 : Nat) : Int)) ((K : Int) + 1)
    have r0 := Int.emod_nonneg (a * ((i + 1 : Nat) : Int)) hm'
    have r1 := Int.emod_lt_of_pos (a * ((i + 1 : Nat) : Int)) hm
    generalize hz : a * ((i + 1 : Nat) : Int) = z at *
    by_cases hr : z % ((K : Int) + 1) = 0
    · rw [if_pos (by rw [← hz] at hr; exact (mod_zero_iff hm _).mp hr)]
      have : a * ((K : Int) - i) / ((K : Int) + 1) = a - z / ((K : Int) + 1) := by
        refine ediv_is hm ?_ ?_
        · rw [c]
          grind
        · rw [c]
          grind
      omega
    · rw [if_neg (fun h => hr (by rw [← hz]; exact (mod_zero_iff hm _).mpr h))]
      have : a * ((K : Int) - i) / ((K : Int) + 1) = a - 1 - z / ((K : Int) + 1) := by
        refine ediv_is hm ?_ ?_
        · rw [c]
          grind
        · rw [c]
          grind
      omega
  have e4 : sm (fun i => ind (lsM a ((K : Int) + 1)) ((i + 1 : Nat) : Int)) K = (Int.gcd a ((K : Int) + 1) : Int) - 1 := by
    have M0 := lsM_pos (a := a) hm
    have h := sm_ind_g M0 (Int.gcd a ((K : Int) + 1))
    have em := lsM_mul a ((K : Int) + 1)
    have en : Int.gcd a ((K : Int) + 1) * (lsM a ((K : Int) + 1)).toNat = K + 1 := by
      have : ((Int.gcd a ((K : Int) + 1) * (lsM a ((K : Int) + 1)).toNat : Nat) : Int) = (K : Int) + 1 := by
        rw [Int.natCast_mul, show (((lsM a ((K : Int) + 1)).toNat : Nat) : Int) = lsM a ((K : Int) + 1) by omega, Int.mul_comm]
        exact em
      omega
    rw [en, sm_first] at h
    have i0 : ind (lsM a ((K : Int) + 1)) ((0 : Nat) : Int) = 1 := by
      unfold ind
      rw [if_pos (by simp)]
    rw [i0] at h
    omega
  have e5 : 2 * sm (fun i => a * ((i + 1 : Nat) : Int) / ((K : Int) + 1)) K = (a - 1) * K + ((Int.gcd a ((K : Int) + 1) : Int) - 1) := by
    rw [show (2 : Int) * sm (fun i => a * ((i + 1 : Nat) : Int) / ((K : Int) + 1)) K = sm (fun i => a * ((i + 1 : Nat) : Int) / ((K : Int) + 1)) K + sm (fun i => a * ((i + 1 : Nat) : Int) / ((K : Int) + 1)) K by omega]
    rw (occs := [2]) [e2]
    rw [← sm_plus, sm_congr e3, sm_plus, sm_const, e4]
  rw [e1, e5]
  rw [show (K : Int) + 1 - 1 = K by omega]
  omega

--@ needs Turned
/-! two coins -/
theorem sm_zero {f : Nat → Int} {n : Nat} (h : ∀ i, i < n → f i = 0) : sm f n = 0 := by
  rw [sm_congr (g := fun _ => 0) h, sm_const, Int.zero_mul]
theorem sm_nonneg {f : Nat → Int} : ∀ {n : Nat}, (∀ i, i < n → 0 ≤ f i) → 0 ≤ sm f n
  | 0, _ => by show (0 : Int) ≤ 0; omega
  | n + 1, h => by
    show 0 ≤ sm f n + f n
    have := sm_nonneg (f := f) (n := n) (fun i hi => h i (by omega))
    have := h n (by omega)
    omega
theorem sm_le {f g : Nat → Int} : ∀ {n : Nat}, (∀ i, i < n → f i ≤ g i) → sm f n ≤ sm g n
  | 0, _ => by show (0 : Int) ≤ 0; omega
  | n + 1, h => by
    show sm f n + f n ≤ sm g n + g n
    have := sm_le (f := f) (g := g) (n := n) (fun i hi => h i (by omega))
    have := h n (by omega)
    omega
theorem sm_swap {f : Nat → Nat → Int} (n : Nat) : ∀ m : Nat, sm (fun i => sm (fun j => f i j) n) m = sm (fun j => sm (fun i => f i j) m) n
  | 0 => by
    show (0 : Int) = sm (fun _ => (0 : Int)) n
    rw [sm_const, Int.zero_mul]
  | m + 1 => by
    show sm (fun i => sm (fun j => f i j) n) m + sm (fun j => f m j) n = sm (fun j => sm (fun i => f i j) m + f m j) n
    rw [sm_plus, sm_swap n m]
/-- 1 where m divides -/
def dv (m x : Int) : Int := if x % m = 0 then 1 else 0
theorem dv_nonneg (m x : Int) : 0 ≤ dv m x := by
  unfold dv
  split <;> omega
theorem dv_diff {m : Int} (hm : 0 < m) (x : Int) : x / m - (x - 1) / m = dv m x := by
  have e := Int.emod_add_mul_ediv x m
  have r0 := Int.emod_nonneg x (show m ≠ 0 by omega)
  have r1 := Int.emod_lt_of_pos x hm
  unfold dv
  by_cases h : x % m = 0
  · rw [if_pos h]
    have : (x - 1) / m = x / m - 1 := ediv_is hm (by grind) (by grind)
    omega
  · rw [if_neg h]
    have : (x - 1) / m = x / m := ediv_is hm (by grind) (by grind)
    omega
/-- at most one place of a period -/
theorem dv_le {a m : Int} (hm : 0 < m) (h : Int.gcd a m = 1) (b : Int) : ∀ n : Nat, (n : Int) ≤ m → sm (fun k => dv m (a * (k : Int) + b)) n ≤ 1
  | 0, _ => by show (0 : Int) ≤ 1; omega
  | n + 1, hn => by
    show sm (fun k => dv m (a * (k : Int) + b)) n + dv m (a * (n : Int) + b) ≤ 1
    by_cases z : (a * (n : Int) + b) % m = 0
    · rw [sm_zero (fun i hi => ?_)]
      · unfold dv
        rw [if_pos z]
        omega
      · unfold dv
        rw [if_neg]
        intro y
        have d1 := Int.dvd_of_emod_eq_zero z
        have d2 := Int.dvd_of_emod_eq_zero y
        have d3 := Int.dvd_sub d1 d2
        rw [show a * (n : Int) + b - (a * (i : Int) + b) = a * ((n : Int) - i) by grind] at d3
        exact cop_no h (show 0 < (n : Int) - i by omega) (by omega) (Int.emod_eq_zero_of_dvd d3)
    · have := dv_le hm h b n (by omega)
      have : dv m (a * (n : Int) + b) = 0 := by
        unfold dv
        rw [if_neg z]
      omega
theorem fs_dv {m : Int} (hm : 0 < m) (n : Nat) (a b : Int) : fs n a b m - fs n a (b - 1) m = sm (fun k => dv m (a * (k : Int) + b)) n := by
  have : fs n a b m = fs n a (b - 1) m + sm (fun k => dv m (a * (k : Int) + b)) n := by
    unfold fs
    rw [← sm_plus]
    refine sm_congr fun i _ => ?_
    have := dv_diff hm (a * (i : Int) + b)
    rw [show a * (i : Int) + (b - 1) = a * (i : Int) + b - 1 by omega]
    omega
  omega
theorem fs_up {a m : Int} (hm : 0 < m) (h : Int.gcd a m = 1) (b : Int) : ∀ j : Nat, fs m.toNat a (b + j) m ≤ fs m.toNat a b m + j
  | 0 => by
    rw [show b + ((0 : Nat) : Int) = b by omega]
    omega
  | j + 1 => by
    have := fs_up hm h b j
    have h1 := fs_dv hm m.toNat a (b + ((j + 1 : Nat) : Int))
    have h2 := dv_le hm h (b + ((j + 1 : Nat) : Int)) m.toNat (by omega)
    rw [show b + ((j + 1 : Nat) : Int) - 1 = b + (j : Int) by omega] at h1
    omega
/-- over a period just one place -/
theorem dv_one {a m : Int} (hm : 0 < m) (h : Int.gcd a m = 1) (b : Int) : sm (fun k => dv m (a * (k : Int) + b)) m.toNat = 1 := by
  have h1 := dv_le hm h b m.toNat (by omega)
  have h2 := fs_dv hm m.toNat a b
  have h3 := fs_up hm h b (m.toNat - 1)
  have h4 := fs_b m.toNat a (b - 1) 1 hm
  rw [show b - 1 + 1 * m = b + ((m.toNat - 1 : Nat) : Int) by omega] at h4
  rw [h4] at h3
  omega
/-- the ways up to a number -/
@[irreducible] def wy (p q c : Int) : Int := if c < 0 then 0 else fs (c / p + 1).toNat (0 - p) c q + (c / p + 1)
theorem wy_neg {p q c : Int} (h : c < 0) : wy p q c = 0 := by
  unfold wy
  rw [if_pos h]
theorem wy_pos {p q c : Int} (h : 0 ≤ c) : wy p q c = fs (c / p + 1).toNat (0 - p) c q + (c / p + 1) := by
  unfold wy
  rw [if_neg (by omega)]
theorem cnt_le (y : Int) : ∀ R : Nat, sm (fun j => if (j : Int) ≤ y then 1 else 0) R = min (R : Int) (max 0 (y + 1))
  | 0 => by
    show (0 : Int) = _
    omega
  | R + 1 => by
    show sm (fun j => if (j : Int) ≤ y then 1 else 0) R + (if (R : Int) ≤ y then 1 else 0) = _
    rw [cnt_le y R]
    split <;> omega
theorem div_le_self' {c p : Int} (hp : 0 < p) (h : 0 ≤ c) : c / p ≤ c := Int.ediv_le_self _ h
/-- the pairs -/
theorem wy_pairs {p q c : Int} (hp : 0 < p) (hq : 0 < q) (h : 0 ≤ c) : wy p q c = sm (fun i => sm (fun j => if p * (i : Int) + q * (j : Int) ≤ c then 1 else 0) (c + 1).toNat) (c + 1).toNat := by
  have d0 : 0 ≤ c / p := Int.ediv_nonneg h (by omega)
  have d1 := div_le_self' hp h
  have e := Int.emod_add_mul_ediv c p
  have r0 := Int.emod_nonneg c (show p ≠ 0 by omega)
  have r1 := Int.emod_lt_of_pos c hp
  have inner : ∀ i : Nat, sm (fun j => if p * (i : Int) + q * (j : Int) ≤ c then (1 : Int) else 0) (c + 1).toNat = max 0 ((c - p * (i : Int)) / q + 1) := by
    intro i
    rw [sm_congr (g := fun j => if (j : Int) ≤ (c - p * (i : Int)) / q then 1 else 0) (fun j _ => ?_), cnt_le]
    · have pi : 0 ≤ p * (i : Int) := Int.mul_nonneg (by omega) (by omega)
      have : (c - p * (i : Int)) / q ≤ c := by
        have h1 : (c - p * (i : Int)) / q ≤ c / q := Int.ediv_le_ediv hq (by omega)
        have := div_le_self' hq h
        omega
      omega
    · have : (p * (i : Int) + q * (j : Int) ≤ c) ↔ (j : Int) ≤ (c - p * (i : Int)) / q := by
        rw [Int.le_ediv_iff_mul_le hq, Int.mul_comm (j : Int) q]
        omega
      by_cases z : p * (i : Int) + q * (j : Int) ≤ c
      · rw [if_pos z, if_pos (this.mp z)]
      · rw [if_neg z, if_neg (fun y => z (this.mpr y))]
  rw [sm_congr (g := fun i => max 0 ((c - p * (i : Int)) / q + 1)) (fun i _ => inner i), wy_pos h]
  rw [show (c + 1).toNat = (c / p + 1).toNat + (c - c / p).toNat by omega, sm_add, sm_zero (f := fun i => max 0 ((c - p * (((c / p + 1).toNat + i : Nat) : Int)) / q + 1)) (fun i _ => ?_), sm_congr (f := fun i => max 0 ((c - p * (i : Int)) / q + 1)) (g := fun i => ((0 - p) * (i : Int) + c) / q + 1) (fun i hi => ?_), sm_plus, sm_const]
  · unfold fs
    omega
  · have : p * (i : Int) ≤ c := by
      have : p * (i : Int) ≤ p * (c / p) := Int.mul_le_mul_of_nonneg_left (by omega) (by omega)
      omega
    have : 0 ≤ (c - p * (i : Int)) / q := Int.ediv_nonneg (by omega) (by omega)
    rw [show (0 - p) * (i : Int) + c = c - p * (i : Int) by grind]
    omega
  · have k : p * (c / p + 1) ≤ p * (((c / p + 1).toNat + i : Nat) : Int) := Int.mul_le_mul_of_nonneg_left (by omega) (by omega)
    rw [Int.mul_add, Int.mul_one] at k
    have : (c - p * (((c / p + 1).toNat + i : Nat) : Int)) / q < 0 := Int.ediv_neg_of_neg_of_pos (by omega) hq
    omega
theorem wy_comm {p q c : Int} (hp : 0 < p) (hq : 0 < q) : wy p q c = wy q p c := by
  by_cases h : c < 0
  · rw [wy_neg h, wy_neg h]
  · rw [wy_pairs hp hq (by omega), wy_pairs hq hp (by omega), sm_swap]
    refine sm_congr fun i _ => sm_congr fun j _ => ?_
    rw [Int.add_comm]
/-- one number less -/
theorem wy_pred {p q c : Int} (hp : 0 < p) (hq : 0 < q) (h : 0 ≤ c) : wy p q (c - 1) = fs (c / p + 1).toNat (0 - p) (c - 1) q + (c / p + 1) := by
  have e := Int.emod_add_mul_ediv c p
  have r0 := Int.emod_nonneg c (show p ≠ 0 by omega)
  have r1 := Int.emod_lt_of_pos c hp
  have d0 : 0 ≤ c / p := Int.ediv_nonneg h (by omega)
  by_cases z : c % p = 0
  · have t : ((0 - p) * (((c / p).toNat : Nat) : Int) + (c - 1)) / q = -1 := by
      rw [show (((c / p).toNat : Nat) : Int) = c / p by omega, show (0 - p) * (c / p) + (c - 1) = -1 by grind]
      exact ediv_is hq (by omega) (by omega)
    rw [show (c / p + 1).toNat = (c / p).toNat + 1 by omega, fs_succ, t]
    by_cases c0 : c = 0
    · subst c0
      rw [wy_neg (by omega)]
      simp [fs_zero]
    · rw [wy_pos (by omega), show (c - 1) / p = c / p - 1 from ediv_is hp (by grind) (by grind)]
      rw [show (c / p - 1 + 1).toNat = (c / p).toNat by omega]
      omega
  · rw [wy_pos (by by_cases c0 : c = 0; (subst c0; simp at z); omega), show (c - 1) / p = c / p from ediv_is hp (by grind) (by grind)]
/-- the ways of a number -/
theorem wy_one {p q c : Int} (hp : 0 < p) (hq : 0 < q) (h : 0 ≤ c) : wy p q c - wy p q (c - 1) = sm (fun i => dv q ((0 - p) * (i : Int) + c)) (c / p + 1).toNat := by
  rw [wy_pred hp hq h, wy_pos h, ← fs_dv hq]
  omega
theorem gcd_neg' {p q : Int} (h : Int.gcd p q = 1) : Int.gcd (0 - p) q = 1 := by
  rw [show 0 - p = -p by omega, Int.neg_gcd]
  exact h
/-- one coin's and the other's product more -/
theorem wy_more {p q c : Int} (hp : 0 < p) (hq : 0 < q) (h : 0 ≤ c) (g : Int.gcd p q = 1) : wy p q (c + p * q) - wy p q (c + p * q - 1) = wy p q c - wy p q (c - 1) + 1 := by
  have pq : 0 ≤ p * q := Int.mul_nonneg (by omega) (by omega)
  have d0 : 0 ≤ c / p := Int.ediv_nonneg h (by omega)
  rw [wy_one hp hq (by omega), wy_one hp hq h, Int.add_mul_ediv_left _ _ (by omega : p ≠ 0)]
  rw [show (c / p + q + 1).toNat = q.toNat + (c / p + 1).toNat by omega, sm_add, dv_one hq (gcd_neg' g)]
  rw [sm_congr (g := fun i => dv q ((0 - p) * (i : Int) + c)) (fun i _ => ?_)]
  · omega
  · show dv q ((0 - p) * ((q.toNat + i : Nat) : Int) + (c + p * q)) = _
    congr 1
    rw [show ((q.toNat + i : Nat) : Int) = q + i by omega]
    grind
/-- so many times as great -/
theorem wy_times {p q c k r : Int} (hk : 0 < k) (r0 : 0 ≤ r) (r1 : r < k) : wy (p * k) (q * k) (c * k + r) = wy p q c := by
  have f : ∀ x y : Int, (x * k + r) / (y * k) = x / y := by
    intro x y
    rw [Int.mul_comm y k, ← Int.ediv_ediv_of_nonneg (by omega), show (x * k + r) / k = x from ediv_is hk (by omega) (by grind)]
  by_cases h : c < 0
  · rw [wy_neg h, wy_neg]
    have : c * k ≤ -1 * k := Int.mul_le_mul_of_nonneg_right (by omega) (by omega)
    omega
  · have : 0 ≤ c * k := Int.mul_nonneg (by omega) (by omega)
    rw [wy_pos (by omega), wy_pos (by omega), f]
    congr 1
    unfold fs
    refine sm_congr fun i _ => ?_
    rw [show (0 - p * k) * (i : Int) + (c * k + r) = ((0 - p) * (i : Int) + c) * k + r by grind, f]
theorem wy_times0 {p q c k : Int} (hk : 0 < k) : wy (p * k) (q * k) (c * k) = wy p q c := by
  have := wy_times (p := p) (q := q) (c := c) hk (r := 0) (by omega) hk
  rw [Int.add_zero] at this
  exact this
theorem wy_times1 {p q c k : Int} (hk : 1 < k) : wy (p * k) (q * k) (c * k + 1) = wy p q c := wy_times (by omega) (by omega) hk
theorem wy_timesP {p q c k : Int} (hk : 0 < k) : wy (p * k) (q * k) (c * k - 1) = wy p q (c - 1) := by
  have := wy_times (p := p) (q := q) (c := c - 1) hk (r := k - 1) (by omega) (by omega)
  rw [show (c - 1) * k + (k - 1) = c * k - 1 by grind] at this
  exact this
/-- the last unpaid -/
theorem wy_last {p q : Int} (hp : 2 ≤ p) (hq : 2 ≤ q) (g : Int.gcd p q = 1) : wy p q (p * q - p - q) - wy p q (p * q - p - q - 1) = 0 := by
  have c0 : 0 ≤ p * q - p - q := by
    have := Int.mul_nonneg (show 0 ≤ p - 2 by omega) (show 0 ≤ q - 2 by omega)
    grind
  rw [wy_one (by omega) (by omega) c0]
  refine sm_zero fun i hi => ?_
  have h1 : (i : Int) ≤ (p * q - p - q) / p := by omega
  have h2 := (Int.le_ediv_iff_mul_le (by omega)).mp h1
  unfold dv
  rw [if_neg]
  intro z
  have d := Int.dvd_of_emod_eq_zero z
  obtain ⟨x, hx⟩ := d
  refine cop_no g (show 0 < (i : Int) + 1 by omega) ?_ (Int.emod_eq_zero_of_dvd ⟨p - 1 - x, by grind⟩)
  have h3 : ((i : Int) + 1) * p < q * p := by grind
  exact Int.lt_of_mul_lt_mul_right h3 (by omega)
theorem wy_next {p q c : Int} (hp : 0 < p) (hq : 0 < q) (g : Int.gcd p q = 1) (h0 : 0 ≤ c) (h : p * q - p - q < c) : wy p q c - wy p q (c - 1) ≠ 0 := by
  have d0 : 0 ≤ c / p := Int.ediv_nonneg h0 (by omega)
  have o := dv_one hq (gcd_neg' g) c
  rw [wy_one hp hq h0]
  by_cases z : q ≤ c / p + 1
  · rw [show (c / p + 1).toNat = q.toNat + (c / p + 1 - q).toNat by omega, sm_add, o]
    have := sm_nonneg (f := fun i => dv q ((0 - p) * ((q.toNat + i : Nat) : Int) + c)) (n := (c / p + 1 - q).toNat) (fun i _ => dv_nonneg _ _)
    omega
  · rw [show q.toNat = (c / p + 1).toNat + (q - (c / p + 1)).toNat by omega, sm_add, sm_zero (f := fun i => dv q ((0 - p) * (((c / p + 1).toNat + i : Nat) : Int) + c)) (fun i hi => ?_)] at o
    · omega
    · unfold dv
      rw [if_neg]
      intro y
      generalize hw : (((c / p + 1).toNat + i : Nat) : Int) = w at *
      have w0 : c / p < w := by omega
      have w1 : w ≤ q - 1 := by omega
      have a1 := (Int.ediv_lt_iff_lt_mul hp).mp w0
      have a2 : w * p ≤ (q - 1) * p := Int.mul_le_mul_of_nonneg_right w1 (by omega)
      obtain ⟨x, hx⟩ := Int.dvd_of_emod_eq_zero y
      have b1 : q * x < q * 0 := by grind
      have b2 : q * (-1) < q * x := by grind
      have := Int.lt_of_mul_lt_mul_left b1 (by omega)
      have := Int.lt_of_mul_lt_mul_left b2 (by omega)
      omega
/-- how many are unpaid -/
theorem mu_even {p q : Int} (hp : 0 < p) (hq : 0 < q) (g : Int.gcd p q = 1) : 2 * ((p - 1) * (q - 1) / 2) = (p - 1) * (q - 1) := by
  have h := fs_period (a := p) hq
  rw [g] at h
  generalize (p - 1) * (q - 1) = z at *
  omega
theorem wy_all {p q : Int} (hp : 0 < p) (hq : 0 < q) (g : Int.gcd p q = 1) : wy p q (p * q - 1) = p * q - (p - 1) * (q - 1) / 2 := by
  have h := fs_period (a := p) hq
  have hm := mu_even hp hq g
  rw [g] at h
  have pq : 0 < p * q := Int.mul_pos hp hq
  have d : (p * q - 1) / p = q - 1 := ediv_is hp (by grind) (by grind)
  rw [wy_pos (by omega), d, show (q - 1 + 1).toNat = q.toNat by omega]
  have e : fs q.toNat (0 - p) (p * q - 1) q = (p - 1) * q - fs q.toNat p 0 q := by
    have : fs q.toNat (0 - p) (p * q - 1) q + fs q.toNat p 0 q = (p - 1) * q := by
      unfold fs
      rw [← sm_plus, sm_congr (g := fun _ => p - 1) (fun i _ => ?_), sm_const, show ((q.toNat : Nat) : Int) = q by omega]
      have e := Int.emod_add_mul_ediv (p * (i : Int)) q
      have r0 := Int.emod_nonneg (p * (i : Int)) (show q ≠ 0 by omega)
      have r1 := Int.emod_lt_of_pos (p * (i : Int)) hq
      rw [Int.add_zero, show ((0 - p) * (i : Int) + (p * q - 1)) / q = p - 1 - p * (i : Int) / q from ediv_is hq (by grind) (by grind)]
      omega
    omega
  rw [e]
  have : (p - 1) * q = p * q - q := by grind
  generalize (p - 1) * (q - 1) = z at *
  omega

def sp_all_ways (_ : PySem.W.Frag) : Sp := fun vs H Q _ => ∃ (x y c : Int), vs = [.int x, .int y, .int c] ∧ 0 < x ∧ 0 < y ∧ Sz 1900 x ∧ Sz 1900 y ∧ Sz 1900 c ∧ Q (.int (wy x y c)) H
theorem use_all_ways {K : PySem.W.Frag} {H : Hp} {Q : VK} {E : XK} {x y c : Int} (hx : 0 < x) (hy : 0 < y) (zx : Sz 1900 x) (zy : Sz 1900 y) (zc : Sz 1900 c) (q : Q (.int (wy x y c)) H) : sp_all_ways K [.int x, .int y, .int c] H Q E := ⟨x, y, c, rfl, hx, hy, zx, zy, zc, q⟩
abbrev s_all_ways : Stmt := topS 24
abbrev nm_all_ways : List Str := ["p", "q", "c", "many"]
theorem sc_all_ways : FnScope nm_all_ways ["p", "q", "c"] (defScope s_all_ways) := ⟨rfl, rfl, rfl, by decide +kernel, rfl, by decide +kernel, by decide +kernel⟩
theorem st_all_ways {v0 v1 v2 : V} : start nm_all_ways [v0, v1, v2] = [some v0, some v1, some v2, none] := rfl
section
variable {P : Program} {w : World} {K : PySem.W.Frag} {mg : Str → Option Value} {base : Heap} {c : Cl}
theorem ok_all_ways (D : DefAt K mg "all_ways" s_all_ways ["p", "q", "c"]) (G_summed : Has P w K mg base CX0 2 "summed" ["n", "a", "b", "m"] (sp_summed K)) : Has P w K mg base CX0 3 "all_ways" ["p", "q", "c"] (sp_all_ways K) := by
  refine D.ok sc_all_ways (by rintro _ _ _ _ ⟨_, _, _, rfl, _⟩; rfl) (fun f cdv A outer s H vs Q E hr h => ?_)
  obtain ⟨x, y, c, rfl, hx, hy, zx, zy, zc, q⟩ := h
  refine ⟨_, (pss_cons (ps_if (pt_cmpR op_lt (pv 2) pe_int (nomark _)) (pss_one (ps_ret pe_int)) pss_nil)
      (pss_cons (ps_set (i := 3) sc_all_ways.nd rfl (Or.inl rfl) (pe_op op_add (pe_op op_fdivW (pv 2) (pv 0)) pe_int))
      (pss_one (ps_ret (pe_op op_add (pcall G_summed (hr.mono (by decide)) (pa_cons (pv 3) (pa_cons (pe_op op_sub pe_int (pv 0)) (pa_cons (pv 2) (pa_cons (pv 1) pa_nil))))) (pv 3)))))), ?_⟩
  rw [st_all_ways]
  try dsimp only [Cx.nox, Cx.wish, Cx.blk, cx_K, cxH_K]
  walk_at "go"
  refine if_2 (fun hc => ?_) (fun hc => ?_)
  · have hc := of_decide_eq_true hc
    walk_at "go"
    rw [wy_neg hc] at q
    exact q
  · have hc := of_decide_eq_false hc
    walk_at "go"
    refine use_summed hy (by walk_at "szm") (by walk_at "szm") (by walk_at "szm") (by walk_at "szm") ?_
    walk_at "go"
    rw [wy_pos (by omega)] at q
    exact q

end
def sp_ways_to (_ : PySem.W.Frag) : Sp := fun vs H Q _ => ∃ (x y c : Int), vs = [.int x, .int y, .int c] ∧ 0 < x ∧ 0 < y ∧ Sz 1600 x ∧ Sz 1600 y ∧ Sz 1600 c ∧ Q (.int (wy x y c)) H
theorem use_ways_to {K : PySem.W.Frag} {H : Hp} {Q : VK} {E : XK} {x y c : Int} (hx : 0 < x) (hy : 0 < y) (zx : Sz 1600 x) (zy : Sz 1600 y) (zc : Sz 1600 c) (q : Q (.int (wy x y c)) H) : sp_ways_to K [.int x, .int y, .int c] H Q E := ⟨x, y, c, rfl, hx, hy, zx, zy, zc, q⟩
abbrev s_ways_to : Stmt := topS 25
abbrev nm_ways_to : List Str := ["p", "q", "c"]
theorem sc_ways_to : FnScope nm_ways_to ["p", "q", "c"] (defScope s_ways_to) := ⟨rfl, rfl, rfl, by decide +kernel, rfl, by decide +kernel, by decide +kernel⟩
theorem st_ways_to {v0 v1 v2 : V} : start nm_ways_to [v0, v1, v2] = [some v0, some v1, some v2] := rfl
section
variable {P : Program} {w : World} {K : PySem.W.Frag} {mg : Str → Option Value} {base : Heap} {c : Cl}
theorem ok_ways_to (D : DefAt K mg "ways_to" s_ways_to ["p", "q", "c"]) (G_need_coins : Has P w K mg base CX0 2 "need_coins" ["p", "q"] (sp_need_coins K)) (G_all_ways : Has P w K mg base CX0 3 "all_ways" ["p", "q", "c"] (sp_all_ways K)) : Has P w K mg base CX0 4 "ways_to" ["p", "q", "c"] (sp_ways_to K) := by
  refine D.ok sc_ways_to (by rintro _ _ _ _ ⟨_, _, _, rfl, _⟩; rfl) (fun f cdv A outer s H vs Q E hr h => ?_)
  obtain ⟨x, y, c, rfl, hx, hy, zx, zy, zc, q⟩ := h
  refine ⟨_, (pss_cons (ps_expr (pcall G_need_coins (hr.mono (by decide)) (pa_cons (pv 0) (pa_cons (pv 1) pa_nil))))
      (pss_one (ps_ret (pcall G_all_ways (hr.mono (by decide)) (pa_cons (pv 0) (pa_cons (pv 1) (pa_cons (pv 2) pa_nil))))))), ?_⟩
  rw [st_ways_to]
  try dsimp only [Cx.nox, Cx.wish, Cx.blk, cx_K, cxH_K]
  walk_at "go"
  refine use_need_coins hx hy ?_
  walk_at "go"
  refine use_all_ways hx hy (zx.mono (by decide)) (zy.mono (by decide)) (zc.mono (by decide)) ?_
  walk_at "go"
  exact q

end
def sp_ways (_ : PySem.W.Frag) : Sp := fun vs H Q _ => ∃ (x y c : Int), vs = [.int x, .int y, .int c] ∧ 0 < x ∧ 0 < y ∧ Sz 1600 x ∧ Sz 1600 y ∧ Sz 1600 c ∧ Q (.int (wy x y c - wy x y (c - 1))) H
theorem use_ways {K : PySem.W.Frag} {H : Hp} {Q : VK} {E : XK} {x y c : Int} (hx : 0 < x) (hy : 0 < y) (zx : Sz 1600 x) (zy : Sz 1600 y) (zc : Sz 1600 c) (q : Q (.int (wy x y c - wy x y (c - 1))) H) : sp_ways K [.int x, .int y, .int c] H Q E := ⟨x, y, c, rfl, hx, hy, zx, zy, zc, q⟩
abbrev s_ways : Stmt := topS 26
abbrev nm_ways : List Str := ["p", "q", "c"]
theorem sc_ways : FnScope nm_ways ["p", "q", "c"] (defScope s_ways) := ⟨rfl, rfl, rfl, by decide +kernel, rfl, by decide +kernel, by decide +kernel⟩
theorem st_ways {v0 v1 v2 : V} : start nm_ways [v0, v1, v2] = [some v0, some v1, some v2] := rfl
section
variable {P : Program} {w : World} {K : PySem.W.Frag} {mg : Str → Option Value} {base : Heap} {c : Cl}
theorem ok_ways (D : DefAt K mg "ways" s_ways ["p", "q", "c"]) (G_need_coins : Has P w K mg base CX0 2 "need_coins" ["p", "q"] (sp_need_coins K)) (G_all_ways : Has P w K mg base CX0 3 "all_ways" ["p", "q", "c"] (sp_all_ways K)) : Has P w K mg base CX0 4 "ways" ["p", "q", "c"] (sp_ways K) := by
  refine D.ok sc_ways (by rintro _ _ _ _ ⟨_, _, _, rfl, _⟩; rfl) (fun f cdv A outer s H vs Q E hr h => ?_)
  obtain ⟨x, y, c, rfl, hx, hy, zx, zy, zc, q⟩ := h
  refine ⟨_, (pss_cons (ps_expr (pcall G_need_coins (hr.mono (by decide)) (pa_cons (pv 0) (pa_cons (pv 1) pa_nil))))
      (pss_one (ps_ret (pe_op op_sub (pcall G_all_ways (hr.mono (by decide)) (pa_cons (pv 0) (pa_cons (pv 1) (pa_cons (pv 2) pa_nil)))) (pcall G_all_ways (hr.mono (by decide)) (pa_cons (pv 0) (pa_cons (pv 1) (pa_cons (pe_op op_sub (pv 2) pe_int) pa_nil)))))))), ?_⟩
  rw [st_ways]
  try dsimp only [Cx.nox, Cx.wish, Cx.blk, cx_K, cxH_K]
  walk_at "go"
  refine use_need_coins hx hy ?_
  walk_at "go"
  refine use_all_ways hx hy (zx.mono (by decide)) (zy.mono (by decide)) (zc.mono (by decide)) ?_
  walk_at "go"
  refine use_all_ways hx hy (zx.mono (by decide)) (zy.mono (by decide)) (by walk_at "szm") ?_
  walk_at "go"
  exact q

end
def sp_law_common (_ : PySem.W.Frag) : Sp := fun vs H Q _ => ∃ (x y : Int), vs = [.int x, .int y] ∧ Q (.int (Int.gcd x y : Int)) H
theorem use_law_common {K : PySem.W.Frag} {H : Hp} {Q : VK} {E : XK} {x y : Int} (q : Q (.int (Int.gcd x y : Int)) H) : sp_law_common K [.int x, .int y] H Q E := ⟨x, y, rfl, q⟩
abbrev s_law_common : Stmt := topS 33
abbrev nm_law_common : List Str := ["one", "other"]
theorem sc_law_common : FnScope nm_law_common ["one", "other"] (defScope s_law_common) := ⟨rfl, rfl, rfl, by decide +kernel, rfl, by decide +kernel, by decide +kernel⟩
theorem st_law_common {v0 v1 : V} : start nm_law_common [v0, v1] = [some v0, some v1] := rfl
section
variable {P : Program} {w : World} {K : PySem.W.Frag} {mg : Str → Option Value} {base : Heap} {c : Cl}
theorem ok_law_common (D : DefAt K mg "_law_common" s_law_common ["one", "other"]) (B_abs : mg "abs" = none) : Has P w K mg base CX0 2 "_law_common" ["one", "other"] (sp_law_common K) := by
  refine D.ok sc_law_common (by rintro _ _ _ _ ⟨_, _, rfl, _⟩; rfl) (fun f cdv A outer s H vs Q E hr h => ?_)
  obtain ⟨x, y, rfl, q⟩ := h
  refine ⟨_, (pss_cons (ps_set (i := 0) sc_law_common.nd rfl (Or.inl rfl) (pe_callB cl_abs (by rfl) B_abs (by decide +kernel) (pa_cons (pv 0) pa_nil)))
      (pss_cons (ps_set (i := 1) sc_law_common.nd rfl (Or.inl rfl) (pe_callB cl_abs (by rfl) B_abs (by decide +kernel) (pa_cons (pv 1) pa_nil)))
      (pss_cons (ps_while PassesOwn.never (pt_cmpR op_gt (pv 1) pe_int (nomark _)) (pss_one (ps_par (i := 0) (j := 1) (by rfl) sc_law_common.nd rfl rfl (by decide) rfl rfl (pa_cons (pv 1) (pa_cons (pe_op op_mod (pv 0) (pv 1)) pa_nil)) (by rfl))))
      (pss_one (ps_ret (pv 0)))))), ?_⟩
  rw [st_law_common]
  try dsimp only [Cx.nox, Cx.wish, Cx.blk, cx_K, cxH_K]
  walk_at "go"
  refine while_m (fun μ σ H' => H' = H ∧ ∃ (u v : Nat), σ = [some (.int (u : Int)), some (.int (v : Int))] ∧ μ = v ∧ Nat.gcd u v = Int.gcd x y) y.natAbs ⟨rfl, x.natAbs, y.natAbs, rfl, rfl, rfl⟩ ?_
  rintro v σ H1 ⟨eH, u, v', rfl, rfl, e⟩
  walk_at "go"
  refine if_2 (fun hx => ?_) (fun hx => ?_)
  · have hx := of_decide_eq_true hx
    refine r_body (fun σ H' => H' = H ∧ σ = [some (.int (v : Int)), some (.int ((u % v : Nat) : Int))]) ?_ ?_
    · rintro σ H2 ⟨e2, rfl⟩
      exact ⟨u % v, Nat.mod_lt _ (by omega), e2, v, u % v, rfl, rfl, by rw [gcd_step, e]⟩
    walk_at "go"
    exact ⟨eH, rfl⟩
  · have hx := of_decide_eq_false hx
    walk_at "go"
    have ev : v = 0 := by omega
    subst ev
    rw [Nat.gcd_zero_right] at e
    rw [e, eH]
    exact q

end
def sp_law_whole (_ : PySem.W.Frag) : Sp := fun vs H Q _ => ∃ i : Int, vs = [.int i] ∧ Q (.bl true) H
theorem use_law_whole {K : PySem.W.Frag} {H : Hp} {Q : VK} {E : XK} {i : Int} (k : Q (.bl true) H) : sp_law_whole K [.int i] H Q E := ⟨i, rfl, k⟩
abbrev s_law_whole : Stmt := topS 34
abbrev nm_law_whole : List Str := ["thing"]
theorem sc_law_whole : FnScope nm_law_whole ["thing"] (defScope s_law_whole) := ⟨rfl, rfl, rfl, by decide +kernel, rfl, by decide +kernel, by decide +kernel⟩
theorem st_law_whole {v0 : V} : start nm_law_whole [v0] = [some v0] := rfl
section
variable {P : Program} {w : World} {K : PySem.W.Frag} {mg : Str → Option Value} {base : Heap} {c : Cl}
theorem ok_law_whole (D : DefAt K mg "_law_whole" s_law_whole ["thing"]) (B_isinstance : mg "isinstance" = none) (B_int : mg "int" = none) (B_bool : mg "bool" = none) : Has P w K mg base CX0 2 "_law_whole" ["thing"] (sp_law_whole K) := by
  refine D.ok sc_law_whole (by rintro _ _ _ _ ⟨_, rfl, _⟩; rfl) (fun f cdv A outer s H vs Q E hr h => ?_)
  obtain ⟨i, rfl, k⟩ := h
  refine ⟨_, (pss_one (ps_ret (pe_and (pe_callB call_isi (by rfl) B_isinstance (by decide +kernel) (pa_cons (pv 0) (pa_cons (pe_bltn (v := .ty "int") (by rfl) B_int (by decide +kernel) rfl) pa_nil))) (pe_one (pe_not (pe_callB call_isi (by rfl) B_isinstance (by decide +kernel) (pa_cons (pv 0) (pa_cons (pe_bltn (v := .ty "bool") (by rfl) B_bool (by decide +kernel) rfl) pa_nil)))))))), ?_⟩
  rw [st_law_whole]
  try dsimp only [Cx.nox, Cx.wish, Cx.blk, cx_K, cxH_K]
  walk_at "go"
  exact k

end
def sp_divisor (_ : PySem.W.Frag) : Sp := fun vs H Q _ => ∃ (x y : Int), vs = [.int x, .int y] ∧ Q (.int (Int.gcd x y : Int)) H
theorem use_divisor {K : PySem.W.Frag} {H : Hp} {Q : VK} {E : XK} {x y : Int} (q : Q (.int (Int.gcd x y : Int)) H) : sp_divisor K [.int x, .int y] H Q E := ⟨x, y, rfl, q⟩
abbrev s_divisor : Stmt := topS 19
abbrev nm_divisor : List Str := ["one", "other"]
theorem sc_divisor : FnScope nm_divisor ["one", "other"] (defScope s_divisor) := ⟨rfl, rfl, rfl, by decide +kernel, rfl, by decide +kernel, by decide +kernel⟩
theorem st_divisor {v0 v1 : V} : start nm_divisor [v0, v1] = [some v0, some v1] := rfl
section
variable {P : Program} {w : World} {K : PySem.W.Frag} {mg : Str → Option Value} {base : Heap} {c : Cl}
theorem ok_divisor (D : DefAt K mg "divisor" s_divisor ["one", "other"]) (B_abs : mg "abs" = none) : Has P w K mg base CX0 2 "divisor" ["one", "other"] (sp_divisor K) := by
  refine D.ok sc_divisor (by rintro _ _ _ _ ⟨_, _, rfl, _⟩; rfl) (fun f cdv A outer s H vs Q E hr h => ?_)
  obtain ⟨x, y, rfl, q⟩ := h
  refine ⟨_, (pss_cons (ps_set (i := 0) sc_divisor.nd rfl (Or.inl rfl) (pe_callB cl_abs (by rfl) B_abs (by decide +kernel) (pa_cons (pv 0) pa_nil)))
      (pss_cons (ps_set (i := 1) sc_divisor.nd rfl (Or.inl rfl) (pe_callB cl_abs (by rfl) B_abs (by decide +kernel) (pa_cons (pv 1) pa_nil)))
      (pss_cons (ps_while PassesOwn.never (pt_cmpR op_gt (pv 1) pe_int (nomark _)) (pss_one (ps_par (i := 0) (j := 1) (by rfl) sc_divisor.nd rfl rfl (by decide) rfl rfl (pa_cons (pv 1) (pa_cons (pe_op op_mod (pv 0) (pv 1)) pa_nil)) (by rfl))))
      (pss_one (ps_ret (pv 0)))))), ?_⟩
  rw [st_divisor]
  try dsimp only [Cx.nox, Cx.wish, Cx.blk, cx_K, cxH_K]
  walk_at "go"
  refine while_m (fun μ σ H' => H' = H ∧ ∃ (u v : Nat), σ = [some (.int (u : Int)), some (.int (v : Int))] ∧ μ = v ∧ Nat.gcd u v = Int.gcd x y) y.natAbs ⟨rfl, x.natAbs, y.natAbs, rfl, rfl, rfl⟩ ?_
  rintro v σ H1 ⟨eH, u, v', rfl, rfl, e⟩
  walk_at "go"
  refine if_2 (fun hx => ?_) (fun hx => ?_)
  · have hx := of_decide_eq_true hx
    refine r_body (fun σ H' => H' = H ∧ σ = [some (.int (v : Int)), some (.int ((u % v : Nat) : Int))]) ?_ ?_
    · rintro σ H2 ⟨e2, rfl⟩
      exact ⟨u % v, Nat.mod_lt _ (by omega), e2, v, u % v, rfl, rfl, by rw [gcd_step, e]⟩
    walk_at "go"
    exact ⟨eH, rfl⟩
  · have hx := of_decide_eq_false hx
    walk_at "go"
    have ev : v = 0 := by omega
    subst ev
    rw [Nat.gcd_zero_right] at e
    rw [e, eH]
    exact q

end
def muV (x y : Int) : V := if 1 < (Int.gcd x y : Int) then .non else .int ((x - 1) * (y - 1) / 2)
def sp_many_unpaid (_ : PySem.W.Frag) : Sp := fun vs H Q _ => ∃ (x y : Int), vs = [.int x, .int y] ∧ 0 < x ∧ 0 < y ∧ Sz 1600 x ∧ Sz 1600 y ∧ Q (muV x y) H
theorem use_many_unpaid {K : PySem.W.Frag} {H : Hp} {Q : VK} {E : XK} {x y : Int} (hx : 0 < x) (hy : 0 < y) (zx : Sz 1600 x) (zy : Sz 1600 y) (q : Q (muV x y) H) : sp_many_unpaid K [.int x, .int y] H Q E := ⟨x, y, rfl, hx, hy, zx, zy, q⟩
abbrev s_many_unpaid : Stmt := topS 28
abbrev nm_many_unpaid : List Str := ["p", "q"]
theorem sc_many_unpaid : FnScope nm_many_unpaid ["p", "q"] (defScope s_many_unpaid) := ⟨rfl, rfl, rfl, by decide +kernel, rfl, by decide +kernel, by decide +kernel⟩
theorem st_many_unpaid {v0 v1 : V} : start nm_many_unpaid [v0, v1] = [some v0, some v1] := rfl
section
variable {P : Program} {w : World} {K : PySem.W.Frag} {mg : Str → Option Value} {base : Heap} {c : Cl}
theorem ok_many_unpaid (D : DefAt K mg "many_unpaid" s_many_unpaid ["p", "q"]) (G_need_coins : Has P w K mg base CX0 2 "need_coins" ["p", "q"] (sp_need_coins K)) (G_divisor : Has P w K mg base CX0 2 "divisor" ["one", "other"] (sp_divisor K)) : Has P w K mg base CX0 3 "many_unpaid" ["p", "q"] (sp_many_unpaid K) := by
  refine D.ok sc_many_unpaid (by rintro _ _ _ _ ⟨_, _, rfl, _⟩; rfl) (fun f cdv A outer s H vs Q E hr h => ?_)
  obtain ⟨x, y, rfl, hx, hy, zx, zy, q⟩ := h
  refine ⟨_, (pss_cons (ps_expr (pcall G_need_coins (hr.mono (by decide)) (pa_cons (pv 0) (pa_cons (pv 1) pa_nil))))
      (pss_cons (ps_if (pt_cmpR op_gt (pcall G_divisor (hr.mono (by decide)) (pa_cons (pv 0) (pa_cons (pv 1) pa_nil))) pe_int (nomark _)) (pss_one (ps_ret pe_non)) pss_nil)
      (pss_one (ps_ret (pe_op op_fdivW (pe_op op_mulX (pe_op op_sub (pv 0) pe_int) (pe_op op_sub (pv 1) pe_int)) pe_int))))), ?_⟩
  rw [st_many_unpaid]
  try dsimp only [Cx.nox, Cx.wish, Cx.blk, cx_K, cxH_K]
  walk_at "go"
  refine use_need_coins hx hy ?_
  walk_at "go"
  refine use_divisor ?_
  walk_at "go"
  refine if_2 (fun h1 => ?_) (fun h1 => ?_)
  · have h1 := of_decide_eq_true h1
    walk_at "go"
    rw [muV, if_pos h1] at q
    exact q
  · have h1 := of_decide_eq_false h1
    walk_at "go"
    rw [muV, if_neg h1] at q
    exact q

end
def luV (x y : Int) : V := if 1 < (Int.gcd x y : Int) ∨ x = 1 ∨ y = 1 then .non else .int (x * y - x - y)
def sp_last_unpaid (_ : PySem.W.Frag) : Sp := fun vs H Q _ => ∃ (x y : Int), vs = [.int x, .int y] ∧ 0 < x ∧ 0 < y ∧ Sz 1600 x ∧ Sz 1600 y ∧ Q (luV x y) H
theorem use_last_unpaid {K : PySem.W.Frag} {H : Hp} {Q : VK} {E : XK} {x y : Int} (hx : 0 < x) (hy : 0 < y) (zx : Sz 1600 x) (zy : Sz 1600 y) (q : Q (luV x y) H) : sp_last_unpaid K [.int x, .int y] H Q E := ⟨x, y, rfl, hx, hy, zx, zy, q⟩
abbrev s_last_unpaid : Stmt := topS 27
abbrev nm_last_unpaid : List Str := ["p", "q"]
theorem sc_last_unpaid : FnScope nm_last_unpaid ["p", "q"] (defScope s_last_unpaid) := ⟨rfl, rfl, rfl, by decide +kernel, rfl, by decide +kernel, by decide +kernel⟩
theorem st_last_unpaid {v0 v1 : V} : start nm_last_unpaid [v0, v1] = [some v0, some v1] := rfl
section
variable {P : Program} {w : World} {K : PySem.W.Frag} {mg : Str → Option Value} {base : Heap} {c : Cl}
theorem ok_last_unpaid (D : DefAt K mg "last_unpaid" s_last_unpaid ["p", "q"]) (G_need_coins : Has P w K mg base CX0 2 "need_coins" ["p", "q"] (sp_need_coins K)) (G_divisor : Has P w K mg base CX0 2 "divisor" ["one", "other"] (sp_divisor K)) : Has P w K mg base CX0 3 "last_unpaid" ["p", "q"] (sp_last_unpaid K) := by
  refine D.ok sc_last_unpaid (by rintro _ _ _ _ ⟨_, _, rfl, _⟩; rfl) (fun f cdv A outer s H vs Q E hr h => ?_)
  obtain ⟨x, y, rfl, hx, hy, zx, zy, q⟩ := h
  refine ⟨_, (pss_cons (ps_expr (pcall G_need_coins (hr.mono (by decide)) (pa_cons (pv 0) (pa_cons (pv 1) pa_nil))))
      (pss_cons (ps_if (PW.pt (pw_or (pt_cmpR op_gt (pcall G_divisor (hr.mono (by decide)) (pa_cons (pv 0) (pa_cons (pv 1) pa_nil))) pe_int (nomark _)) (pw_or (pt_cmpR op_eq (pv 0) pe_int (nomark _)) (pw_or1 (pt_cmpR op_eq (pv 1) pe_int (nomark _)))))) (pss_one (ps_ret pe_non)) pss_nil)
      (pss_one (ps_ret (pe_op op_sub (pe_op op_sub (pe_op op_mulX (pv 0) (pv 1)) (pv 0)) (pv 1)))))), ?_⟩
  rw [st_last_unpaid]
  try dsimp only [Cx.nox, Cx.wish, Cx.blk, cx_K, cxH_K]
  walk_at "go"
  refine use_need_coins hx hy ?_
  walk_at "go"
  refine use_divisor ?_
  walk_at "go"
  refine if_2 (fun h1 => ?_) (fun h1 => ?_)
  · have h1 := of_decide_eq_true h1
    walk_at "go"
    rw [luV, if_pos (.inl h1)] at q
    exact q
  · have h1 := of_decide_eq_false h1
    walk_at "go"
    refine if_2 (fun h2 => ?_) (fun h2 => ?_)
    · have h2 := of_decide_eq_true h2
      walk_at "go"
      rw [luV, if_pos (.inr (.inl h2))] at q
      exact q
    · have h2 := of_decide_eq_false h2
      walk_at "go"
      refine if_2 (fun h3 => ?_) (fun h3 => ?_)
      · have h3 := of_decide_eq_true h3
        walk_at "go"
        rw [luV, if_pos (.inr (.inr h3))] at q
        exact q
      · have h3 := of_decide_eq_false h3
        walk_at "go"
        rw [luV, if_neg (by rintro (z | z | z) <;> omega)] at q
        exact q

end
def spR_need_coins (_ : PySem.W.Frag) (c : Cl) : Sp := fun vs H _ E => ∃ x y : Int, vs = [.int x, .int y] ∧ (x < 1 ∨ y < 1) ∧ E (.ref c.NoCoins) none H
theorem useR_need_coins {K : PySem.W.Frag} {c : Cl} {H : Hp} {Q : VK} {E : XK} {x y : Int} (h : x < 1 ∨ y < 1) (e : E (.ref c.NoCoins) none H) : spR_need_coins K c [.int x, .int y] H Q E := ⟨x, y, rfl, h, e⟩
section
variable {P : Program} {w : World} {K : PySem.W.Frag} {mg : Str → Option Value} {base : Heap} {c : Cl}
theorem okR_need_coins (D : DefAt K mg "need_coins" s_need_coins ["p", "q"]) (XT0 : XT K mg c) (Y_NoCoins : XD K c.NoCoins) : Has P w K mg base (L2N.CX P w) 2 "need_coins" ["p", "q"] (spR_need_coins K c) := by
  refine D.okR sc_need_coins (by rintro _ _ _ _ ⟨_, _, rfl, _⟩; rfl) (fun f cdv A outer s H vs Q E hr h => ?_)
  obtain ⟨x, y, rfl, h, e⟩ := h
  refine ⟨_, (pss_one (ps_if (PW.pt (pw_or (pt_cmpR op_lt (pv 0) pe_int (nomark _)) (pw_or1 (pt_cmpR op_lt (pv 1) pe_int (nomark _))))) (pss_one (ps_raiseX rfl (L2N.takes_of rfl rfl rfl rfl) (XT0.xr XT0.g_NoCoins XT0.t_NoCoins Y_NoCoins) (by rfl))) pss_nil)), ?_⟩
  rw [st_need_coins]
  try dsimp only [Cx.nox, Cx.wish, Cx.blk, cx_K, cxH_K]
  walk_at "go"
  refine if_2 (fun hx => ?_) (fun hx => ?_)
  · walk_at "go"
    exact e
  · walk_at "go"
    have hx := of_decide_eq_false hx
    refine if_T (decide_eq_true (by omega)) ?_
    walk_at "go"
    exact e

end
def spR_ways (_ : PySem.W.Frag) (c : Cl) : Sp := fun vs H _ E => ∃ x y z : Int, vs = [.int x, .int y, .int z] ∧ (x < 1 ∨ y < 1) ∧ E (.ref c.NoCoins) none H
section
variable {P : Program} {w : World} {K : PySem.W.Frag} {mg : Str → Option Value} {base : Heap} {c : Cl}
theorem okR_ways (D : DefAt K mg "ways" s_ways ["p", "q", "c"]) (G_need_coins : Has P w K mg base CX0 2 "need_coins" ["p", "q"] (sp_need_coins K)) (R_need_coins : Has P w K mg base (L2N.CX P w) 2 "need_coins" ["p", "q"] (spR_need_coins K c)) (G_all_ways : Has P w K mg base CX0 3 "all_ways" ["p", "q", "c"] (sp_all_ways K)) : Has P w K mg base (L2N.CX P w) 4 "ways" ["p", "q", "c"] (spR_ways K c) := by
  refine D.okR sc_ways (by rintro _ _ _ _ ⟨_, _, _, rfl, _⟩; rfl) (fun f cdv A outer s H vs Q E hr h => ?_)
  obtain ⟨x, y, z, rfl, h, e⟩ := h
  refine ⟨_, (pss_cons (ps_expr (pe_ei (pcall G_need_coins (hr.mono (by decide)) (pa_cons (pv 0) (pa_cons (pv 1) pa_nil))) (pcallR R_need_coins (hr.mono (by decide)) (L2N.takes_of rfl rfl rfl rfl) (pa_cons (pv 0) (pa_cons (pv 1) pa_nil)))))
      (pss_one (ps_ret (pe_op op_sub (pcall G_all_ways (hr.mono (by decide)) (pa_cons (pv 0) (pa_cons (pv 1) (pa_cons (pv 2) pa_nil)))) (pcall G_all_ways (hr.mono (by decide)) (pa_cons (pv 0) (pa_cons (pv 1) (pa_cons (pe_op op_sub (pv 2) pe_int) pa_nil)))))))), ?_⟩
  rw [st_ways]
  try dsimp only [Cx.nox, Cx.wish, Cx.blk, cx_K, cxH_K]
  walk_at "go"
  refine r_eiR ?_
  walk_at "go"
  exact useR_need_coins h e

end
def spR_ways_to (_ : PySem.W.Frag) (c : Cl) : Sp := fun vs H _ E => ∃ x y z : Int, vs = [.int x, .int y, .int z] ∧ (x < 1 ∨ y < 1) ∧ E (.ref c.NoCoins) none H
section
variable {P : Program} {w : World} {K : PySem.W.Frag} {mg : Str → Option Value} {base : Heap} {c : Cl}
theorem okR_ways_to (D : DefAt K mg "ways_to" s_ways_to ["p", "q", "c"]) (G_need_coins : Has P w K mg base CX0 2 "need_coins" ["p", "q"] (sp_need_coins K)) (R_need_coins : Has P w K mg base (L2N.CX P w) 2 "need_coins" ["p", "q"] (spR_need_coins K c)) (G_all_ways : Has P w K mg base CX0 3 "all_ways" ["p", "q", "c"] (sp_all_ways K)) : Has P w K mg base (L2N.CX P w) 4 "ways_to" ["p", "q", "c"] (spR_ways_to K c) := by
  refine D.okR sc_ways_to (by rintro _ _ _ _ ⟨_, _, _, rfl, _⟩; rfl) (fun f cdv A outer s H vs Q E hr h => ?_)
  obtain ⟨x, y, z, rfl, h, e⟩ := h
  refine ⟨_, (pss_cons (ps_expr (pe_ei (pcall G_need_coins (hr.mono (by decide)) (pa_cons (pv 0) (pa_cons (pv 1) pa_nil))) (pcallR R_need_coins (hr.mono (by decide)) (L2N.takes_of rfl rfl rfl rfl) (pa_cons (pv 0) (pa_cons (pv 1) pa_nil)))))
      (pss_one (ps_ret (pcall G_all_ways (hr.mono (by decide)) (pa_cons (pv 0) (pa_cons (pv 1) (pa_cons (pv 2) pa_nil))))))), ?_⟩
  rw [st_ways_to]
  try dsimp only [Cx.nox, Cx.wish, Cx.blk, cx_K, cxH_K]
  walk_at "go"
  refine r_eiR ?_
  walk_at "go"
  exact useR_need_coins h e

end
def spR_last_unpaid (_ : PySem.W.Frag) (c : Cl) : Sp := fun vs H _ E => ∃ x y : Int, vs = [.int x, .int y] ∧ (x < 1 ∨ y < 1) ∧ E (.ref c.NoCoins) none H
section
variable {P : Program} {w : World} {K : PySem.W.Frag} {mg : Str → Option Value} {base : Heap} {c : Cl}
theorem okR_last_unpaid (D : DefAt K mg "last_unpaid" s_last_unpaid ["p", "q"]) (G_need_coins : Has P w K mg base CX0 2 "need_coins" ["p", "q"] (sp_need_coins K)) (R_need_coins : Has P w K mg base (L2N.CX P w) 2 "need_coins" ["p", "q"] (spR_need_coins K c)) (G_divisor : Has P w K mg base CX0 2 "divisor" ["one", "other"] (sp_divisor K)) : Has P w K mg base (L2N.CX P w) 3 "last_unpaid" ["p", "q"] (spR_last_unpaid K c) := by
  refine D.okR sc_last_unpaid (by rintro _ _ _ _ ⟨_, _, rfl, _⟩; rfl) (fun f cdv A outer s H vs Q E hr h => ?_)
  obtain ⟨x, y, rfl, h, e⟩ := h
  refine ⟨_, (pss_cons (ps_expr (pe_ei (pcall G_need_coins (hr.mono (by decide)) (pa_cons (pv 0) (pa_cons (pv 1) pa_nil))) (pcallR R_need_coins (hr.mono (by decide)) (L2N.takes_of rfl rfl rfl rfl) (pa_cons (pv 0) (pa_cons (pv 1) pa_nil)))))
      (pss_cons (ps_if (PW.pt (pw_or (pt_cmpR op_gt (pcall G_divisor (hr.mono (by decide)) (pa_cons (pv 0) (pa_cons (pv 1) pa_nil))) pe_int (nomark _)) (pw_or (pt_cmpR op_eq (pv 0) pe_int (nomark _)) (pw_or1 (pt_cmpR op_eq (pv 1) pe_int (nomark _)))))) (pss_one (ps_ret pe_non)) pss_nil)
      (pss_one (ps_ret (pe_op op_sub (pe_op op_sub (pe_op op_mulX (pv 0) (pv 1)) (pv 0)) (pv 1)))))), ?_⟩
  rw [st_last_unpaid]
  try dsimp only [Cx.nox, Cx.wish, Cx.blk, cx_K, cxH_K]
  walk_at "go"
  refine r_eiR ?_
  walk_at "go"
  exact useR_need_coins h e

end
def spR_many_unpaid (_ : PySem.W.Frag) (c : Cl) : Sp := fun vs H _ E => ∃ x y : Int, vs = [.int x, .int y] ∧ (x < 1 ∨ y < 1) ∧ E (.ref c.NoCoins) none H
section
variable {P : Program} {w : World} {K : PySem.W.Frag} {mg : Str → Option Value} {base : Heap} {c : Cl}
theorem okR_many_unpaid (D : DefAt K mg "many_unpaid" s_many_unpaid ["p", "q"]) (G_need_coins : Has P w K mg base CX0 2 "need_coins" ["p", "q"] (sp_need_coins K)) (R_need_coins : Has P w K mg base (L2N.CX P w) 2 "need_coins" ["p", "q"] (spR_need_coins K c)) (G_divisor : Has P w K mg base CX0 2 "divisor" ["one", "other"] (sp_divisor K)) : Has P w K mg base (L2N.CX P w) 3 "many_unpaid" ["p", "q"] (spR_many_unpaid K c) := by
  refine D.okR sc_many_unpaid (by rintro _ _ _ _ ⟨_, _, rfl, _⟩; rfl) (fun f cdv A outer s H vs Q E hr h => ?_)
  obtain ⟨x, y, rfl, h, e⟩ := h
  refine ⟨_, (pss_cons (ps_expr (pe_ei (pcall G_need_coins (hr.mono (by decide)) (pa_cons (pv 0) (pa_cons (pv 1) pa_nil))) (pcallR R_need_coins (hr.mono (by decide)) (L2N.takes_of rfl rfl rfl rfl) (pa_cons (pv 0) (pa_cons (pv 1) pa_nil)))))
      (pss_cons (ps_if (pt_cmpR op_gt (pcall G_divisor (hr.mono (by decide)) (pa_cons (pv 0) (pa_cons (pv 1) pa_nil))) pe_int (nomark _)) (pss_one (ps_ret pe_non)) pss_nil)
      (pss_one (ps_ret (pe_op op_fdivW (pe_op op_mulX (pe_op op_sub (pv 0) pe_int) (pe_op op_sub (pv 1) pe_int)) pe_int))))), ?_⟩
  rw [st_many_unpaid]
  try dsimp only [Cx.nox, Cx.wish, Cx.blk, cx_K, cxH_K]
  walk_at "go"
  refine r_eiR ?_
  walk_at "go"
  exact useR_need_coins h e

end

abbrev s_law_kind_of : Stmt := topS 30
abbrev nm_law_kind_of : List Str := ["e", "some", "words", "one", "word"]
theorem sc_law_kind_of : FnScope nm_law_kind_of ["e"] (defScope s_law_kind_of) := ⟨rfl, rfl, rfl, by decide +kernel, rfl, by decide +kernel, by decide +kernel⟩
theorem st_law_kind_of {v0 : V} : start nm_law_kind_of [v0] = [some v0, none, none, none, none] := rfl
section
variable {P : Program} {w : World} {K : PySem.W.Frag} {mg : Str → Option Value} {base : Heap} {c : Cl}
theorem ok_law_kind_of (D : DefAt K mg "_law_kind_of" s_law_kind_of ["e"]) (B_isinstance : mg "isinstance" = none) (B_ValueError : mg "ValueError" = none) (B_zip : mg "zip" = none) (XT0 : XT K mg c) : HasE P w K mg base 2 "_law_kind_of" ["e"] (KdK K c) := by
  refine D.okE sc_law_kind_of rfl (fun cls z kd f cdv A outer s H Q E p hot zc hr q => ?_)
  obtain ⟨i, D0, nth, rfl, rfl, xd⟩ := kd
  obtain ⟨hi, cT, k0, k1, k2, k3, k4, k5, k6, k7, k8, k9, k10, k11, k12, k13, k14, k15⟩ := XT0.kit nth
  have eC := XT0.exc cT xd
  have ef : ∃ vs, p.2.data = .fields vs := hot.2.imp fun _ h => h.1
  refine ⟨_, (pss_cons (ps_set (i := 1) sc_law_kind_of.nd rfl (Or.inl rfl) (pe_lst (pa_cons (pe_callB (call_isH (p := p) List.mem_cons_self eC zc ef) (by rfl) B_isinstance (by decide +kernel) (pa_cons (pv 0) (pa_cons (pe_glob (v := .ref c.NoBounds) rfl XT0.g_NoBounds rfl) pa_nil))) (pa_cons (pe_callB (call_isH (p := p) List.mem_cons_self eC zc ef) (by rfl) B_isinstance (by decide +kernel) (pa_cons (pv 0) (pa_cons (pe_glob (v := .ref c.NoCoins) rfl XT0.g_NoCoins rfl) pa_nil))) (pa_cons (pe_callB (call_isH (p := p) List.mem_cons_self eC zc ef) (by rfl) B_isinstance (by decide +kernel) (pa_cons (pv 0) (pa_cons (pe_glob (v := .ref c.NoCount) rfl XT0.g_NoCount rfl) pa_nil))) (pa_cons (pe_callB (call_isH (p := p) List.mem_cons_self eC zc ef) (by rfl) B_isinstance (by decide +kernel) (pa_cons (pv 0) (pa_cons (pe_glob (v := .ref c.NoEntry) rfl XT0.g_NoEntry rfl) pa_nil))) pa_nil))))))
      (pss_cons (ps_set (i := 1) sc_law_kind_of.nd rfl (Or.inl rfl) (pe_op op_cat (pv 1) (pe_lst (pa_cons (pe_callB (call_isH (p := p) List.mem_cons_self eC zc ef) (by rfl) B_isinstance (by decide +kernel) (pa_cons (pv 0) (pa_cons (pe_glob (v := .ref c.NoName) rfl XT0.g_NoName rfl) pa_nil))) (pa_cons (pe_callB (call_isH (p := p) List.mem_cons_self eC zc ef) (by rfl) B_isinstance (by decide +kernel) (pa_cons (pv 0) (pa_cons (pe_glob (v := .ref c.NoPartner) rfl XT0.g_NoPartner rfl) pa_nil))) (pa_cons (pe_callB (call_isH (p := p) List.mem_cons_self eC zc ef) (by rfl) B_isinstance (by decide +kernel) (pa_cons (pv 0) (pa_cons (pe_glob (v := .ref c.NoPower) rfl XT0.g_NoPower rfl) pa_nil))) (pa_cons (pe_callB (call_isH (p := p) List.mem_cons_self eC zc ef) (by rfl) B_isinstance (by decide +kernel) (pa_cons (pv 0) (pa_cons (pe_glob (v := .ref c.NoRing) rfl XT0.g_NoRing rfl) pa_nil))) pa_nil)))))))
      (pss_cons (ps_set (i := 1) sc_law_kind_of.nd rfl (Or.inl rfl) (pe_op op_cat (pv 1) (pe_lst (pa_cons (pe_callB (call_isH (p := p) List.mem_cons_self eC zc ef) (by rfl) B_isinstance (by decide +kernel) (pa_cons (pv 0) (pa_cons (pe_glob (v := .ref c.NoRise) rfl XT0.g_NoRise rfl) pa_nil))) (pa_cons (pe_callB (call_isH (p := p) List.mem_cons_self eC zc ef) (by rfl) B_isinstance (by decide +kernel) (pa_cons (pv 0) (pa_cons (pe_glob (v := .ref c.NoRow) rfl XT0.g_NoRow rfl) pa_nil))) (pa_cons (pe_callB (call_isH (p := p) List.mem_cons_self eC zc ef) (by rfl) B_isinstance (by decide +kernel) (pa_cons (pv 0) (pa_cons (pe_glob (v := .ref c.NoStair) rfl XT0.g_NoStair rfl) pa_nil))) (pa_cons (pe_callB (call_isH (p := p) List.mem_cons_self eC zc ef) (by rfl) B_isinstance (by decide +kernel) (pa_cons (pv 0) (pa_cons (pe_glob (v := .ref c.NoSteps) rfl XT0.g_NoSteps rfl) pa_nil))) pa_nil)))))))
      (pss_cons (ps_set (i := 1) sc_law_kind_of.nd rfl (Or.inl rfl) (pe_op op_cat (pv 1) (pe_lst (pa_cons (pe_callB (call_isH (p := p) List.mem_cons_self eC zc ef) (by rfl) B_isinstance (by decide +kernel) (pa_cons (pv 0) (pa_cons (pe_glob (v := .ref c.NoText) rfl XT0.g_NoText rfl) pa_nil))) (pa_cons (pe_callB (call_isH (p := p) List.mem_cons_self eC zc ef) (by rfl) B_isinstance (by decide +kernel) (pa_cons (pv 0) (pa_cons (pe_glob (v := .ref c.NoWalker) rfl XT0.g_NoWalker rfl) pa_nil))) (pa_cons (pe_callB (call_isH (p := p) List.mem_cons_self eC zc ef) (by rfl) B_isinstance (by decide +kernel) (pa_cons (pv 0) (pa_cons (pe_glob (v := .ref c.NothingLeft) rfl XT0.g_NothingLeft rfl) pa_nil))) (pa_cons (pe_callB (call_isH (p := p) List.mem_cons_self eC zc ef) (by rfl) B_isinstance (by decide +kernel) (pa_cons (pv 0) (pa_cons (pe_glob (v := .ref c.TooMany) rfl XT0.g_TooMany rfl) pa_nil))) pa_nil)))))))
      (pss_cons (ps_expr (pe_bm PySem.F.plainAttrs_list PySem.F.slot_list_append PySem.F.type_list_append mt_append (pv 1) (pa_cons (pe_callB (call_isH (p := p) List.mem_cons_self eC zc ef) (by rfl) B_isinstance (by decide +kernel) (pa_cons (pv 0) (pa_cons (pe_bltn (v := .ty "ValueError") (by rfl) B_ValueError (by decide +kernel) rfl) pa_nil))) pa_nil)))
      (pss_cons (ps_set (i := 2) sc_law_kind_of.nd rfl (Or.inl rfl) (pe_lst (pa_cons pe_str (pa_cons pe_str (pa_cons pe_str (pa_cons pe_str (pa_cons pe_str (pa_cons pe_str (pa_cons pe_str (pa_cons pe_str (pa_cons pe_str pa_nil)))))))))))
      (pss_cons (ps_set (i := 2) sc_law_kind_of.nd rfl (Or.inl rfl) (pe_op op_cat (pv 2) (pe_lst (pa_cons pe_str (pa_cons pe_str (pa_cons pe_str (pa_cons pe_str (pa_cons pe_str (pa_cons pe_str (pa_cons pe_str (pa_cons pe_str pa_nil)))))))))))
      (pss_one (ps_ret (pe_bm PySem.F.plainAttrs_str PySem.F.slot_str_join PySem.F.type_str_join mt_joinR pe_str (pa_cons (pe_lcH (hotc_of hot (by rfl) (by exact List.mem_cons_self)) sc_law_kind_of.nd (pi_zipH (by rfl) B_zip (pa_cons (pv 2) (pa_cons (pv 1) pa_nil))) (blkOk_by (own := [("word", 4), ("one", 3)]) (N := nm_law_kind_of) (sc := defScope s_law_kind_of) (by decide +kernel)) (fun _ _ _ _ _ => (pg_tupHK (K := K) (n := 2) (hotc_of hot (by rfl) (by exact List.mem_cons_self)) (pgs_cons (pg_name (i := 4) sc_law_kind_of.nd rfl (Or.inl rfl)) (pgs_cons (pg_name (i := 3) sc_law_kind_of.nd rfl (Or.inl rfl)) pgs_nil)))) (fun _ _ _ _ _ => pts_one (pt_val (pv 3))) (fun _ _ _ _ _ => (pv 4))) pa_nil))))))))))), ?_⟩
  rw [st_law_kind_of]
  try dsimp only [Cx.nox, Cx.wish, Cx.blk, cx_K, cxH_K]
  walk_at "go"
  rename_i l1 H1 f1 e1 a1 l2 H2 f2 e2 a2 l3 H3 f3 e3 a3 l4 H4 f4 e4 a4 l5 H5 f5 e5 a5 l6 H6 f6 e6 a6 l7 H7 f7 e7 a7
  refine r_app a7 (Nat.le_of_ble_eq_true rfl) fun H8 k8' a8 => ?_
  have e8 : Ex H H8 := ((((((e1.trans e2).trans e3).trans e4).trans e5).trans e6)).kpd (free_back ((((((e1.trans e2).trans e3).trans e4).trans e5).trans e6)) f7) (e7.kp.trans k8')
  walk_at "go"
  rename_i m1 H9 g1 o1 b1 m2 H10 g2 o2 b2 m3 H11 g3 o3 b3
  have z8 := ((o1.trans o2).trans o3).at a8
  refine ⟨m3, l7, _, _, rfl, SqL.of b3, SqL.of z8, ?_⟩
  refine lc_zipF (ws := kindW) (bs := kindB i) (SqL.of b3) (SqL.of z8) rfl (by decide) (by intros; rfl) ?_ ?_ ?_
  · intro w f H' e' Q' q'
    walk_at "go"
    exact q' _ Ex.refl
  · intro w f H' e' Q' q'
    walk_at "go"
    exact q' _ Ex.refl
  · intro r H12 f12 e12 h12
    walk_at "go"
    refine r_join (SqL.of h12) (kind_len i hi) ?_
    rw [kind_txt i hi]
    walk_at "go"
    exact q _ (e8.trans (((o1.trans o2).trans o3).trans e12))

end
def sp_law_kind (_ : PySem.W.Frag) : Sp := fun vs H Q _ => ∃ (door x y : Int), vs = [.int door, .int x, .int y] ∧ (x < 1 ∨ y < 1) ∧ ∀ H', Ex H H' → Q (.str "NoCoins+") H'
abbrev s_law_kind : Stmt := topS 35
abbrev nm_law_kind : List Str := ["door", "p", "q", "kind", "e"]
theorem sc_law_kind : FnScope nm_law_kind ["door", "p", "q"] (defScope s_law_kind) := ⟨rfl, rfl, rfl, by decide +kernel, rfl, by decide +kernel, by decide +kernel⟩
theorem st_law_kind {v0 v1 v2 : V} : start nm_law_kind [v0, v1, v2] = [some v0, some v1, some v2, none, none] := rfl
section
variable {P : Program} {w : World} {K : PySem.W.Frag} {mg : Str → Option Value} {base : Heap} {c : Cl}
theorem ok_law_kind (D : DefAt K mg "_law_kind" s_law_kind ["door", "p", "q"]) (XT0 : XT K mg c) (Y_NoCoins : XD K c.NoCoins) (G_ways : Has P w K mg base CX0 4 "ways" ["p", "q", "c"] (sp_ways K)) (R_ways : Has P w K mg base (L2N.CX P w) 4 "ways" ["p", "q", "c"] (spR_ways K c)) (G_ways_to : Has P w K mg base CX0 4 "ways_to" ["p", "q", "c"] (sp_ways_to K)) (R_ways_to : Has P w K mg base (L2N.CX P w) 4 "ways_to" ["p", "q", "c"] (spR_ways_to K c)) (G_last_unpaid : Has P w K mg base CX0 3 "last_unpaid" ["p", "q"] (sp_last_unpaid K)) (R_last_unpaid : Has P w K mg base (L2N.CX P w) 3 "last_unpaid" ["p", "q"] (spR_last_unpaid K c)) (G_many_unpaid : Has P w K mg base CX0 3 "many_unpaid" ["p", "q"] (sp_many_unpaid K)) (R_many_unpaid : Has P w K mg base (L2N.CX P w) 3 "many_unpaid" ["p", "q"] (spR_many_unpaid K c)) (E__law_kind_of : HasE P w K mg base 2 "_law_kind_of" ["e"] (KdK K c)) : Has P w K mg base CX0 5 "_law_kind" ["door", "p", "q"] (sp_law_kind K) := by
  refine D.ok sc_law_kind (by rintro _ _ _ _ ⟨_, _, _, rfl, _⟩; rfl) (fun f cdv A outer s H vs Q E hr h => ?_)
  obtain ⟨door, x, y, rfl, bad, q⟩ := h
  refine ⟨_, (pss_cons (ps_set (i := 3) sc_law_kind.nd rfl (Or.inl rfl) pe_str)
      (pss_cons (ps_tryX (i := 4) rfl rfl sc_law_kind.nd rfl rfl (by rfl) (by decide) XT0.gS (fun W pn xe tk => (pss_one (ps_if (pt_cmpR op_eq (pv 0) pe_int (nomark _)) (pss_one (ps_expr (pe_ei (pcall G_ways (hr.mono (by decide)) (pa_cons (pv 1) (pa_cons (pv 2) (pa_cons pe_int pa_nil)))) (pcallR R_ways (hr.mono (by decide)) tk (pa_cons (pv 1) (pa_cons (pv 2) (pa_cons pe_int pa_nil))))))) (pss_one (ps_if (pt_cmpR op_eq (pv 0) pe_int (nomark _)) (pss_one (ps_expr (pe_ei (pcall G_ways_to (hr.mono (by decide)) (pa_cons (pv 1) (pa_cons (pv 2) (pa_cons (pe_un un_neg pe_int) pa_nil)))) (pcallR R_ways_to (hr.mono (by decide)) tk (pa_cons (pv 1) (pa_cons (pv 2) (pa_cons (pe_un un_neg pe_int) pa_nil))))))) (pss_one (ps_if (pt_cmpR op_eq (pv 0) pe_int (nomark _)) (pss_one (ps_expr (pe_ei (pcall G_last_unpaid (hr.mono (by decide)) (pa_cons (pv 1) (pa_cons (pv 2) pa_nil))) (pcallR R_last_unpaid (hr.mono (by decide)) tk (pa_cons (pv 1) (pa_cons (pv 2) pa_nil)))))) (pss_one (ps_expr (pe_ei (pcall G_many_unpaid (hr.mono (by decide)) (pa_cons (pv 1) (pa_cons (pv 2) pa_nil))) (pcallR R_many_unpaid (hr.mono (by decide)) tk (pa_cons (pv 1) (pa_cons (pv 2) pa_nil))))))))))))) (fun a oe cls d pn hz hf => (pss_one (ps_set (i := 3) sc_law_kind.nd rfl (Or.inl rfl) (pcallE E__law_kind_of (hr.mono (by decide)) hz hf (pa_cons (pv 4) pa_nil))))))
      (pss_one (ps_ret (pv 3))))), ?_⟩
  rw [st_law_kind]
  try dsimp only [Cx.nox, Cx.wish, Cx.blk, cx_K, cxH_K]
  walk_at "go"
  refine if_2 (fun h0 => ?_) (fun h0 => ?_)
  · walk_at "go"
    refine r_eiR ?_
    walk_at "go"
    refine ⟨x, y, _, rfl, bad, w_as (XT0.xr XT0.g_NoCoins XT0.t_NoCoins Y_NoCoins).em fun x hx => ?_⟩
    walk_at "go"
    refine ⟨rfl, rfl, _, kd_mk 1 Y_NoCoins rfl, fun H2 e2 => ?_⟩
    walk_at "go"
    exact q _ e2
  · walk_at "go"
    refine if_2 (fun h1 => ?_) (fun h1 => ?_)
    · walk_at "go"
      refine r_eiR ?_
      walk_at "go"
      refine ⟨x, y, _, rfl, bad, w_as (XT0.xr XT0.g_NoCoins XT0.t_NoCoins Y_NoCoins).em fun x hx => ?_⟩
      walk_at "go"
      refine ⟨rfl, rfl, _, kd_mk 1 Y_NoCoins rfl, fun H2 e2 => ?_⟩
      walk_at "go"
      exact q _ e2
    · walk_at "go"
      refine if_2 (fun h2 => ?_) (fun h2 => ?_)
      · walk_at "go"
        refine r_eiR ?_
        walk_at "go"
        refine ⟨x, y, rfl, bad, w_as (XT0.xr XT0.g_NoCoins XT0.t_NoCoins Y_NoCoins).em fun x hx => ?_⟩
        walk_at "go"
        refine ⟨rfl, rfl, _, kd_mk 1 Y_NoCoins rfl, fun H2 e2 => ?_⟩
        walk_at "go"
        exact q _ e2
      · walk_at "go"
        refine r_eiR ?_
        walk_at "go"
        refine ⟨x, y, rfl, bad, w_as (XT0.xr XT0.g_NoCoins XT0.t_NoCoins Y_NoCoins).em fun x hx => ?_⟩
        walk_at "go"
        refine ⟨rfl, rfl, _, kd_mk 1 Y_NoCoins rfl, fun H2 e2 => ?_⟩
        walk_at "go"
        exact q _ e2

end
--@ needs Coins
/-! two coins, counted pair by pair -/
def pk (p q : Int) (i j : Nat) (c : Nat) : Int := if p * (i : Int) + q * (j : Int) = (c : Int) then 1 else 0
/-- behind i whole rows, and j of the next -/
def cf (p q : Int) (Y i j : Nat) (c : Nat) : Int := sm (fun x => sm (fun y => pk p q x y c) Y) i + sm (fun y => pk p q i y c) j
theorem cf_0 (p q : Int) (Y c : Nat) : cf p q Y 0 0 c = 0 := rfl
theorem cf_j (p q : Int) (Y i j c : Nat) : cf p q Y i (j + 1) c = cf p q Y i j c + pk p q i j c := by
  unfold cf
  show _ + (_ + _) = _
  rw [Int.add_assoc]
theorem cf_i (p q : Int) (Y i c : Nat) : cf p q Y i Y c = cf p q Y (i + 1) 0 c := by
  unfold cf
  show _ = (_ + _) + 0
  rw [Int.add_zero]
theorem sm_pad {f : Nat → Int} {n m : Nat} (h : n ≤ m) (z : ∀ i, n ≤ i → f i = 0) : sm f m = sm f n := by
  obtain ⟨k, rfl⟩ := Nat.exists_eq_add_of_le h
  rw [sm_add, sm_zero (f := fun i => f (n + i)) (fun i _ => z _ (by omega)), Int.add_zero]
theorem wy_wide {p q c : Int} (hp : 0 < p) (hq : 0 < q) {N : Nat} (c0 : -1 ≤ c) (h : c < N) : wy p q c = sm (fun i => sm (fun j => if p * (i : Int) + q * (j : Int) ≤ c then 1 else 0) N) N := by
  have k1 : ∀ i : Nat, (i : Int) ≤ p * (i : Int) := fun i => by
    have := Int.mul_le_mul_of_nonneg_right (show 1 ≤ p by omega) (show 0 ≤ (i : Int) by omega)
    omega
  have k2 : ∀ i : Nat, (i : Int) ≤ q * (i : Int) := fun i => by
    have := Int.mul_le_mul_of_nonneg_right (show 1 ≤ q by omega) (show 0 ≤ (i : Int) by omega)
    omega
  by_cases hc : c < 0
  · rw [wy_neg hc]
    symm
    refine sm_zero fun i _ => sm_zero fun j _ => ?_
    have := k1 i
    have := k2 j
    rw [if_neg (by omega)]
  · rw [wy_pairs hp hq (by omega), sm_pad (n := (c + 1).toNat) (m := N) (by omega) (fun i hi => ?_)]
    · refine sm_congr fun i _ => ?_
      rw [sm_pad (n := (c + 1).toNat) (m := N) (by omega) (fun j hj => ?_)]
      have := k1 i
      have := k2 j
      rw [if_neg (by omega)]
    · refine sm_zero fun j _ => ?_
      have := k1 i
      have := k2 j
      rw [if_neg (by omega)]
/-- the pairs of one number -/
theorem cf_wy {p q : Int} (hp : 0 < p) (hq : 0 < q) {far : Int} {c : Nat} (h : (c : Int) < far) : cf p q (far / q + 1).toNat (far / p + 1).toNat 0 c = wy p q c - wy p q ((c : Int) - 1) := by
  have d1 : 0 ≤ far / p := Int.ediv_nonneg (by omega) (by omega)
  have d2 : 0 ≤ far / q := Int.ediv_nonneg (by omega) (by omega)
  have l1 : far / p ≤ far := Int.ediv_le_self _ (by omega)
  have l2 : far / q ≤ far := Int.ediv_le_self _ (by omega)
  have k1 : ∀ i : Nat, (i : Int) ≤ p * (i : Int) := fun i => by
    have := Int.mul_le_mul_of_nonneg_right (show 1 ≤ p by omega) (show 0 ≤ (i : Int) by omega)
    omega
  have k2 : ∀ i : Nat, (i : Int) ≤ q * (i : Int) := fun i => by
    have := Int.mul_le_mul_of_nonneg_right (show 1 ≤ q by omega) (show 0 ≤ (i : Int) by omega)
    omega
  have big1 : ∀ i : Nat, (far / p + 1).toNat ≤ i → far < p * (i : Int) := fun i hi => by
    have : far / p < (i : Int) := by omega
    have := (Int.ediv_lt_iff_lt_mul hp).mp this
    rw [Int.mul_comm] at this
    exact this
  have big2 : ∀ i : Nat, (far / q + 1).toNat ≤ i → far < q * (i : Int) := fun i hi => by
    have : far / q < (i : Int) := by omega
    have := (Int.ediv_lt_iff_lt_mul hq).mp this
    rw [Int.mul_comm] at this
    exact this
  have e : wy p q c = wy p q ((c : Int) - 1) + cf p q (far / q + 1).toNat (far / p + 1).toNat 0 c := by
    rw [wy_wide hp hq (N := far.toNat + 1) (c := (c : Int)) (by omega) (by omega), wy_wide hp hq (N := far.toNat + 1) (c := (c : Int) - 1) (by omega) (by omega)]
    unfold cf
    show _ = _ + (_ + 0)
    rw [Int.add_zero, ← sm_pad (f := fun x => sm (fun y => pk p q x y c) (far / q + 1).toNat) (n := (far / p + 1).toNat) (m := far.toNat + 1) (by omega) (fun i hi => ?_), ← sm_plus]
    · refine sm_congr fun i _ => ?_
      rw [← sm_pad (f := fun y => pk p q i y c) (n := (far / q + 1).toNat) (m := far.toNat + 1) (by omega) (fun j hj => ?_), ← sm_plus]
      · refine sm_congr fun j _ => ?_
        unfold pk
        generalize p * (i : Int) + q * (j : Int) = z
        by_cases h1 : z ≤ c - 1
        · rw [if_pos (by omega), if_pos (by omega), if_neg (by omega)]
          rfl
        · rw [if_neg h1]
          by_cases h2 : z = c
          · rw [if_pos (by omega), if_pos h2]
            rfl
          · rw [if_neg (by omega), if_neg h2]
            rfl
      · have := big2 j hj
        have := k1 i
        unfold pk
        rw [if_neg (by omega)]
    · refine sm_zero fun j _ => ?_
      have := big1 i hi
      have := k2 j
      unfold pk
      rw [if_neg (by omega)]
  omega
theorem wy_tele (p q : Int) : ∀ n : Nat, sm (fun c => wy p q (c : Int) - wy p q ((c : Int) - 1)) n = wy p q ((n : Int) - 1)
  | 0 => by
    show (0 : Int) = _
    rw [wy_neg (by omega)]
  | n + 1 => by
    show sm _ n + (wy p q (n : Int) - wy p q ((n : Int) - 1)) = _
    rw [wy_tele p q n, show ((n + 1 : Nat) : Int) - 1 = (n : Int) by omega]
    omega
/-- a list of a word on places, one place more -/
theorem set_map {α : Type} {F k : Nat} {g g' : Nat → α} (h : ∀ c, c < F → c ≠ k → g' c = g c) : ((List.range F).map g).set k (g' k) = (List.range F).map g' := by
  refine List.ext_getElem? fun i => ?_
  rw [List.getElem?_set]
  by_cases hi : k = i
  · subst hi
    rw [if_pos rfl, List.length_map, List.length_range]
    by_cases hk : k < F
    · rw [if_pos hk, List.getElem?_map, List.getElem?_range hk]
      rfl
    · rw [if_neg hk, List.getElem?_map, List.getElem?_eq_none (by rw [List.length_range]; omega)]
      rfl
  · rw [if_neg hi, List.getElem?_map, List.getElem?_map]
    by_cases hk : i < F
    · rw [List.getElem?_range hk]
      show some _ = some _
      rw [h i hk (by omega)]
    · rw [List.getElem?_eq_none (by rw [List.length_range]; omega)]
      rfl
theorem map_same {α : Type} {F : Nat} {g g' : Nat → α} (h : ∀ c, c < F → g' c = g c) : (List.range F).map g = (List.range F).map g' := by
  refine List.map_congr_left fun c hc => (h c (List.mem_range.mp hc)).symm
theorem sum_range (g : Nat → Int) : ∀ n : Nat, ((List.range n).map g).sum = sm g n
  | 0 => rfl
  | n + 1 => by
    rw [List.range_succ, List.map_append, List.sum_append, sum_range g n]
    show _ + (g n + 0) = sm g n + g n
    rw [Int.add_zero]
theorem len_filter_sm (P : Nat → Bool) : ∀ n : Nat, (((List.range n).filter P).length : Int) = sm (fun i => if P i then 1 else 0) n
  | 0 => rfl
  | n + 1 => by
    rw [List.range_succ, List.filter_append, List.length_append]
    show _ = sm _ n + (if P n then 1 else 0)
    rw [← len_filter_sm P n, List.filter_cons]
    by_cases h : P n = true
    · rw [if_pos h, if_pos h]
      simp
    · rw [if_neg h, if_neg h]
      simp
theorem wy_le1 {p q c : Int} (hp : 0 < p) (hq : 0 < q) (g : Int.gcd p q = 1) (h0 : 0 ≤ c) (h : c < p * q) : 0 ≤ wy p q c - wy p q (c - 1) ∧ wy p q c - wy p q (c - 1) ≤ 1 := by
  rw [wy_one hp hq h0]
  have d0 : 0 ≤ c / p := Int.ediv_nonneg h0 (by omega)
  have : c / p < q := (Int.ediv_lt_iff_lt_mul hp).mpr (by rw [Int.mul_comm]; exact h)
  exact ⟨sm_nonneg fun i _ => dv_nonneg _ _, dv_le hq (gcd_neg' g) c _ (by omega)⟩
/-- the numbers that can't be paid -/
def lk (p q : Int) (far : Int) : List Nat := (List.range far.toNat).filter fun c => decide (wy p q (c : Int) - wy p q ((c : Int) - 1) = 0)
theorem lk_mem {p q far : Int} (hp : 0 < p) (hq : 0 < q) (g : Int.gcd p q = 1) {c : Nat} (h : c ∈ lk p q far) : (c : Int) ≤ p * q - p - q := by
  unfold lk at h
  have h := (List.mem_filter.mp h).2
  have h := of_decide_eq_true h
  by_cases z : (c : Int) ≤ p * q - p - q
  · exact z
  · exact absurd h (wy_next hp hq g (by omega) (by omega))
theorem lk_last {p q far : Int} (hp : 2 ≤ p) (hq : 2 ≤ q) (g : Int.gcd p q = 1) (hf : p * q ≤ far) : 0 ≤ p * q - p - q ∧ (p * q - p - q).toNat ∈ lk p q far := by
  have c0 : 0 ≤ p * q - p - q := by
    have := Int.mul_nonneg (show 0 ≤ p - 2 by omega) (show 0 ≤ q - 2 by omega)
    grind
  refine ⟨c0, List.mem_filter.mpr ⟨List.mem_range.mpr (by omega), decide_eq_true ?_⟩⟩
  rw [show (((p * q - p - q).toNat : Nat) : Int) = p * q - p - q by omega]
  exact wy_last hp hq g
theorem lk_nil {p q far : Int} (hp : 0 < p) (hq : 0 < q) (g : Int.gcd p q = 1) (o : p = 1 ∨ q = 1) : lk p q far = [] := by
  refine List.eq_nil_iff_forall_not_mem.mpr fun c hc => ?_
  have := lk_mem hp hq g hc
  rcases o with rfl | rfl <;> omega
theorem lk_len {p q far : Int} (hp : 0 < p) (hq : 0 < q) (g : Int.gcd p q = 1) (hf : p * q ≤ far) : ((lk p q far).length : Int) = (p - 1) * (q - 1) / 2 := by
  unfold lk
  have pq : 0 < p * q := Int.mul_pos hp hq
  rw [len_filter_sm, sm_pad (n := (p * q).toNat) (by omega) (fun i hi => ?_), sm_congr (g := fun c => 1 + (-1) * (wy p q (c : Int) - wy p q ((c : Int) - 1))) (fun c hc => ?_), sm_plus, sm_mul, sm_const, wy_tele]
  · rw [show (((p * q).toNat : Nat) : Int) = p * q by omega, wy_all hp hq g]
    omega
  · have h := wy_le1 hp hq g (c := (c : Int)) (by omega) (by omega)
    generalize wy p q (c : Int) - wy p q ((c : Int) - 1) = z at *
    obtain rfl | rfl : z = 0 ∨ z = 1 := by omega
    · rfl
    · rfl
  · rw [decide_eq_false (wy_next hp hq g (by omega) (by omega))]
    rfl
theorem rep_0 {α : Type} (x : α) (F : Nat) : (List.replicate F [x]).flatten = (List.range F).map fun _ => x := by
  induction F with
  | zero => rfl
  | succ n ih => rw [List.replicate_succ', List.flatten_append, ih, List.range_succ, List.map_append]; rfl
theorem take_range {α : Type} (g : Nat → α) {n F : Nat} (h : n ≤ F) : ((List.range F).map g).take n = (List.range n).map g := by
  rw [← List.map_take, List.take_range, Nat.min_eq_left h]

--@ needs Pay
theorem ixN_of {n k : Nat} {i : Int} (e : i = k) (h : k < n) : ixN n i = some k := by
  subst e
  unfold ixN
  rw [if_pos (by omega), if_pos (by omega), Int.toNat_natCast]
theorem at_map {F k : Nat} {i : Int} {g : Nat → V} (h : k < F) (e : i = k) : atI ((List.range F).map g) i = some (g k) := by
  unfold atI
  rw [List.length_map, List.length_range, ixN_of e h]
  show ((List.range F).map g)[k]? = _
  rw [List.getElem?_map, List.getElem?_range h]
  rfl
theorem cut_to (xs : List V) {i : Int} (h0 : 0 ≤ i) (h : i ≤ xs.length) : cutV xs none (some i) = xs.take i.toNat := by
  unfold cutV
  have e1 : HT.sIx xs.length 0 none = 0 := rfl
  have e2 : HT.sIx xs.length xs.length (some i) = i.toNat := by
    show (if i < 0 then (i + (xs.length : Int)).toNat else min i.toNat xs.length) = _
    rw [if_neg (by omega)]
    omega
  rw [e1, e2]
  rfl
theorem get_ints {cs : List Int} {i : Nat} {x : V} (h : (cs.map V.int)[i]? = some x) : ∃ c ∈ cs, x = .int c := by
  rw [List.getElem?_map] at h
  cases e : cs[i]? with
  | none => rw [e] at h; cases h
  | some c =>
    rw [e] at h
    exact ⟨c, List.mem_of_getElem? e, (Option.some.inj h).symm⟩
theorem eqv_none : PyData.eqv .none .none = true := rfl
theorem eqv_int (i : Int) : PyData.eqv (.int i) (.int i) = true := by
  show (i == i) = true
  exact beq_self_eq_true i
theorem eqv_two {d e : PyData} (hd : PyData.eqv d d = true) (he : PyData.eqv e e = true) : PyData.eqv (.tuple [d, e]) (.tuple [d, e]) = true := by
  show (PyData.eqv d d && (PyData.eqv e e && true)) = true
  rw [hd, he]
  rfl
theorem r_neX2 {K : PySem.W.Frag} {H : Hp} {Q : VK} {p q : Addr} {x y : V} (hx : x = .non ∨ ∃ i, x = .int i) (hy : y = .non ∨ ∃ i, y = .int i) (h : H p = some (.tup [x, y])) (h' : H q = some (.tup [x, y])) (k : Q (.bl false) H) : rNeD K (.ref p) (.ref q) H Q := by
  rcases hx with rfl | ⟨i, rfl⟩ <;> rcases hy with rfl | ⟨j, rfl⟩
  · exact r_neD (.tup (SqT.of h) (.cons .non (.cons .non .nil))) (.tup (SqT.of h') (.cons .non (.cons .non .nil))) rfl rfl (by rw [eqv_two eqv_none eqv_none]; exact k)
  · exact r_neD (.tup (SqT.of h) (.cons .non (.cons (.int j) .nil))) (.tup (SqT.of h') (.cons .non (.cons (.int j) .nil))) rfl rfl (by rw [eqv_two eqv_none (eqv_int j)]; exact k)
  · exact r_neD (.tup (SqT.of h) (.cons (.int i) (.cons .non .nil))) (.tup (SqT.of h') (.cons (.int i) (.cons .non .nil))) rfl rfl (by rw [eqv_two (eqv_int i) eqv_none]; exact k)
  · exact r_neD (.tup (SqT.of h) (.cons (.int i) (.cons (.int j) .nil))) (.tup (SqT.of h') (.cons (.int i) (.cons (.int j) .nil))) rfl rfl (by rw [eqv_two (eqv_int i) (eqv_int j)]; exact k)
theorem eqv_str (z : Str) : PyData.eqv (.str z) (.str z) = true := by
  show (z == z) = true
  exact beq_self_eq_true z
theorem r_neS4 {K : PySem.W.Frag} {H : Hp} {Q : VK} {p q : Addr} {z : Str} (h : H p = some (.lst [.str z, .str z, .str z, .str z])) (h' : H q = some (.lst [.str z, .str z, .str z, .str z])) (hs : SeqAt.shaped (.list [.str z, .str z, .str z, .str z]) = true) (k : Q (.bl false) H) : rNeD K (.ref p) (.ref q) H Q := by
  have e : PyData.eqv (.list [.str z, .str z, .str z, .str z]) (.list [.str z, .str z, .str z, .str z]) = true := by
    show (PyData.eqv (.str z) (.str z) && (PyData.eqv (.str z) (.str z) && (PyData.eqv (.str z) (.str z) && (PyData.eqv (.str z) (.str z) && true)))) = true
    rw [eqv_str]
    rfl
  exact r_neD (.lst (SqL.of h) (.cons (.str z) (.cons (.str z) (.cons (.str z) (.cons (.str z) .nil))))) (.lst (SqL.of h') (.cons (.str z) (.cons (.str z) (.cons (.str z) (.cons (.str z) .nil))))) hs hs (by rw [e]; exact k)
theorem lk_max {p q far mx : Int} (hp : 2 ≤ p) (hq : 2 ≤ q) (g : Int.gcd p q = 1) (hf : p * q ≤ far) (hm : mx ∈ ((lk p q far).map fun (i : Nat) => (i : Int)) ++ [-1]) (hall : ∀ y, y ∈ ((lk p q far).map fun (i : Nat) => (i : Int)) ++ [-1] → y ≤ mx) : mx = p * q - p - q := by
  obtain ⟨c0, hl⟩ := lk_last hp hq g hf
  have h1 := hall (p * q - p - q) (List.mem_append.mpr (.inl (List.mem_map.mpr ⟨_, hl, by omega⟩)))
  rcases List.mem_append.mp hm with h | h
  · obtain ⟨c, hc, rfl⟩ := List.mem_map.mp h
    have := lk_mem (by omega) (by omega) g hc
    omega
  · have := List.mem_singleton.mp h
    omega

def sp_law (K : PySem.W.Frag) : Sp := fun vs H Q _ => ∃ (a : Addr) (ns : List Int), vs = [.ref a] ∧ SqL K H a (ns.map V.int) ∧ ns.length ≤ 63 ∧ ∀ H', Q (.bl true) H'
abbrev s_law : Stmt := topS 36
abbrev nm_law : List Str := ["script", "k", "draws", "p", "q", "far", "counts", "x", "y", "c", "due", "lacks", "odd", "one", "other", "j", "door"]
theorem sc_law : FnScope nm_law ["script"] (defScope s_law) := ⟨rfl, rfl, rfl, by decide +kernel, rfl, by decide +kernel, by decide +kernel⟩
theorem st_law {v0 : V} : start nm_law [v0] = [some v0, none, none, none, none, none, none, none, none, none, none, none, none, none, none, none, none] := rfl
section
variable {P : Program} {w : World} {K : PySem.W.Frag} {mg : Str → Option Value} {base : Heap} {c : Cl}
theorem ok_law {f : Addr} {fd : FuncData} (F : Fun K "law" "law" s_law f fd) (B_range : mg "range" = none) (B_max : mg "max" = none) (B_min : mg "min" = none) (B_len : mg "len" = none) (B_int : mg "int" = none) (B_sum : mg "sum" = none) (G__law_draws : Has P w K mg base CX0 2 "_law_draws" ["script", "k"] (sp_law_draws K)) (G__law_draw : Has P w K mg base CX0 2 "_law_draw" ["draws", "many"] (sp_law_draw K)) (G_ways_to : Has P w K mg base CX0 4 "ways_to" ["p", "q", "c"] (sp_ways_to K)) (G_ways : Has P w K mg base CX0 4 "ways" ["p", "q", "c"] (sp_ways K)) (G__law_common : Has P w K mg base CX0 2 "_law_common" ["one", "other"] (sp_law_common K)) (G__law_whole : Has P w K mg base CX0 2 "_law_whole" ["thing"] (sp_law_whole K)) (G_many_unpaid : Has P w K mg base CX0 3 "many_unpaid" ["p", "q"] (sp_many_unpaid K)) (G_last_unpaid : Has P w K mg base CX0 3 "last_unpaid" ["p", "q"] (sp_last_unpaid K)) (G__law_kind : Has P w K mg base CX0 5 "_law_kind" ["door", "p", "q"] (sp_law_kind K)) : FnOk P w K mg base CX0 6 f fd ["script"] (sp_law K) := by
  refine F.ok sc_law (by rintro _ _ _ _ ⟨_, _, rfl, _⟩; rfl) (fun cdv A outer s H vs Q E hr h => ?_)
  obtain ⟨a, ns, rfl, hS, hlen, q⟩ := h
  refine ⟨_, (pss_cons (ps_for PassesOwn.never rfl (pi_range1 rfl B_range (pa_cons (pe_callB (cl_max2 rfl) (by rfl) B_max (by decide +kernel) (pa_cons pe_int (pa_cons (pe_callB (cl_min2 rfl) (by rfl) B_min (by decide +kernel) (pa_cons pe_int (pa_cons (pe_callB cl_len (by rfl) B_len (by decide +kernel) (pa_cons (pv 0) pa_nil)) pa_nil))) pa_nil))) pa_nil)) (pg_name (i := 1) sc_law.nd rfl (Or.inl rfl))
        (pss_cons (ps_set (i := 2) sc_law.nd rfl (Or.inr rfl) (pcall G__law_draws (hr.mono (by decide)) (pa_cons (pv 0) (pa_cons (pv 1) pa_nil))))
        (pss_cons (ps_set (i := 3) sc_law.nd rfl (Or.inl rfl) (pe_op op_add pe_int (pcall G__law_draw (hr.mono (by decide)) (pa_cons (pv 2) (pa_cons (pe_ix ix_list (pe_lst (pa_cons pe_int (pa_cons pe_int pa_nil))) (pcall G__law_draw (hr.mono (by decide)) (pa_cons (pv 2) (pa_cons pe_int pa_nil))) (fun _ _ => rfl)) pa_nil)))))
        (pss_cons (ps_set (i := 4) sc_law.nd rfl (Or.inl rfl) (pe_op op_add pe_int (pcall G__law_draw (hr.mono (by decide)) (pa_cons (pv 2) (pa_cons (pe_ix ix_list (pe_lst (pa_cons pe_int (pa_cons pe_int pa_nil))) (pcall G__law_draw (hr.mono (by decide)) (pa_cons (pv 2) (pa_cons pe_int pa_nil))) (fun _ _ => rfl)) pa_nil)))))
        (pss_cons (ps_set (i := 5) sc_law.nd rfl (Or.inr rfl) (pe_op op_add (pe_op op_mulX (pv 3) (pv 4)) pe_int))
        (pss_cons (ps_set (i := 6) sc_law.nd rfl (Or.inr rfl) (pe_op op_rep (pe_lst (pa_cons pe_int pa_nil)) (pv 5)))
        (pss_cons (ps_for PassesOwn.never rfl (pi_range1 rfl B_range (pa_cons (pe_op op_add (pe_op op_fdivW (pv 5) (pv 3)) pe_int) pa_nil)) (pg_name (i := 7) sc_law.nd rfl (Or.inl rfl))
          (pss_one (ps_for PassesOwn.never rfl (pi_range1 rfl B_range (pa_cons (pe_op op_add (pe_op op_fdivW (pv 5) (pv 4)) pe_int) pa_nil)) (pg_name (i := 8) sc_law.nd rfl (Or.inl rfl))
            (pss_one (ps_if (pt_cmpR op_lt (pe_op op_add (pe_op op_mulX (pv 3) (pv 7)) (pe_op op_mulX (pv 4) (pv 8))) (pv 5) (nomark _)) (pss_one (ps_asg (pe_op op_add (pe_ix ix_list (pv 6) (pe_op op_add (pe_op op_mulX (pv 3) (pv 7)) (pe_op op_mulX (pv 4) (pv 8))) (fun _ _ => rfl)) pe_int) (pg_sub (pv 6) (pe_op op_add (pe_op op_mulX (pv 3) (pv 7)) (pe_op op_mulX (pv 4) (pv 8))) set_list))) pss_nil)))))
        (pss_cons (ps_for PassesOwn.never rfl (pi_list (pe_op op_cat (pe_lst (pa_cons (pe_un un_neg pe_int) (pa_cons pe_int (pa_cons pe_int (pa_cons (pe_op op_sub (pv 5) pe_int) (pa_cons (pe_op op_mulX (pv 3) (pv 4)) (pa_cons (pe_op op_sub (pe_op op_sub (pe_op op_mulX (pv 3) (pv 4)) (pv 3)) (pv 4)) (pa_cons (pe_op op_sub pe_int (pv 5)) pa_nil)))))))) (pe_lc rfl sc_law.nd (pi_range1 rfl B_range (pa_cons pe_int pa_nil)) (blkOk_by (own := [("j", 15)]) (N := nm_law) (sc := defScope s_law) (by decide +kernel)) (fun _ _ _ _ _ => (pg_name (i := 15) sc_law.nd rfl (Or.inl rfl))) (fun _ _ _ _ _ => pts_nil) (fun _ _ _ _ _ => (pcall G__law_draw (hr.mono (by decide)) (pa_cons (pv 2) (pa_cons (pv 5) pa_nil))))))) (pg_name (i := 9) sc_law.nd rfl (Or.inl rfl))
          (pss_cons (ps_set (i := 10) sc_law.nd rfl (Or.inl rfl) (pe_ix ix_list (pe_lst (pa_cons pe_int (pa_cons (pe_ix ix_list (pv 6) (pe_callB (cl_max2 rfl) (by rfl) B_max (by decide +kernel) (pa_cons pe_int (pa_cons (pv 9) pa_nil))) (fun _ _ => rfl)) pa_nil))) (pe_callTy cl_int1 (by rfl) B_int (by decide +kernel) (pa_cons (pe_cmpR op_ge (pv 9) pe_int (nomark _)) pa_nil)) (fun _ _ => rfl)))
          (pss_one (ps_if (PW.pt (pw_or (pt_cmpR op_ne (pcall G_ways (hr.mono (by decide)) (pa_cons (pv 3) (pa_cons (pv 4) (pa_cons (pv 9) pa_nil)))) (pv 10) (nomark _)) (pw_or1 (pt_cmpR op_ne (pcall G_ways_to (hr.mono (by decide)) (pa_cons (pv 3) (pa_cons (pv 4) (pa_cons (pv 9) pa_nil)))) (pe_callB (cr_sum rfl) (by rfl) B_sum (by decide +kernel) (pa_cons (pe_slice sl_list (pv 6) po_none (po_some (pe_callB (cl_max2 rfl) (by rfl) B_max (by decide +kernel) (pa_cons pe_int (pa_cons (pe_op op_add (pv 9) pe_int) pa_nil))))) pa_nil)) (nomark _))))) (pss_one (ps_ret pe_bl)) pss_nil))))
        (pss_cons (ps_setLc (i := 11) rfl sc_law.nd rfl rfl (sw_true rfl rfl rfl (by decide +kernel)) (pi_range1 rfl B_range (pa_cons (pv 5) pa_nil)) (blkOk_by (own := [("c", 9)]) (N := nm_law) (sc := defScope s_law) (by decide +kernel)) (fun _ _ _ _ _ => (pg_name (i := 9) sc_law.nd rfl (Or.inl rfl))) (fun _ _ _ _ _ => pts_one (pt_cmpR op_eq (pe_ix (ix_listK (K := K)) (pv 6) (pv 9) (fun _ _ => rfl)) pe_int (nomark _))) (fun _ _ _ _ _ => (pv 9)))
        (pss_cons (ps_set (i := 10) sc_law.nd rfl (Or.inl rfl) (pe_tup (pa_cons (pe_callB (cr_max rfl) (by rfl) B_max (by decide +kernel) (pa_cons (pe_op op_cat (pv 11) (pe_lst (pa_cons (pe_un un_neg pe_int) pa_nil))) pa_nil)) (pa_cons (pe_callB cl_len (by rfl) B_len (by decide +kernel) (pa_cons (pv 11) pa_nil)) pa_nil))))
        (pcut (ps_if (pt_cmpR op_gt (pcall G__law_common (hr.mono (by decide)) (pa_cons (pv 3) (pa_cons (pv 4) pa_nil))) pe_int (nomark _)) (pss_one (ps_set (i := 10) sc_law.nd rfl (Or.inl rfl) (pe_tup (pa_cons pe_non (pa_cons pe_non pa_nil))))) (pss_one (ps_if (pt_cmpR (op_eqD hr.units) (pv 11) (pe_lst pa_nil) (nomark _)) (pss_one (ps_set (i := 10) sc_law.nd rfl (Or.inl rfl) (pe_tup (pa_cons pe_non (pa_cons pe_int pa_nil))))) pss_nil)))
        (pss_cons (ps_if (PW.pt (pw_or (pt_cmpR (op_neD hr.units) (pe_tup (pa_cons (pcall G_last_unpaid (hr.mono (by decide)) (pa_cons (pv 3) (pa_cons (pv 4) pa_nil))) (pa_cons (pcall G_many_unpaid (hr.mono (by decide)) (pa_cons (pv 3) (pa_cons (pv 4) pa_nil))) pa_nil))) (pv 10) (nomark _)) (pw_or1 (pt_not (pt_val (pcall G__law_whole (hr.mono (by decide)) (pa_cons (pcall G_ways_to (hr.mono (by decide)) (pa_cons (pv 3) (pa_cons (pv 4) (pa_cons (pv 5) pa_nil)))) pa_nil))))))) (pss_one (ps_ret pe_bl)) pss_nil)
        (pss_cons (ps_set (i := 12) sc_law.nd rfl (Or.inl rfl) (pe_ix ix_list (pe_lst (pa_cons pe_int (pa_cons (pe_un un_neg pe_int) (pa_cons (pe_op op_sub pe_int (pe_op op_pow pe_int pe_int)) (pa_cons (pe_op op_sub pe_int (pv 3)) pa_nil))))) (pcall G__law_draw (hr.mono (by decide)) (pa_cons (pv 2) (pa_cons pe_int pa_nil))) (fun _ _ => rfl)))
        (pss_one (ps_for PassesOwn.never rfl (pi_list (pe_lst (pa_cons (pe_tup (pa_cons (pv 12) (pa_cons (pv 4) pa_nil))) (pa_cons (pe_tup (pa_cons (pv 3) (pa_cons (pv 12) pa_nil))) (pa_cons (pe_tup (pa_cons (pv 12) (pa_cons (pv 12) pa_nil))) pa_nil))))) (pg_tup (by rfl) (pgs_cons (pg_name (i := 13) sc_law.nd rfl (Or.inr rfl)) (pgs_cons (pg_name (i := 14) sc_law.nd rfl (Or.inr rfl)) pgs_nil)))
          (pss_one (ps_if (pt_cmpR (op_neD hr.units) (pe_lc rfl sc_law.nd (pi_range1 rfl B_range (pa_cons pe_int pa_nil)) (blkOk_by (own := [("door", 16)]) (N := nm_law) (sc := defScope s_law) (by decide +kernel)) (fun _ _ _ _ _ => (pg_name (i := 16) sc_law.nd rfl (Or.inl rfl))) (fun _ _ _ _ _ => pts_nil) (fun _ _ _ _ _ => (pcall G__law_kind (hr.mono (by decide)) (pa_cons (pv 16) (pa_cons (pv 13) (pa_cons (pv 14) pa_nil)))))) (pe_op op_rep (pe_lst (pa_cons pe_str pa_nil)) pe_int) (nomark _)) (pss_one (ps_ret pe_bl)) pss_nil)))))))))))))))))
      (pss_one (ps_ret pe_bl))), ?_⟩
  rw [st_law]
  try dsimp only [Cx.nox, Cx.wish, Cx.blk, cx_K, cxH_K]
  walk_at "go"
  rw [List.length_map]
  refine r_rng1 (by omega) (by omega) ?_
  refine for_rng (fun i σ H' => ∃ o1 o2 o3 o4 o5 o6 o7 o8 o9 o10 o11 o12 o13 o14 o15 o16 : Option V, σ = [some (.ref a), o1, o2, o3, o4, o5, o6, o7, o8, o9, o10, o11, o12, o13, o14, o15, o16] ∧ Ex H H') ⟨_, _, _, _, _, _, _, _, _, _, _, _, _, _, _, _, rfl, Ex.refl⟩ ?_ ?_
  · rintro i σ H0 hi ⟨o1, o2, o3, o4, o5, o6, o7, o8, o9, o10, o11, o12, o13, o14, o15, o16, rfl, e0⟩
    walk_at "go"
    refine use_law_draws (sql_up e0 hS) (by omega) (by omega) fun d H1 nd e1 D1 => ?_
    have w1 : Lw H0 d H1 := ⟨e1, nd, D1⟩
    clear e1 nd
    walk_at "go"
    rename_i l2 H2 nl2 e2 h2
    refine use_law_draw (D1.up e2) (by decide) (by walk_at "szm") fun v3 H3 c3 d3 k3 D3 => ?_
    have h3 := k3 _ _ (D1.free nl2) h2
    have w3 := (w1.ex e2).kp k3 D3
    clear k3 h2 e2 w1 D1 nl2
    walk_at "go"
    obtain ⟨z4, hz4, z40, z41⟩ : ∃ z : Int, atI [V.int 4, .int 30] v3 = some (V.int z) ∧ 0 < z ∧ z ≤ 30 := by
      obtain rfl | rfl : v3 = 0 ∨ v3 = 1 := by omega
      · exact ⟨4, rfl, by decide, by decide⟩
      · exact ⟨30, rfl, by decide, by decide⟩
    refine r_ixL (SqL.of h3) hz4 ?_
    walk_at "go"
    refine use_law_draw D3 (by omega) ((Sz.small (by omega) : Sz 200 z4).mono (by decide)) fun p0 H4 p00 p01 k4 D4 => ?_
    have w4 := w3.kp k4 D4
    clear k4 w3 D3 h3 hz4
    walk_at "go"
    generalize hp : 1 + p0 = p
    have pp : 1 ≤ p := by omega
    have pq : p ≤ 30 := by omega
    clear hp p00 p01
    rename_i l2 H2 nl2 e2 h2
    refine use_law_draw (D4.up e2) (by decide) (by walk_at "szm") fun v3 H3 c3 d3 k3 D3 => ?_
    have h3 := k3 _ _ (D4.free nl2) h2
    have w3 := (w4.ex e2).kp k3 D3
    clear k3 h2 e2 w4 D4 nl2
    walk_at "go"
    obtain ⟨z5, hz5, z50, z51⟩ : ∃ z : Int, atI [V.int 4, .int 30] v3 = some (V.int z) ∧ 0 < z ∧ z ≤ 30 := by
      obtain rfl | rfl : v3 = 0 ∨ v3 = 1 := by omega
      · exact ⟨4, rfl, by decide, by decide⟩
      · exact ⟨30, rfl, by decide, by decide⟩
    refine r_ixL (SqL.of h3) hz5 ?_
    walk_at "go"
    refine use_law_draw D3 (by omega) ((Sz.small (by omega) : Sz 200 z5).mono (by decide)) fun q0 H4 q00 q01 k4 D4 => ?_
    have w4 := w3.kp k4 D4
    clear k4 w3 D3 h3 hz5
    walk_at "go"
    generalize hq : 1 + q0 = q'
    have qp : 1 ≤ q' := by omega
    have qq : q' ≤ 30 := by omega
    clear hq q00 q01
    have zp : Sz 100 p := by
      show p.natAbs < 2 ^ 100
      omega
    have zq : Sz 100 q' := by
      show q'.natAbs < 2 ^ 100
      omega
    walk_at "go"
    have pq0 : 0 < p * q' := Int.mul_pos (by omega) (by omega)
    have pq1 : p * q' ≤ 900 := by
      have h1 : p * q' ≤ 30 * q' := Int.mul_le_mul_of_nonneg_right pq (by omega)
      omega
    have pq2 : p + q' ≤ p * q' + 1 := by
      have := Int.mul_nonneg (show 0 ≤ p - 1 by omega) (show 0 ≤ q' - 1 by omega)
      grind
    generalize hf : p * q' + 40 = far
    have f0 : 40 < far := by omega
    have f1 : far ≤ 940 := by omega
    have zf : Sz 200 far := Sz.small (by omega)
    rename_i l5 H5 nl5 e5 h5
    have w5 := w4.ex e5
    clear e5 w4 D4
    refine ⟨l5, far, _, rfl, rfl, h5, by omega, by omega, ?_, fun l6 nl6 => ?_⟩
    · show 1 * far.toNat ≤ sizeLine
      exact Nat.le_of_lt (len_lt (by omega))
    have e6 : Ex H5 (upd H5 l6 (.lst (List.replicate far.toNat [V.int 0]).flatten)) := Ex.new nl6
    have h6 : upd H5 l6 (.lst (List.replicate far.toNat [V.int 0]).flatten) l6 = some (.lst ((List.range far.toNat).map fun c => V.int (cf p q' (far / q' + 1).toNat 0 0 c))) := by
      rw [upd_same, rep_0]
      rfl
    generalize upd H5 l6 (.lst (List.replicate far.toNat [V.int 0]).flatten) = H6 at *
    have w6 := w5.ex e6
    have nf : H0 l6 = none := free_back w5.e nl6
    have ld : l6 ≠ d := w5.D.free nl6
    clear e6 nl6 w5 h5 nl5
    walk_at "go"
    have dx0 : 0 ≤ far / p := Int.ediv_nonneg (by omega) (by omega)
    have dx1 : far / p ≤ far := Int.ediv_le_self _ (by omega)
    have dy0 : 0 ≤ far / q' := Int.ediv_nonneg (by omega) (by omega)
    have dy1 : far / q' ≤ far := Int.ediv_le_self _ (by omega)
    refine r_rng1 (by omega) (by omega) ?_
    refine for_rng (fun x σ H' => Lw H0 d H' ∧ H' l6 = some (.lst ((List.range far.toNat).map fun c => V.int (cf p q' (far / q' + 1).toNat x 0 c))) ∧ ∃ o7 o8 o9 o10 o11 o12 o13 o14 o15 o16 : Option V, σ = [some (.ref a), some (.int (0 + i)), some (.ref d), some (.int p), some (.int q'), some (.int far), some (.ref l6), o7, o8, o9, o10, o11, o12, o13, o14, o15, o16]) ⟨w6, h6, _, _, _, _, _, _, _, _, _, _, rfl⟩ ?_ ?_
    · rintro x σ H7 hx ⟨w7, h7, o7, o8, o9, o10, o11, o12, o13, o14, o15, o16, rfl⟩
      walk_at "go"
      refine r_rng1 (by omega) (by omega) ?_
      refine for_rng (fun y σ H' => Lw H0 d H' ∧ H' l6 = some (.lst ((List.range far.toNat).map fun c => V.int (cf p q' (far / q' + 1).toNat x y c))) ∧ ∃ o8 o9 o10 o11 o12 o13 o14 o15 o16 : Option V, σ = [some (.ref a), some (.int (0 + i)), some (.ref d), some (.int p), some (.int q'), some (.int far), some (.ref l6), some (.int (0 + x)), o8, o9, o10, o11, o12, o13, o14, o15, o16]) ⟨w7, h7, _, _, _, _, _, _, _, _, _, rfl⟩ ?_ ?_
      · rintro y σ H8 hy ⟨w8, h8, o8, o9, o10, o11, o12, o13, o14, o15, o16, rfl⟩
        have zx : Sz 200 (0 + (x : Int)) := Sz.small (by omega)
        have zy : Sz 200 (0 + (y : Int)) := Sz.small (by omega)
        walk_at "go"
        have x0 : 0 ≤ p * (x : Int) := Int.mul_nonneg (by omega) (by omega)
        have y0 : 0 ≤ q' * (y : Int) := Int.mul_nonneg (by omega) (by omega)
        have ez : p * (0 + (x : Int)) + q' * (0 + (y : Int)) = p * (x : Int) + q' * (y : Int) := by rw [Int.zero_add, Int.zero_add]
        refine if_2 (fun hc => ?_) (fun hc => ?_)
        · have hc := of_decide_eq_true hc
          rw [ez] at hc
          have hz : ∃ k : Nat, (k : Int) = p * (x : Int) + q' * (y : Int) := ⟨(p * (x : Int) + q' * (y : Int)).toNat, by omega⟩
          obtain ⟨k, hk⟩ := hz
          walk_at "go"
          refine r_ixL (SqL.of h8) (at_map (k := k) (by omega) (by omega)) ?_
          walk_at "go"
          refine r_setL (k0 := k) h8 (by rw [List.length_map, List.length_range]; exact ixN_of (by omega) (by omega)) ?_
          walk_at "go"
          refine ⟨w8.own nf ld Kp.upd, ?_, _, _, _, _, _, _, _, _, _, rfl⟩
          rw [upd_same]
          refine congrArg (fun l => some (HO.lst l)) ?_
          have e : V.int (cf p q' (far / q' + 1).toNat x y k + 1) = V.int (cf p q' (far / q' + 1).toNat x (y + 1) k) := by
            rw [cf_j, pk, if_pos (by omega)]
          rw [e]
          refine set_map (g' := fun c => V.int (cf p q' (far / q' + 1).toNat x (y + 1) c)) fun c hc2 hc3 => ?_
          rw [cf_j, pk, if_neg (by omega), Int.add_zero]
        · have hc := of_decide_eq_false hc
          rw [ez] at hc
          walk_at "go"
          refine ⟨w8, ?_, _, _, _, _, _, _, _, _, _, rfl⟩
          rw [h8]
          refine congrArg (fun l => some (HO.lst l)) (map_same fun c hc2 => ?_)
          rw [cf_j, pk, if_neg (by omega), Int.add_zero]
      · rintro σ H8 ⟨w8, h8, o8, o9, o10, o11, o12, o13, o14, o15, o16, rfl⟩
        walk_at "go"
        refine ⟨w8, ?_, _, _, _, _, _, _, _, _, _, _, rfl⟩
        rw [h8]
        refine congrArg (fun l => some (HO.lst l)) (map_same fun c hc2 => ?_)
        rw [cf_i]
    · rintro σ H7 ⟨w7, h7, o7, o8, o9, o10, o11, o12, o13, o14, o15, o16, rfl⟩
      have h7 : H7 l6 = some (.lst ((List.range far.toNat).map fun (c : Nat) => V.int (wy p q' (c : Int) - wy p q' ((c : Int) - 1)))) := by
        rw [h7]
        refine congrArg (fun l => some (HO.lst l)) (map_same fun c hc2 => ?_)
        rw [cf_wy (by omega) (by omega) (by omega)]
      clear h6 w6
      have wn : wy p q' (-1) = 0 := wy_neg (by decide)
      walk_at "go"
      rename_i l8 H8 nl8 e8 h8
      have w8 := w7.ex e8
      have h78 := e8.at h7
      have ld8 : l8 ≠ d := w7.D.free nl8
      clear e8 w7 h7 nl8
      refine r_rng1 (by decide) (by decide) ?_
      intro Dl hD
      have ndD : Dl ≠ d := w8.D.free hD
      refine lc_range (fun j H' => Kp d H8 H' ∧ Dr H' d ∧ ∃ acc : List Int, H' Dl = some (.lst (acc.map V.int)) ∧ acc.length = j ∧ ∀ v ∈ acc, 0 ≤ v ∧ v < far) ⟨(Ex.new hD).kp, w8.D.up (Ex.new hD), [], upd_same, rfl, fun _ h => by cases h⟩ (fun j H9 hj => ?_) ?_
      · rintro ⟨k9, D9, acc, hacc, lacc, pacc⟩
        try dsimp only [wipe, List.set_cons_succ, List.set_cons_zero]
        refine ⟨rfl, ?_⟩
        refine tYes_k ?_
        rw [if_pos rfl]
        walk_at "go"
        refine use_law_draw D9 (by omega) (zf.mono (by decide)) fun x10 H10 x100 x101 k10 D10 => ?_
        refine ⟨acc.map V.int, k10 _ _ ndD hacc, len_lt (by rw [List.length_map]; omega), (k9.trans k10).via hD Kp.upd, D10.kp ndD.symm Kp.upd, acc ++ [x10], by rw [upd_same, List.map_append]; rfl, by rw [List.length_append, lacc]; rfl, fun v hv => ?_⟩
        rcases List.mem_append.mp hv with hv | hv
        · exact pacc v hv
        · rw [List.mem_singleton.mp hv]
          exact ⟨x100, x101⟩
      · rintro H9 ⟨k9, D9, acc, hacc, lacc, pacc⟩
        have w9 := w8.kp k9 D9
        have h89 := k9 _ _ ld8 h8
        have h79 := k9 _ _ ld h78
        clear k9 w8 h8 h78
        walk_at "go"
        refine r_catL h89 hacc (by rw [List.length_map, lacc]; exact Nat.le_of_ble_eq_true rfl) fun l10 H10 nl10 e10 h10 => ?_
        have w10 := w9.ex e10
        have h7a := e10.at h79
        have h10 : H10 l10 = some (.lst (([-1, 0, 1, far - 1, p * q', p * q' - p - q', 0 - far] ++ acc).map V.int)) := by
          rw [h10, List.map_append]
          rfl
        have pcs : ∀ c ∈ [-1, 0, 1, far - 1, p * q', p * q' - p - q', 0 - far] ++ acc, -far ≤ c ∧ c < far := by
          intro c hc
          rcases List.mem_append.mp hc with hc | hc
          · simp only [List.mem_cons, List.not_mem_nil, or_false] at hc
            rcases hc with rfl | rfl | rfl | rfl | rfl | rfl | rfl <;> omega
          · have := pacc c hc
            omega
        generalize [-1, 0, 1, far - 1, p * q', p * q' - p - q', 0 - far] ++ acc = cs at *
        clear e10 w9 h89 h79 hacc D9 nl10
        walk_at "go"
        refine for_lst (fun j σ H' => Ex H10 H' ∧ ∃ o9 o10 o11 o12 o13 o14 o15 o16 : Option V, σ = [some (.ref a), some (.int (0 + i)), some (.ref d), some (.int p), some (.int q'), some (.int far), some (.ref l6), o7, o8, o9, o10, o11, o12, o13, o14, o15, o16]) ⟨Ex.refl, _, _, _, _, _, _, _, _, rfl⟩ (fun j σ H' _ h => SqL.of (h.1.at h10)) ?_ ?_
        · rintro j x σ H11 hx ⟨e11, o9, o10, o11, o12, o13, o14, o15, o16, rfl⟩
          obtain ⟨c, hc, rfl⟩ := get_ints hx
          have hc := pcs c hc
          have h7b := e11.at h7a
          have zc : Sz 200 c := Sz.small (by omega)
          walk_at "go"
          refine r_ixL (SqL.of h7b) (at_map (k := (max 0 c).toNat) (by omega) (by omega)) ?_
          walk_at "go"
          rename_i l12 H12 nl12 e12 h12
          have h7c := e12.at h7b
          refine r_ixL (v := .int (wy p q' c - wy p q' (c - 1))) (SqL.of h12) (by
            by_cases c0 : 0 ≤ c
            · rw [decide_eq_true c0, show (((max 0 c).toNat : Nat) : Int) = c by omega]
              rfl
            · rw [decide_eq_false c0, wy_neg (show c < 0 by omega), wy_neg (show c - 1 < 0 by omega)]
              rfl) ?_
          walk_at "go"
          refine use_ways (by omega) (by omega) (zp.mono (by decide)) (zq.mono (by decide)) (zc.mono (by decide)) ?_
          walk_at "go"
          refine use_ways_to (by omega) (by omega) (zp.mono (by decide)) (zq.mono (by decide)) (zc.mono (by decide)) ?_
          walk_at "go"
          refine r_slL h7c fun l13 H13 nl13 e13 h13 => ?_
          rw [cut_to _ (by omega) (by rw [List.length_map, List.length_range]; omega), take_range _ (by omega)] at h13
          have h13 : H13 l13 = some (.lst (((List.range (max 0 (c + 1)).toNat).map fun (c : Nat) => wy p q' (c : Int) - wy p q' ((c : Int) - 1)).map V.int)) := by
            rw [h13, List.map_map]
            rfl
          walk_at "go"
          refine r_sum (SqL.of h13) ?_
          rw [sum_range, wy_tele]
          have ew : wy p q' (((max 0 (c + 1)).toNat : Nat) - 1) = wy p q' c := by
            by_cases c0 : 0 ≤ c
            · rw [show (((max 0 (c + 1)).toNat : Nat) : Int) - 1 = c by omega]
            · rw [wy_neg (show c < 0 by omega), wy_neg (by omega)]
          rw [ew]
          walk_at "go"
          exact ⟨(e11.trans e12).trans e13, _, _, _, _, _, _, _, _, rfl⟩
        · rintro σ H11 ⟨e11, o9, o10, o11, o12, o13, o14, o15, o16, rfl⟩
          have w11 := w10.ex e11
          have h11 := e11.at h7a
          clear e11 w10 h10 h7a pcs
          walk_at "go"
          refine r_rng1 (by omega) (by omega) ?_
          refine lc_rngF (fun i => decide (wy p q' (i : Int) - wy p q' ((i : Int) - 1) = 0)) (fun i => .int (0 + (i : Int))) (by omega) (fun _ => rfl) (fun i hi3 H12 e12 QT kT => ?_) (fun i hi3 hc H12 e12 QE kE => ?_) (fun l12 H12 nl12 e12 h12 => ?_)
          · walk_at "go"
            refine r_ixL (SqL.of (e12.at h11)) (at_map (k := i) (by omega) (by omega)) ?_
            walk_at "go"
            exact kT _ Ex.refl
          · walk_at "go"
            exact kE _ Ex.refl
          · have w12 := w11.ex e12
            have h12 : H12 l12 = some (.lst (((lk p q' far).map fun (i : Nat) => (i : Int)).map V.int)) := by
              rw [h12, List.map_map]
              refine congrArg (fun l => some (HO.lst l)) (List.map_congr_left fun c _ => ?_)
              rw [Int.zero_add]
              rfl
            clear e12 w11 h11 nl12
            walk_at "go"
            rename_i l13 H13 nl13 e13 h13
            refine r_catL (e13.at h12) h13 (by
              rw [List.length_map, List.length_map]
              have := List.length_filter_le (fun c : Nat => decide (wy p q' (c : Int) - wy p q' ((c : Int) - 1) = 0)) (List.range far.toNat)
              rw [List.length_range] at this
              have e : (lk p q' far).length ≤ far.toNat := this
              show _ + 1 ≤ _
              omega) fun l14 H14 nl14 e14 h14 => ?_
            have w14 := (w12.ex e13).ex e14
            have h12a := e14.at (e13.at h12)
            have h14 : H14 l14 = some (.lst ((((lk p q' far).map fun (i : Nat) => (i : Int)) ++ [-1]).map V.int)) := by
              rw [h14, List.map_append]
              rfl
            clear e13 e14 nl13 nl14 h12 h13 w12
            walk_at "go"
            refine ⟨l14, _, rfl, SqL.of h14, by rw [List.length_append]; exact Nat.succ_pos _, fun mx hm hall => ?_⟩
            walk_at "go"
            rename_i t15 H15 nt15 e15 h15
            have w15 := w14.ex e15
            have h12b := e15.at h12a
            clear e15 nt15 w14 h12a h14
            refine r_cut (fun σ' H' => Lw H0 d H' ∧ ∃ (t : Addr) (o12 o13 o14 o15 o16 : Option V), σ' = [some (.ref a), some (.int (0 + i)), some (.ref d), some (.int p), some (.int q'), some (.int far), some (.ref l6), o7, o8, o9, some (.ref t), some (.ref l12), o12, o13, o14, o15, o16] ∧ H' t = some (.tup [luV p q', muV p q'])) ?_ ?_
            · walk_at "go"
              refine use_law_common ?_
              walk_at "go"
              refine if_2 (fun hg => ?_) (fun hg => ?_)
              · have hg := of_decide_eq_true hg
                walk_at "go"
                rename_i t16 H16 nt16 e16 h16
                exact ⟨w15.ex e16, t16, o12, o13, o14, o15, o16, rfl, by rw [h16, luV, muV, if_pos (.inl hg), if_pos hg]⟩
              · have hg := of_decide_eq_false hg
                have gp := gcd_pos (a := p) (m := q') (by omega)
                have g1 : Int.gcd p q' = 1 := by omega
                walk_at "go"
                rename_i l16 H16 nl16 e16 h16
                refine r_eqL (ys := []) (SqL.of (e16.at h12b)) (SqL.of h16) ?_
                walk_at "go"
                refine if_2 (fun hn => ?_) (fun hn => ?_)
                · have hn := List.map_eq_nil_iff.mp (of_decide_eq_true hn)
                  have o1 : p = 1 ∨ q' = 1 := by
                    by_cases z : p = 1 ∨ q' = 1
                    · exact z
                    · have := (lk_last (far := far) (p := p) (q := q') (by omega) (by omega) g1 (by omega)).2
                      rw [hn] at this
                      cases this
                  have o2 : (p - 1) * (q' - 1) / 2 = 0 := by
                    rcases o1 with rfl | rfl
                    · rw [Int.sub_self, Int.zero_mul]; rfl
                    · rw [Int.sub_self, Int.mul_zero]; rfl
                  walk_at "go"
                  rename_i t17 H17 nt17 e17 h17
                  exact ⟨(w15.ex e16).ex e17, t17, o12, o13, o14, o15, o16, rfl, by rw [h17, luV, muV, if_pos (.inr o1), if_neg hg, o2]⟩
                · have hn := of_decide_eq_false hn
                  have o1 : ¬ (p = 1 ∨ q' = 1) := fun z => hn (by rw [lk_nil (by omega) (by omega) g1 z]; rfl)
                  walk_at "go"
                  refine ⟨w15.ex e16, t15, o12, o13, o14, o15, o16, rfl, ?_⟩
                  rw [e16.at h15, lk_max (p := p) (q := q') (far := far) (by omega) (by omega) g1 (by omega) hm hall, luV, muV, if_neg (by rintro (z | z) <;> omega), if_neg hg, List.length_map, List.length_map, lk_len (by omega) (by omega) g1 (by omega)]
            · rintro σ H16 ⟨w16, t16, o12, o13, o14, o15, o16, rfl, h16⟩
              clear h12b h15 w15 hall hm
              walk_at "go"
              refine use_last_unpaid (by omega) (by omega) (zp.mono (by decide)) (zq.mono (by decide)) ?_
              walk_at "go"
              refine use_many_unpaid (by omega) (by omega) (zp.mono (by decide)) (zq.mono (by decide)) ?_
              walk_at "go"
              rename_i t17 H17 nt17 e17 h17
              refine r_neX2 (by unfold luV; split; exact .inl rfl; exact .inr ⟨_, rfl⟩) (by unfold muV; split; exact .inl rfl; exact .inr ⟨_, rfl⟩) h17 (e17.at h16) ?_
              walk_at "go"
              refine use_ways_to (by omega) (by omega) (zp.mono (by decide)) (zq.mono (by decide)) (zf.mono (by decide)) ?_
              walk_at "go"
              refine use_law_whole ?_
              walk_at "go"
              rename_i l18 H18 nl18 e18 h18
              have w17 := w16.ex e17
              have w18 := w17.ex e18
              refine use_law_draw w18.D (by decide) (by walk_at "szm") fun v19 H19 c19 d19 k19 D19 => ?_
              have h19 := k19 _ _ (w17.D.free nl18) h18
              have w19 := w18.kp k19 D19
              clear e17 e18 k19 h18 h17 h16 w16 w17 w18 nl18
              obtain ⟨odd, ho, bad⟩ : ∃ u : Int, atI [V.int 0, .int (-1), .int (0 - 100000000000000000000000000000), .int (0 - p)] v19 = some (V.int u) ∧ u < 1 := by
                obtain rfl | rfl | rfl | rfl : v19 = 0 ∨ v19 = 1 ∨ v19 = 2 ∨ v19 = 3 := by omega
                · exact ⟨_, rfl, by omega⟩
                · exact ⟨_, rfl, by omega⟩
                · exact ⟨_, rfl, by omega⟩
                · exact ⟨_, rfl, by omega⟩
              walk_at "go"
              refine r_ixL (SqL.of h19) ho ?_
              clear ho h19
              walk_at "go"
              rename_i t1 G1 r1 x1 y1 t2 G2 r2 x2 y2 t3 G3 r3 x3 y3 l4 G4 r4 x4 y4
              have u3 := x3.trans x4
              have u2 := x2.trans u3
              have R : RowsA G4 [.ref t1, .ref t2, .ref t3] [[odd, q'], [p, odd], [odd, odd]] :=
                ⟨⟨t1, rfl, u2.at y1⟩, ⟨t2, rfl, u3.at y2⟩, ⟨t3, rfl, x4.at y3⟩, trivial⟩
              have wG := w19.ex (x1.trans u2)
              clear u2 u3 x1 x2 x3 x4 y1 y2 y3 r1 r2 r3 r4 w19 D19
              refine for_lst (fun j σ H' => Ex G4 H' ∧ ∃ o13 o14 o15 o16 : Option V, σ = [some (.ref a), some (.int (0 + i)), some (.ref d), some (.int p), some (.int q'), some (.int far), some (.ref l6), o7, o8, o9, some (.ref t16), some (.ref l12), some (.int odd), o13, o14, o15, o16]) ⟨Ex.refl, _, _, _, _, rfl⟩ (fun j σ H' _ h => SqL.of (h.1.at y4)) ?_ ?_
              · rintro j x σ H20 hx ⟨e20, o13, o14, o15, o16, rfl⟩
                obtain ⟨t, r, rfl, hr', ht⟩ := (R.ex e20).get hx
                have mem := List.mem_of_getElem? hr'
                obtain ⟨u, v, rfl, bad'⟩ : ∃ u v : Int, r = [u, v] ∧ (u < 1 ∨ v < 1) := by
                  simp only [List.mem_cons, List.not_mem_nil, or_false] at mem
                  rcases mem with rfl | rfl | rfl
                  · exact ⟨_, _, rfl, .inl bad⟩
                  · exact ⟨_, _, rfl, .inr bad⟩
                  · exact ⟨_, _, rfl, .inl bad⟩
                have ht' : H20 t = some (.tup [.int u, .int v]) := ht
                walk_at "go"
                refine r_rng1 (by decide) (by decide) ?_
                refine lc_rngP (fun _ => .str "NoCoins+") (by decide) (fun _ => rfl) (fun i2 hi2 H21 e21 QE kE => ?_) (fun l21 H21 nl21 e21 h21 => ?_)
                · walk_at "go"
                  exact ⟨_, u, v, rfl, bad', fun H22 e22 => kE _ e22⟩
                · walk_at "go"
                  rename_i l22 H22 nl22 e22 h22
                  refine ⟨l22, 4, _, rfl, rfl, h22, by decide, by decide, Nat.le_of_ble_eq_true rfl, fun l23 nl23 => ?_⟩
                  have e23 : Ex H22 (upd H22 l23 (.lst (List.replicate (4 : Int).toNat [V.str "NoCoins+"]).flatten)) := Ex.new nl23
                  have h23 : upd H22 l23 (.lst (List.replicate (4 : Int).toNat [V.str "NoCoins+"]).flatten) l23 = some (.lst [.str "NoCoins+", .str "NoCoins+", .str "NoCoins+", .str "NoCoins+"]) := upd_same
                  generalize upd H22 l23 (.lst (List.replicate (4 : Int).toNat [V.str "NoCoins+"]).flatten) = H23 at *
                  refine r_neS4 ((e22.trans e23).at h21) h23 (by decide +kernel) ?_
                  walk_at "go"
                  exact ⟨e20.trans (e21.trans (e22.trans e23)), _, _, _, _, rfl⟩
              · rintro σ H20 ⟨e20, o13, o14, o15, o16, rfl⟩
                walk_at "go"
                exact ⟨_, _, _, _, _, _, _, _, _, _, _, _, _, _, _, _, rfl, e0.trans (wG.ex e20).e⟩
  · rintro σ H' ⟨o1, o2, o3, o4, o5, o6, o7, o8, o9, o10, o11, o12, o13, o14, o15, o16, rfl, e0⟩
    walk_at "go"
    exact q _

end
end Sd
namespace Sd
open PySem PySem.Spec PyProof.Rows L2
theorem all_mk {l : PySem.W.OpenLaw} {w : World} {K : PySem.W.Frag} {h : Heap} {mg : Str → Option Value} {fa : Addr} (X : K.In h) (G : h.Ns mainGlobals mg) (hfa : mg "law" = some (.ref fa))
    {f0 f1 f2 f3 f4 f5 f6 f7 f8 f9 f10 f11 f12 f13 f14 : Addr}
    {od0 an0 od1 an1 od2 an2 od3 an3 od4 an4 od5 an5 od6 an6 od7 an7 od8 an8 od9 an9 od10 an10 od11 an11 od12 an12 od13 an13 od14 an14 : Option Addr}
    {sl0 sl1 sl2 sl3 sl4 sl5 sl6 sl7 sl8 sl9 sl10 sl11 sl12 sl13 sl14 : Array (Option Value)}
    {oc0 kV0 dc0 pm0 cd0 ct0 oc1 kV1 dc1 pm1 cd1 ct1 oc2 kV2 dc2 pm2 cd2 ct2 oc3 kV3 dc3 pm3 cd3 ct3 oc4 kV4 dc4 pm4 cd4 ct4 oc5 kV5 dc5 pm5 cd5 ct5 oc6 kV6 dc6 pm6 cd6 ct6 oc7 kV7 dc7 pm7 cd7 ct7 oc8 kV8 dc8 pm8 cd8 ct8 oc9 kV9 dc9 pm9 cd9 ct9 oc10 kV10 dc10 pm10 cd10 ct10 oc11 kV11 dc11 pm11 cd11 ct11 oc12 kV12 dc12 pm12 cd12 ct12 oc13 kV13 dc13 pm13 cd13 ct13 oc14 kV14 dc14 pm14 cd14 ct14 : Value}
    {C0 : Addr} {xn0 xq0 : Str} {xN0 : Addr} {xb0 xs0 : List Value} {xl0 : List Str} {xa0 : Bool} {xc0 : Option Bool} {xd0 : Option Addr} {xe0 xf0 xg0 xh0 xi0 : Option Value}
    {C1 : Addr} {xn1 xq1 : Str} {xN1 : Addr} {xb1 xs1 : List Value} {xl1 : List Str} {xa1 : Bool} {xc1 : Option Bool} {xd1 : Option Addr} {xe1 xf1 xg1 xh1 xi1 : Option Value}
    {C2 : Addr} {xn2 xq2 : Str} {xN2 : Addr} {xb2 xs2 : List Value} {xl2 : List Str} {xa2 : Bool} {xc2 : Option Bool} {xd2 : Option Addr} {xe2 xf2 xg2 xh2 xi2 : Option Value}
    {C3 : Addr} {xn3 xq3 : Str} {xN3 : Addr} {xb3 xs3 : List Value} {xl3 : List Str} {xa3 : Bool} {xc3 : Option Bool} {xd3 : Option Addr} {xe3 xf3 xg3 xh3 xi3 : Option Value}
    {C4 : Addr} {xn4 xq4 : Str} {xN4 : Addr} {xb4 xs4 : List Value} {xl4 : List Str} {xa4 : Bool} {xc4 : Option Bool} {xd4 : Option Addr} {xe4 xf4 xg4 xh4 xi4 : Option Value}
    {C5 : Addr} {xn5 xq5 : Str} {xN5 : Addr} {xb5 xs5 : List Value} {xl5 : List Str} {xa5 : Bool} {xc5 : Option Bool} {xd5 : Option Addr} {xe5 xf5 xg5 xh5 xi5 : Option Value}
    {C6 : Addr} {xn6 xq6 : Str} {xN6 : Addr} {xb6 xs6 : List Value} {xl6 : List Str} {xa6 : Bool} {xc6 : Option Bool} {xd6 : Option Addr} {xe6 xf6 xg6 xh6 xi6 : Option Value}
    {C7 : Addr} {xn7 xq7 : Str} {xN7 : Addr} {xb7 xs7 : List Value} {xl7 : List Str} {xa7 : Bool} {xc7 : Option Bool} {xd7 : Option Addr} {xe7 xf7 xg7 xh7 xi7 : Option Value}
    {C8 : Addr} {xn8 xq8 : Str} {xN8 : Addr} {xb8 xs8 : List Value} {xl8 : List Str} {xa8 : Bool} {xc8 : Option Bool} {xd8 : Option Addr} {xe8 xf8 xg8 xh8 xi8 : Option Value}
    {C9 : Addr} {xn9 xq9 : Str} {xN9 : Addr} {xb9 xs9 : List Value} {xl9 : List Str} {xa9 : Bool} {xc9 : Option Bool} {xd9 : Option Addr} {xe9 xf9 xg9 xh9 xi9 : Option Value}
    {C10 : Addr} {xn10 xq10 : Str} {xN10 : Addr} {xb10 xs10 : List Value} {xl10 : List Str} {xa10 : Bool} {xc10 : Option Bool} {xd10 : Option Addr} {xe10 xf10 xg10 xh10 xi10 : Option Value}
    {C11 : Addr} {xn11 xq11 : Str} {xN11 : Addr} {xb11 xs11 : List Value} {xl11 : List Str} {xa11 : Bool} {xc11 : Option Bool} {xd11 : Option Addr} {xe11 xf11 xg11 xh11 xi11 : Option Value}
    {C12 : Addr} {xn12 xq12 : Str} {xN12 : Addr} {xb12 xs12 : List Value} {xl12 : List Str} {xa12 : Bool} {xc12 : Option Bool} {xd12 : Option Addr} {xe12 xf12 xg12 xh12 xi12 : Option Value}
    {C13 : Addr} {xn13 xq13 : Str} {xN13 : Addr} {xb13 xs13 : List Value} {xl13 : List Str} {xa13 : Bool} {xc13 : Option Bool} {xd13 : Option Addr} {xe13 xf13 xg13 xh13 xi13 : Option Value}
    {C14 : Addr} {xn14 xq14 : Str} {xN14 : Addr} {xb14 xs14 : List Value} {xl14 : List Str} {xa14 : Bool} {xc14 : Option Bool} {xd14 : Option Addr} {xe14 xf14 xg14 xh14 xi14 : Option Value}
    {C15 : Addr} {xn15 xq15 : Str} {xN15 : Addr} {xb15 xs15 : List Value} {xl15 : List Str} {xa15 : Bool} {xc15 : Option Bool} {xd15 : Option Addr} {xe15 xf15 xg15 xh15 xi15 : Option Value}
    {C16 : Addr} {xn16 xq16 : Str} {xN16 : Addr} {xb16 xs16 : List Value} {xl16 : List Str} {xa16 : Bool} {xc16 : Option Bool} {xd16 : Option Addr} {xe16 xf16 xg16 xh16 xi16 : Option Value}
    (a0 : PySem.W.nsIn K mainGlobals "_law_draws" = some (some (.ref f0))) (l0 : K.lookup f0 = some ⟨oc0, od0, .func (PySem.W.fnOf "_law_draws" "_law_draws" (defArgs s_law_draws) (defBody s_law_draws) (defScope s_law_draws) .none kV0 dc0 pm0 an0 cd0 ct0), sl0⟩) (c0 : PySem.W.codeIn K cd0 "_law_draws" = true) (k0 : PySem.W.keepIn K (.ref f0) = true)
    (a1 : PySem.W.nsIn K mainGlobals "_law_draw" = some (some (.ref f1))) (l1 : K.lookup f1 = some ⟨oc1, od1, .func (PySem.W.fnOf "_law_draw" "_law_draw" (defArgs s_law_draw) (defBody s_law_draw) (defScope s_law_draw) .none kV1 dc1 pm1 an1 cd1 ct1), sl1⟩) (c1 : PySem.W.codeIn K cd1 "_law_draw" = true) (k1 : PySem.W.keepIn K (.ref f1) = true)
    (a2 : PySem.W.nsIn K mainGlobals "need_coins" = some (some (.ref f2))) (l2 : K.lookup f2 = some ⟨oc2, od2, .func (PySem.W.fnOf "need_coins" "need_coins" (defArgs s_need_coins) (defBody s_need_coins) (defScope s_need_coins) .none kV2 dc2 pm2 an2 cd2 ct2), sl2⟩) (c2 : PySem.W.codeIn K cd2 "need_coins" = true) (k2 : PySem.W.keepIn K (.ref f2) = true)
    (a3 : PySem.W.nsIn K mainGlobals "summed" = some (some (.ref f3))) (l3 : K.lookup f3 = some ⟨oc3, od3, .func (PySem.W.fnOf "summed" "summed" (defArgs s_summed) (defBody s_summed) (defScope s_summed) .none kV3 dc3 pm3 an3 cd3 ct3), sl3⟩) (c3 : PySem.W.codeIn K cd3 "summed" = true) (k3 : PySem.W.keepIn K (.ref f3) = true)
    (a4 : PySem.W.nsIn K mainGlobals "all_ways" = some (some (.ref f4))) (l4 : K.lookup f4 = some ⟨oc4, od4, .func (PySem.W.fnOf "all_ways" "all_ways" (defArgs s_all_ways) (defBody s_all_ways) (defScope s_all_ways) .none kV4 dc4 pm4 an4 cd4 ct4), sl4⟩) (c4 : PySem.W.codeIn K cd4 "all_ways" = true) (k4 : PySem.W.keepIn K (.ref f4) = true)
    (a5 : PySem.W.nsIn K mainGlobals "ways_to" = some (some (.ref f5))) (l5 : K.lookup f5 = some ⟨oc5, od5, .func (PySem.W.fnOf "ways_to" "ways_to" (defArgs s_ways_to) (defBody s_ways_to) (defScope s_ways_to) .none kV5 dc5 pm5 an5 cd5 ct5), sl5⟩) (c5 : PySem.W.codeIn K cd5 "ways_to" = true) (k5 : PySem.W.keepIn K (.ref f5) = true)
    (a6 : PySem.W.nsIn K mainGlobals "ways" = some (some (.ref f6))) (l6 : K.lookup f6 = some ⟨oc6, od6, .func (PySem.W.fnOf "ways" "ways" (defArgs s_ways) (defBody s_ways) (defScope s_ways) .none kV6 dc6 pm6 an6 cd6 ct6), sl6⟩) (c6 : PySem.W.codeIn K cd6 "ways" = true) (k6 : PySem.W.keepIn K (.ref f6) = true)
    (a7 : PySem.W.nsIn K mainGlobals "_law_common" = some (some (.ref f7))) (l7 : K.lookup f7 = some ⟨oc7, od7, .func (PySem.W.fnOf "_law_common" "_law_common" (defArgs s_law_common) (defBody s_law_common) (defScope s_law_common) .none kV7 dc7 pm7 an7 cd7 ct7), sl7⟩) (c7 : PySem.W.codeIn K cd7 "_law_common" = true) (k7 : PySem.W.keepIn K (.ref f7) = true)
    (a8 : PySem.W.nsIn K mainGlobals "_law_whole" = some (some (.ref f8))) (l8 : K.lookup f8 = some ⟨oc8, od8, .func (PySem.W.fnOf "_law_whole" "_law_whole" (defArgs s_law_whole) (defBody s_law_whole) (defScope s_law_whole) .none kV8 dc8 pm8 an8 cd8 ct8), sl8⟩) (c8 : PySem.W.codeIn K cd8 "_law_whole" = true) (k8 : PySem.W.keepIn K (.ref f8) = true)
    (a9 : PySem.W.nsIn K mainGlobals "divisor" = some (some (.ref f9))) (l9 : K.lookup f9 = some ⟨oc9, od9, .func (PySem.W.fnOf "divisor" "divisor" (defArgs s_divisor) (defBody s_divisor) (defScope s_divisor) .none kV9 dc9 pm9 an9 cd9 ct9), sl9⟩) (c9 : PySem.W.codeIn K cd9 "divisor" = true) (k9 : PySem.W.keepIn K (.ref f9) = true)
    (a10 : PySem.W.nsIn K mainGlobals "many_unpaid" = some (some (.ref f10))) (l10 : K.lookup f10 = some ⟨oc10, od10, .func (PySem.W.fnOf "many_unpaid" "many_unpaid" (defArgs s_many_unpaid) (defBody s_many_unpaid) (defScope s_many_unpaid) .none kV10 dc10 pm10 an10 cd10 ct10), sl10⟩) (c10 : PySem.W.codeIn K cd10 "many_unpaid" = true) (k10 : PySem.W.keepIn K (.ref f10) = true)
    (a11 : PySem.W.nsIn K mainGlobals "last_unpaid" = some (some (.ref f11))) (l11 : K.lookup f11 = some ⟨oc11, od11, .func (PySem.W.fnOf "last_unpaid" "last_unpaid" (defArgs s_last_unpaid) (defBody s_last_unpaid) (defScope s_last_unpaid) .none kV11 dc11 pm11 an11 cd11 ct11), sl11⟩) (c11 : PySem.W.codeIn K cd11 "last_unpaid" = true) (k11 : PySem.W.keepIn K (.ref f11) = true)
    (a12 : PySem.W.nsIn K mainGlobals "_law_kind_of" = some (some (.ref f12))) (l12 : K.lookup f12 = some ⟨oc12, od12, .func (PySem.W.fnOf "_law_kind_of" "_law_kind_of" (defArgs s_law_kind_of) (defBody s_law_kind_of) (defScope s_law_kind_of) .none kV12 dc12 pm12 an12 cd12 ct12), sl12⟩) (c12 : PySem.W.codeIn K cd12 "_law_kind_of" = true) (k12 : PySem.W.keepIn K (.ref f12) = true)
    (a13 : PySem.W.nsIn K mainGlobals "_law_kind" = some (some (.ref f13))) (l13 : K.lookup f13 = some ⟨oc13, od13, .func (PySem.W.fnOf "_law_kind" "_law_kind" (defArgs s_law_kind) (defBody s_law_kind) (defScope s_law_kind) .none kV13 dc13 pm13 an13 cd13 ct13), sl13⟩) (c13 : PySem.W.codeIn K cd13 "_law_kind" = true) (k13 : PySem.W.keepIn K (.ref f13) = true)
    (a14 : PySem.W.nsIn K mainGlobals "law" = some (some (.ref f14))) (l14 : K.lookup f14 = some ⟨oc14, od14, .func (PySem.W.fnOf "law" "law" (defArgs s_law) (defBody s_law) (defScope s_law) .none kV14 dc14 pm14 an14 cd14 ct14), sl14⟩) (c14 : PySem.W.codeIn K cd14 "law" = true) (k14 : PySem.W.keepIn K (.ref f14) = true)
    (z_ValueError : PySem.W.nsIn K mainGlobals "ValueError" = some none)
    (z_abs : PySem.W.nsIn K mainGlobals "abs" = some none)
    (z_bool : PySem.W.nsIn K mainGlobals "bool" = some none)
    (z_int : PySem.W.nsIn K mainGlobals "int" = some none)
    (z_isinstance : PySem.W.nsIn K mainGlobals "isinstance" = some none)
    (z_len : PySem.W.nsIn K mainGlobals "len" = some none)
    (z_max : PySem.W.nsIn K mainGlobals "max" = some none)
    (z_min : PySem.W.nsIn K mainGlobals "min" = some none)
    (z_range : PySem.W.nsIn K mainGlobals "range" = some none)
    (z_sum : PySem.W.nsIn K mainGlobals "sum" = some none)
    (z_zip : PySem.W.nsIn K mainGlobals "zip" = some none)
    (xA0 : PySem.W.nsIn K mainGlobals "StairError" = some (some (.ref C0))) (xL0 : K.lookup C0 = some (excClassObj xn0 xq0 C0 xN0 xb0 vE true xl0 xs0 xa0 xc0 xd0 xe0 xf0 xg0 xh0 xi0 "ValueError.__new__"))
    (xA1 : PySem.W.nsIn K mainGlobals "NoBounds" = some (some (.ref C1))) (xL1 : K.lookup C1 = some (excClassObj xn1 xq1 C1 xN1 xb1 (.ref C0 :: vE) true xl1 xs1 xa1 xc1 xd1 xe1 xf1 xg1 xh1 xi1 "ValueError.__new__"))
    (xA2 : PySem.W.nsIn K mainGlobals "NoCoins" = some (some (.ref C2))) (xL2 : K.lookup C2 = some (excClassObj xn2 xq2 C2 xN2 xb2 (.ref C0 :: vE) true xl2 xs2 xa2 xc2 xd2 xe2 xf2 xg2 xh2 xi2 "ValueError.__new__"))
    (xA3 : PySem.W.nsIn K mainGlobals "NoCount" = some (some (.ref C3))) (xL3 : K.lookup C3 = some (excClassObj xn3 xq3 C3 xN3 xb3 (.ref C0 :: vE) true xl3 xs3 xa3 xc3 xd3 xe3 xf3 xg3 xh3 xi3 "ValueError.__new__"))
    (xA4 : PySem.W.nsIn K mainGlobals "NoEntry" = some (some (.ref C4))) (xL4 : K.lookup C4 = some (excClassObj xn4 xq4 C4 xN4 xb4 (.ref C0 :: vE) true xl4 xs4 xa4 xc4 xd4 xe4 xf4 xg4 xh4 xi4 "ValueError.__new__"))
    (xA5 : PySem.W.nsIn K mainGlobals "NoName" = some (some (.ref C5))) (xL5 : K.lookup C5 = some (excClassObj xn5 xq5 C5 xN5 xb5 (.ref C0 :: vE) true xl5 xs5 xa5 xc5 xd5 xe5 xf5 xg5 xh5 xi5 "ValueError.__new__"))
    (xA6 : PySem.W.nsIn K mainGlobals "NoPartner" = some (some (.ref C6))) (xL6 : K.lookup C6 = some (excClassObj xn6 xq6 C6 xN6 xb6 (.ref C0 :: vE) true xl6 xs6 xa6 xc6 xd6 xe6 xf6 xg6 xh6 xi6 "ValueError.__new__"))
    (xA7 : PySem.W.nsIn K mainGlobals "NoPower" = some (some (.ref C7))) (xL7 : K.lookup C7 = some (excClassObj xn7 xq7 C7 xN7 xb7 (.ref C0 :: vE) true xl7 xs7 xa7 xc7 xd7 xe7 xf7 xg7 xh7 xi7 "ValueError.__new__"))
    (xA8 : PySem.W.nsIn K mainGlobals "NoRing" = some (some (.ref C8))) (xL8 : K.lookup C8 = some (excClassObj xn8 xq8 C8 xN8 xb8 (.ref C0 :: vE) true xl8 xs8 xa8 xc8 xd8 xe8 xf8 xg8 xh8 xi8 "ValueError.__new__"))
    (xA9 : PySem.W.nsIn K mainGlobals "NoRise" = some (some (.ref C9))) (xL9 : K.lookup C9 = some (excClassObj xn9 xq9 C9 xN9 xb9 (.ref C0 :: vE) true xl9 xs9 xa9 xc9 xd9 xe9 xf9 xg9 xh9 xi9 "ValueError.__new__"))
    (xA10 : PySem.W.nsIn K mainGlobals "NoRow" = some (some (.ref C10))) (xL10 : K.lookup C10 = some (excClassObj xn10 xq10 C10 xN10 xb10 (.ref C0 :: vE) true xl10 xs10 xa10 xc10 xd10 xe10 xf10 xg10 xh10 xi10 "ValueError.__new__"))
    (xA11 : PySem.W.nsIn K mainGlobals "NoStair" = some (some (.ref C11))) (xL11 : K.lookup C11 = some (excClassObj xn11 xq11 C11 xN11 xb11 (.ref C0 :: vE) true xl11 xs11 xa11 xc11 xd11 xe11 xf11 xg11 xh11 xi11 "ValueError.__new__"))
    (xA12 : PySem.W.nsIn K mainGlobals "NoSteps" = some (some (.ref C12))) (xL12 : K.lookup C12 = some (excClassObj xn12 xq12 C12 xN12 xb12 (.ref C0 :: vE) true xl12 xs12 xa12 xc12 xd12 xe12 xf12 xg12 xh12 xi12 "ValueError.__new__"))
    (xA13 : PySem.W.nsIn K mainGlobals "NoText" = some (some (.ref C13))) (xL13 : K.lookup C13 = some (excClassObj xn13 xq13 C13 xN13 xb13 (.ref C0 :: vE) true xl13 xs13 xa13 xc13 xd13 xe13 xf13 xg13 xh13 xi13 "ValueError.__new__"))
    (xA14 : PySem.W.nsIn K mainGlobals "NoWalker" = some (some (.ref C14))) (xL14 : K.lookup C14 = some (excClassObj xn14 xq14 C14 xN14 xb14 (.ref C0 :: vE) true xl14 xs14 xa14 xc14 xd14 xe14 xf14 xg14 xh14 xi14 "ValueError.__new__"))
    (xA15 : PySem.W.nsIn K mainGlobals "NothingLeft" = some (some (.ref C15))) (xL15 : K.lookup C15 = some (excClassObj xn15 xq15 C15 xN15 xb15 (.ref C0 :: vE) true xl15 xs15 xa15 xc15 xd15 xe15 xf15 xg15 xh15 xi15 "ValueError.__new__"))
    (xA16 : PySem.W.nsIn K mainGlobals "TooMany" = some (some (.ref C16))) (xL16 : K.lookup C16 = some (excClassObj xn16 xq16 C16 xN16 xb16 (.ref C0 :: vE) true xl16 xs16 xa16 xc16 xd16 xe16 xf16 xg16 xh16 xi16 "ValueError.__new__"))
    (xNe : [C0, C1, C2, C3, C4, C5, C6, C7, C8, C9, C10, C11, C12, C13, C14, C15, C16].Nodup) (xHn : PySem.W.specialIn K (.builtin "object.__class__") "__get__" = some (some (.builtin "getset_descriptor.__get__"))) (xHt : PySem.W.takesIn K (.builtin "object.__class__") = some true)
    (yK2 : PySem.W.keepIn K (.ref C2) = true) (yE2 : PySem.W.excIn K C2 vE "ValueError.__new__" = true) (yG2 : PySem.W.findIn K (.ref C2) "__getattribute__" = some (some (.builtin "BaseException.__getattribute__"))) (yT2 : PySem.W.findIn K (.ref C2) "__getattr__" = some none) (yC2 : PySem.W.findIn K (.ref C2) "__class__" = some (some (.builtin "object.__class__")))
    : ∃ fd : FuncData, (∀ (s : Shared) (v : Value), BindsTo s fd ⟨[v], []⟩ [("script", v)]) ∧ ∀ base : Heap, K.In base → base.Ns mainGlobals mg → FnOk l.prog w K mg base CX0 6 fa fd ["script"] (sp_law K) := by
  have D_law_draws : DefAt K mg "_law_draws" s_law_draws ["script", "k"] := def_mk X G a0 l0 c0 k0 fun _ _ _ _ _ _ us hl => match us, hl with | [_, _], _ => rfl
  have D_law_draw : DefAt K mg "_law_draw" s_law_draw ["draws", "many"] := def_mk X G a1 l1 c1 k1 fun _ _ _ _ _ _ us hl => match us, hl with | [_, _], _ => rfl
  have D_need_coins : DefAt K mg "need_coins" s_need_coins ["p", "q"] := def_mk X G a2 l2 c2 k2 fun _ _ _ _ _ _ us hl => match us, hl with | [_, _], _ => rfl
  have D_summed : DefAt K mg "summed" s_summed ["n", "a", "b", "m"] := def_mk X G a3 l3 c3 k3 fun _ _ _ _ _ _ us hl => match us, hl with | [_, _, _, _], _ => rfl
  have D_all_ways : DefAt K mg "all_ways" s_all_ways ["p", "q", "c"] := def_mk X G a4 l4 c4 k4 fun _ _ _ _ _ _ us hl => match us, hl with | [_, _, _], _ => rfl
  have D_ways_to : DefAt K mg "ways_to" s_ways_to ["p", "q", "c"] := def_mk X G a5 l5 c5 k5 fun _ _ _ _ _ _ us hl => match us, hl with | [_, _, _], _ => rfl
  have D_ways : DefAt K mg "ways" s_ways ["p", "q", "c"] := def_mk X G a6 l6 c6 k6 fun _ _ _ _ _ _ us hl => match us, hl with | [_, _, _], _ => rfl
  have D_law_common : DefAt K mg "_law_common" s_law_common ["one", "other"] := def_mk X G a7 l7 c7 k7 fun _ _ _ _ _ _ us hl => match us, hl with | [_, _], _ => rfl
  have D_law_whole : DefAt K mg "_law_whole" s_law_whole ["thing"] := def_mk X G a8 l8 c8 k8 fun _ _ _ _ _ _ us hl => match us, hl with | [_], _ => rfl
  have D_divisor : DefAt K mg "divisor" s_divisor ["one", "other"] := def_mk X G a9 l9 c9 k9 fun _ _ _ _ _ _ us hl => match us, hl with | [_, _], _ => rfl
  have D_many_unpaid : DefAt K mg "many_unpaid" s_many_unpaid ["p", "q"] := def_mk X G a10 l10 c10 k10 fun _ _ _ _ _ _ us hl => match us, hl with | [_, _], _ => rfl
  have D_last_unpaid : DefAt K mg "last_unpaid" s_last_unpaid ["p", "q"] := def_mk X G a11 l11 c11 k11 fun _ _ _ _ _ _ us hl => match us, hl with | [_, _], _ => rfl
  have D_law_kind_of : DefAt K mg "_law_kind_of" s_law_kind_of ["e"] := def_mk X G a12 l12 c12 k12 fun _ _ _ _ _ _ us hl => match us, hl with | [_], _ => rfl
  have D_law_kind : DefAt K mg "_law_kind" s_law_kind ["door", "p", "q"] := def_mk X G a13 l13 c13 k13 fun _ _ _ _ _ _ us hl => match us, hl with | [_, _, _], _ => rfl
  have D_law : DefAt K mg "law" s_law ["script"] := def_mk X G a14 l14 c14 k14 fun _ _ _ _ _ _ us hl => match us, hl with | [_], _ => rfl
  have XT0 : XT K mg ⟨C0, C1, C2, C3, C4, C5, C6, C7, C8, C9, C10, C11, C12, C13, C14, C15, C16⟩ := ⟨PySem.W.mg_of X G xA0, ⟨_, _, _, _, _, _, _, _, _, _, _, _, _, _, xL0⟩, PySem.W.mg_of X G xA1, ⟨_, _, _, _, _, _, _, _, _, _, _, _, _, _, xL1⟩, PySem.W.mg_of X G xA2, ⟨_, _, _, _, _, _, _, _, _, _, _, _, _, _, xL2⟩, PySem.W.mg_of X G xA3, ⟨_, _, _, _, _, _, _, _, _, _, _, _, _, _, xL3⟩, PySem.W.mg_of X G xA4, ⟨_, _, _, _, _, _, _, _, _, _, _, _, _, _, xL4⟩, PySem.W.mg_of X G xA5, ⟨_, _, _, _, _, _, _, _, _, _, _, _, _, _, xL5⟩, PySem.W.mg_of X G xA6, ⟨_, _, _, _, _, _, _, _, _, _, _, _, _, _, xL6⟩, PySem.W.mg_of X G xA7, ⟨_, _, _, _, _, _, _, _, _, _, _, _, _, _, xL7⟩, PySem.W.mg_of X G xA8, ⟨_, _, _, _, _, _, _, _, _, _, _, _, _, _, xL8⟩, PySem.W.mg_of X G xA9, ⟨_, _, _, _, _, _, _, _, _, _, _, _, _, _, xL9⟩, PySem.W.mg_of X G xA10, ⟨_, _, _, _, _, _, _, _, _, _, _, _, _, _, xL10⟩, PySem.W.mg_of X G xA11, ⟨_, _, _, _, _, _, _, _, _, _, _, _, _, _, xL11⟩, PySem.W.mg_of X G xA12, ⟨_, _, _, _, _, _, _, _, _, _, _, _, _, _, xL12⟩, PySem.W.mg_of X G xA13, ⟨_, _, _, _, _, _, _, _, _, _, _, _, _, _, xL13⟩, PySem.W.mg_of X G xA14, ⟨_, _, _, _, _, _, _, _, _, _, _, _, _, _, xL14⟩, PySem.W.mg_of X G xA15, ⟨_, _, _, _, _, _, _, _, _, _, _, _, _, _, xL15⟩, PySem.W.mg_of X G xA16, ⟨_, _, _, _, _, _, _, _, _, _, _, _, _, _, xL16⟩, xNe, xHn, xHt⟩
  have Y_NoCoins : XD K C2 := ⟨yK2, yE2, yG2, yT2, yC2⟩
  have e := hfa.symm.trans (PySem.W.mg_of X G a14)
  cases e
  refine ⟨PySem.W.fnOf "law" "law" (defArgs s_law) (defBody s_law) (defScope s_law) .none kV14 dc14 pm14 an14 cd14 ct14, fun s v => .of_eq rfl, fun base _ _ => ?_⟩
  have B_ValueError := PySem.W.mg_none_of X G z_ValueError
  have B_abs := PySem.W.mg_none_of X G z_abs
  have B_bool := PySem.W.mg_none_of X G z_bool
  have B_int := PySem.W.mg_none_of X G z_int
  have B_isinstance := PySem.W.mg_none_of X G z_isinstance
  have B_len := PySem.W.mg_none_of X G z_len
  have B_max := PySem.W.mg_none_of X G z_max
  have B_min := PySem.W.mg_none_of X G z_min
  have B_range := PySem.W.mg_none_of X G z_range
  have B_sum := PySem.W.mg_none_of X G z_sum
  have B_zip := PySem.W.mg_none_of X G z_zip
  have G_law_draws := ok_law_draws (P := l.prog) (w := w) (base := base) D_law_draws B_len B_int
  have G_law_draw := ok_law_draw (P := l.prog) (w := w) (base := base) D_law_draw
  have G_need_coins := ok_need_coins (P := l.prog) (w := w) (base := base) D_need_coins
  have G_summed := ok_summed (P := l.prog) (w := w) (base := base) D_summed
  have G_all_ways := ok_all_ways (P := l.prog) (w := w) (base := base) D_all_ways G_summed
  have G_ways_to := ok_ways_to (P := l.prog) (w := w) (base := base) D_ways_to G_need_coins G_all_ways
  have G_ways := ok_ways (P := l.prog) (w := w) (base := base) D_ways G_need_coins G_all_ways
  have G_law_common := ok_law_common (P := l.prog) (w := w) (base := base) D_law_common B_abs
  have G_law_whole := ok_law_whole (P := l.prog) (w := w) (base := base) D_law_whole B_isinstance B_int B_bool
  have G_divisor := ok_divisor (P := l.prog) (w := w) (base := base) D_divisor B_abs
  have G_many_unpaid := ok_many_unpaid (P := l.prog) (w := w) (base := base) D_many_unpaid G_need_coins G_divisor
  have G_last_unpaid := ok_last_unpaid (P := l.prog) (w := w) (base := base) D_last_unpaid G_need_coins G_divisor
  have R_need_coins := okR_need_coins (P := l.prog) (w := w) (base := base) D_need_coins XT0 Y_NoCoins
  have R_ways := okR_ways (P := l.prog) (w := w) (base := base) D_ways G_need_coins R_need_coins G_all_ways
  have R_ways_to := okR_ways_to (P := l.prog) (w := w) (base := base) D_ways_to G_need_coins R_need_coins G_all_ways
  have R_last_unpaid := okR_last_unpaid (P := l.prog) (w := w) (base := base) D_last_unpaid G_need_coins R_need_coins G_divisor
  have R_many_unpaid := okR_many_unpaid (P := l.prog) (w := w) (base := base) D_many_unpaid G_need_coins R_need_coins G_divisor
  have G_law_kind_of := ok_law_kind_of (P := l.prog) (w := w) (base := base) D_law_kind_of B_isinstance B_ValueError B_zip XT0
  have G_law_kind := ok_law_kind (P := l.prog) (w := w) (base := base) D_law_kind XT0 Y_NoCoins G_ways R_ways G_ways_to R_ways_to G_last_unpaid R_last_unpaid G_many_unpaid R_many_unpaid G_law_kind_of
  exact ok_law (fun_mk (st := s_law) l14 c14 k14) B_range B_max B_min B_len B_int B_sum G_law_draws G_law_draw G_ways_to G_ways G_law_common G_law_whole G_many_unpaid G_last_unpaid G_law_kind
theorem walk {l : PySem.W.OpenLaw} {q : Program} {loose : List Str} {XP : (Str → Option Value) → Heap → Prop} {YP : World → Heap → Prop} {d : DefRec} {K : Params → PySem.W.Frag} (hn : l.most = some 63) (hdf : d.params.defaults = [])
    (hY : ∀ (w : World) (h : Heap), YP w h → (K w.params).In h)
    (F : ∀ (w : World) (mg : Str → Option Value) (fa : Addr) (h : Heap), (K w.params).In h → h.Ns mainGlobals mg → mg d.name = some (.ref fa) →
      ∃ fd : FuncData, (∀ (s : Shared) (u : Value), BindsTo s fd ⟨[u], []⟩ [("script", u)]) ∧ ∀ base : Heap, (K w.params).In base → base.Ns mainGlobals mg → FnOk l.prog w (K w.params) mg base CX0 6 fa fd ["script"] (sp_law (K w.params))) :
    PySem.W.WalkO q loose XP YP l.row.toRowW d [] (fun f vs => PySem.call f vs) :=
  L2.walk_of (n := 63) (k := 6) (x := "script") (CX := fun _ => CX0) (sp := fun w => sp_law (K w.params)) hn (by decide) hdf ⟨rfl, by decide, by decide⟩ hY F (fun _ _ a ns hl _ hS => ⟨a, ns, rfl, hS, hl, fun _ => rfl⟩) fun _ _ _ _ _ z => z
end Sd
open PySem PySem.W PyProof.Rows
set_option maxRecDepth 100000 in
set_option maxHeartbeats 0 in
theorem PySem.Challenge.cw_stairsum_k36_two_coins_holds : PySem.Challenge.rw_stairsum_k36_two_coins.Holds := by
  w_on; o_law; k_head; (case hw => w_witness2)
  k_fill
  refine Sd.walk (l := PySem.Challenge.rw_stairsum_k36_two_coins) rfl rfl (fun w h Y => PySem.W.kIn_of Y) ?F
  case F =>
    intro w mg fa h KX G hmg
    refine' Sd.all_mk KX G hmg ?a0 ?l0 ?c0 ?k0 ?a1 ?l1 ?c1 ?k1 ?a2 ?l2 ?c2 ?k2 ?a3 ?l3 ?c3 ?k3 ?a4 ?l4 ?c4 ?k4 ?a5 ?l5 ?c5 ?k5 ?a6 ?l6 ?c6 ?k6 ?a7 ?l7 ?c7 ?k7 ?a8 ?l8 ?c8 ?k8 ?a9 ?l9 ?c9 ?k9 ?a10 ?l10 ?c10 ?k10 ?a11 ?l11 ?c11 ?k11 ?a12 ?l12 ?c12 ?k12 ?a13 ?l13 ?c13 ?k13 ?a14 ?l14 ?c14 ?k14 ?z_ValueError ?z_abs ?z_bool ?z_int ?z_isinstance ?z_len ?z_max ?z_min ?z_range ?z_sum ?z_zip ?xA0 ?xL0 ?xA1 ?xL1 ?xA2 ?xL2 ?xA3 ?xL3 ?xA4 ?xL4 ?xA5 ?xL5 ?xA6 ?xL6 ?xA7 ?xL7 ?xA8 ?xL8 ?xA9 ?xL9 ?xA10 ?xL10 ?xA11 ?xL11 ?xA12 ?xL12 ?xA13 ?xL13 ?xA14 ?xL14 ?xA15 ?xL15 ?xA16 ?xL16 ?xNe ?xHn ?xHt ?yK2 ?yE2 ?yG2 ?yT2 ?yC2
    (case a0 => k_is)
    (case l0 => k_is)
    (case c0 => k_is)
    (case k0 => k_is)
    (case a1 => k_is)
    (case l1 => k_is)
    (case c1 => k_is)
    (case k1 => k_is)
    (case a2 => k_is)
    (case l2 => k_is)
    (case c2 => k_is)
    (case k2 => k_is)
    (case a3 => k_is)
    (case l3 => k_is)
    (case c3 => k_is)
    (case k3 => k_is)
    (case a4 => k_is)
    (case l4 => k_is)
    (case c4 => k_is)
    (case k4 => k_is)
    (case a5 => k_is)
    (case l5 => k_is)
    (case c5 => k_is)
    (case k5 => k_is)
    (case a6 => k_is)
    (case l6 => k_is)
    (case c6 => k_is)
    (case k6 => k_is)
    (case a7 => k_is)
    (case l7 => k_is)
    (case c7 => k_is)
    (case k7 => k_is)
    (case a8 => k_is)
    (case l8 => k_is)
    (case c8 => k_is)
    (case k8 => k_is)
    (case a9 => k_is)
    (case l9 => k_is)
    (case c9 => k_is)
    (case k9 => k_is)
    (case a10 => k_is)
    (case l10 => k_is)
    (case c10 => k_is)
    (case k10 => k_is)
    (case a11 => k_is)
    (case l11 => k_is)
    (case c11 => k_is)
    (case k11 => k_is)
    (case a12 => k_is)
    (case l12 => k_is)
    (case c12 => k_is)
    (case k12 => k_is)
    (case a13 => k_is)
    (case l13 => k_is)
    (case c13 => k_is)
    (case k13 => k_is)
    (case a14 => k_is)
    (case l14 => k_is)
    (case c14 => k_is)
    (case k14 => k_is)
    (case z_ValueError => k_is)
    (case z_abs => k_is)
    (case z_bool => k_is)
    (case z_int => k_is)
    (case z_isinstance => k_is)
    (case z_len => k_is)
    (case z_max => k_is)
    (case z_min => k_is)
    (case z_range => k_is)
    (case z_sum => k_is)
    (case z_zip => k_is)
    (case xA0 => k_is)
    (case xL0 => k_is)
    (case xA1 => k_is)
    (case xL1 => k_is)
    (case xA2 => k_is)
    (case xL2 => k_is)
    (case xA3 => k_is)
    (case xL3 => k_is)
    (case xA4 => k_is)
    (case xL4 => k_is)
    (case xA5 => k_is)
    (case xL5 => k_is)
    (case xA6 => k_is)
    (case xL6 => k_is)
    (case xA7 => k_is)
    (case xL7 => k_is)
    (case xA8 => k_is)
    (case xL8 => k_is)
    (case xA9 => k_is)
    (case xL9 => k_is)
    (case xA10 => k_is)
    (case xL10 => k_is)
    (case xA11 => k_is)
    (case xL11 => k_is)
    (case xA12 => k_is)
    (case xL12 => k_is)
    (case xA13 => k_is)
    (case xL13 => k_is)
    (case xA14 => k_is)
    (case xL14 => k_is)
    (case xA15 => k_is)
    (case xL15 => k_is)
    (case xA16 => k_is)
    (case xL16 => k_is)
    (case xNe => decide)
    (case xHn => k_is)
    (case xHt => k_is)
    (case yK2 => k_is)
    (case yE2 => k_exc)
    (case yG2 => k_is)
    (case yT2 => k_is)
    (case yC2 => k_is)

