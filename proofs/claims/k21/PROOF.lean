import PyProof.Rows.All
import Wide.All
import OpenK.AllK
import Wide.FinOn
import HandS.ForMost
import HandS.Exc
import HandS.TryOnly
import HandS.ExcOwn
import HandS.WordsExc
import HandS.Wide
import HandS.WideMore
import HandS.Flow
import HandS.IsInst
import HandS.Style
import HandS.SortInts
import HandS.TupAny
import HandS.Flt
import PyProof.LongRange
import PySem.Challenge.RW_stairsum_k21_lows_one_by_one
set_option Elab.async false
set_option linter.all false
set_option maxRecDepth 100000
set_option maxHeartbeats 4000000
set_option Elab.async false
set_option linter.all false
set_option maxRecDepth 100000
set_option maxHeartbeats 4000000
/-! The prelude: heaps, readings step by step, sizes, defs of the top by name. -/
namespace Sd
open PySem PySem.Spec PyProof.Rows L2

/-! ### heaps -/
def Ex (H H' : Hp) : Prop := ∀ a o, H a = some o → H' a = some o
/-- all but what stands at d is kept -/
def Kp (d : Addr) (H H' : Hp) : Prop := ∀ a o, a ≠ d → H a = some o → H' a = some o
theorem Ex.at {H H' : Hp} {a : Addr} {o : HO} (e : Ex H H') (h : H a = some o) : H' a = some o := e a o h
theorem Ex.refl {H : Hp} : Ex H H := fun _ _ h => h
theorem Ex.trans {H H1 H2 : Hp} (a : Ex H H1) (b : Ex H1 H2) : Ex H H2 := fun x o h => b x o (a x o h)
theorem Ex.kp {H H' : Hp} {d : Addr} (e : Ex H H') : Kp d H H' := fun a o _ h => e a o h
theorem Kp.refl {H : Hp} {d : Addr} : Kp d H H := fun _ _ _ h => h
theorem Kp.trans {H H1 H2 : Hp} {d : Addr} (a : Kp d H H1) (b : Kp d H1 H2) : Kp d H H2 := fun x o n h => b x o n (a x o n h)
theorem Ex.kpd {H H1 H2 : Hp} {d : Addr} (e : Ex H H1) (n : H d = none) (b : Kp d H1 H2) : Ex H H2 := fun x o h => b x o (ne_of_none h n) (e x o h)
theorem Ex.new {H : Hp} {p : Addr} {o : HO} (h : H p = none) : Ex H (upd H p o) := fun a u e => by
  rw [upd_ne (ne_of_none e h)]
  exact e
theorem Kp.upd {H : Hp} {d : Addr} {o : HO} : Kp d H (upd H d o) := fun a u n e => by
  rw [upd_ne n]
  exact e
theorem free_back {H H' : Hp} {p : Addr} (e : Ex H H') (h : H' p = none) : H p = none := by
  cases h1 : H p with
  | none => rfl
  | some o =>
    rw [e p o h1] at h
    cases h
theorem rd_up {H H' : Hp} {a : Addr} {u : HO} (e : Ex H H') (h : Rd H a u) : Rd H' a u := by
  rcases h with h | ⟨o, h⟩
  · exact Or.inl (e a _ h)
  · exact Or.inr ⟨o, e a _ h⟩
theorem sql_up {K : PySem.W.Frag} {H H' : Hp} {a : Addr} {xs : List V} (e : Ex H H') (h : SqL K H a xs) : SqL K H' a xs := by
  rcases h with h | h
  · exact Or.inl (rd_up e h)
  · exact Or.inr h
theorem sqt_up {K : PySem.W.Frag} {H H' : Hp} {a : Addr} {xs : List V} (e : Ex H H') (h : SqT K H a xs) : SqT K H' a xs := by
  rcases h with h | h
  · exact Or.inl (rd_up e h)
  · exact Or.inr h
/-- the list of drawn digits at d -/
def Dr (H : Hp) (d : Addr) : Prop := ∃ x y : Int, H d = some (.lst [.int x, .int y]) ∧ 0 ≤ y ∧ y < 2147483647
theorem Dr.up {H H' : Hp} {d : Addr} (D : Dr H d) (e : Ex H H') : Dr H' d := by
  obtain ⟨x, y, h, r⟩ := D
  exact ⟨x, y, e _ _ h, r⟩
theorem Kp.tup {H H' : Hp} {d p : Addr} {xs : List V} (k : Kp d H H') (D : Dr H d) (h : H p = some (.tup xs)) : H' p = some (.tup xs) := by
  obtain ⟨x, y, e, _⟩ := D
  exact k _ _ (ne_of h e (by intro z; cases z)) h
theorem Kp.frz {H H' : Hp} {d p : Addr} {o : Obj} {u : HO} (k : Kp d H H') (D : Dr H d) (h : H p = some (.frz o u)) : H' p = some (.frz o u) := by
  obtain ⟨x, y, e, _⟩ := D
  exact k _ _ (ne_of h e (by intro z; cases z)) h
theorem Dr.free {H : Hp} {d p : Addr} (D : Dr H d) (h : H p = none) : p ≠ d := fun e => by
  obtain ⟨x, y, k, _⟩ := D
  rw [e, k] at h
  cases h
theorem free_kp {H H' : Hp} {d p : Addr} (e : Kp d H H') (D' : Dr H' d) (h : H' p = none) : H p = none := by
  cases q : H p with
  | none => rfl
  | some o =>
    rw [e p o (D'.free h) q] at h
    cases h
theorem sqt_kp {K : PySem.W.Frag} {H H' : Hp} {d a : Addr} {xs : List V} (e : Kp d H H') (D : Dr H d) (h : SqT K H a xs) : SqT K H' a xs := by
  rcases h with (h | ⟨o, h⟩) | h
  · exact Or.inl (Or.inl (e.tup D h))
  · exact Or.inl (Or.inr ⟨o, e.frz D h⟩)
  · exact Or.inr h

/-! ### sizes -/
def Sz (n : Nat) (x : Int) : Prop := x.natAbs < 2 ^ n
theorem Sz.mono {n m : Nat} {x : Int} (h : Sz n x) (l : n ≤ m) : Sz m x := Nat.lt_of_lt_of_le h (Nat.pow_le_pow_right (by decide) l)
theorem Sz.mul {n m : Nat} {x y : Int} (h : Sz n x) (k : Sz m y) : Sz (n + m) (x * y) := wide_lt h k
theorem Sz.add {n m : Nat} {x y : Int} (h : Sz n x) (k : Sz m y) : Sz (n + m + 1) (x + y) := by
  have h' : x.natAbs < 2 ^ n := h
  have k' : y.natAbs < 2 ^ m := k
  have a : 2 ^ n ≤ 2 ^ (n + m) := Nat.pow_le_pow_right (by decide) (Nat.le_add_right _ _)
  have b : 2 ^ m ≤ 2 ^ (n + m) := Nat.pow_le_pow_right (by decide) (Nat.le_add_left _ _)
  show (x + y).natAbs < 2 ^ (n + m + 1)
  rw [Nat.pow_succ]
  omega
theorem Sz.neg {n : Nat} {x : Int} (h : Sz n x) : Sz n (-x) := by
  show (-x).natAbs < 2 ^ n
  rw [Int.natAbs_neg]
  exact h
theorem Sz.sub {n m : Nat} {x y : Int} (h : Sz n x) (k : Sz m y) : Sz (n + m + 1) (x - y) := by
  have := h.add k.neg
  rw [Int.sub_eq_add_neg]
  exact this
theorem Sz.div {n : Nat} {x y : Int} (h : Sz n x) (p : 0 < y) : Sz n (x / y) := by
  have h' : x.natAbs < 2 ^ n := h
  show (x / y).natAbs < 2 ^ n
  have l : (x / y).natAbs ≤ x.natAbs := by
    have e := Int.emod_add_mul_ediv x y
    have e1 := Int.emod_nonneg x (show y ≠ 0 by omega)
    have e2 := Int.emod_lt_of_pos x p
    by_cases hx : 0 ≤ x
    · have q0 : 0 ≤ x / y := Int.ediv_nonneg hx (by omega)
      have q1 : x / y ≤ x := Int.ediv_le_self _ hx
      omega
    · have q0 : x / y < 0 := Int.ediv_neg_of_neg_of_pos (by omega) p
      have q1 : x ≤ x / y := by
        have : (x / y) * y ≤ (x / y) * 1 := Int.mul_le_mul_of_nonpos_left (by omega) (by omega)
        have e' : x / y * y ≥ x - (y - 1) := by
          have : y * (x / y) = x / y * y := Int.mul_comm _ _
          omega
        by_cases hq : x / y = -1
        · omega
        · have q2 : x / y + 1 ≤ -1 := by omega
          have q3 : (x / y + 1) * y ≤ (x / y + 1) * 1 := Int.mul_le_mul_of_nonpos_left (by omega) (by omega)
          have q4 : (x / y + 1) * y = x / y * y + y := by rw [Int.add_mul, Int.one_mul]
          have : y * (x / y) = x / y * y := Int.mul_comm _ _
          omega
      omega
  omega
theorem Sz.mod {n : Nat} {x y : Int} (h : Sz n y) (p : 0 < y) : Sz n (x % y) := by
  have e1 := Int.emod_nonneg x (show y ≠ 0 by omega)
  have e2 := Int.emod_lt_of_pos x p
  have h' : y.natAbs < 2 ^ n := h
  show (x % y).natAbs < 2 ^ n
  omega
theorem Sz.le {n : Nat} {x y : Int} (h : Sz n y) (a : -y ≤ x) (b : x ≤ y) : Sz n x := by
  have h' : y.natAbs < 2 ^ n := h
  show x.natAbs < 2 ^ n
  omega
theorem Sz.lit {x : Int} (h : x.natAbs < 2 ^ 200 := by decide) : Sz 200 x := h
theorem mulW {i j : Int} {n m : Nat} (a : Sz n i) (b : Sz m j) (h : n + m ≤ 900000 := by decide) : CMulW i j :=
  wide_mul (a.mono (Nat.le_succ n)) (b.mono (Nat.le_succ m)) (Nat.succ_pos _) (Nat.succ_pos _) (by omega)
theorem divW {i j : Int} {n : Nat} (p : 0 < j) (a : Sz n j) (h : n ≤ 8999 := by decide) : CDivW i j :=
  wide_div p (a.mono (Nat.le_succ n)) (Nat.succ_pos _) (by omega)

/-- a product of two numbers, one small or both of a known size -/
def CMulX (i j : Int) : Prop := CMul i j ∨ CMulW i j
theorem op_mulX {X : Cx} : OpR X (binaryOp .Mult) (rI CMulX fun i j => .int (i * j)) := opI fun _ _ _ _ _ _ _ hc q => mul_int q (hc.elim (fun h => h.ok) (fun h => h.ok))
theorem mulX {i j : Int} {n m : Nat} (a : Sz n i) (b : Sz m j) (h : n + m ≤ 900000 := by decide) : CMulX i j := .inr (mulW a b h)
theorem mulR {i j : Int} (h : -(2 ^ 64) < j ∧ j < 2 ^ 64) : CMulX i j := .inl (.inr h)
theorem mulL {i j : Int} (h : -(2 ^ 64) < i ∧ i < 2 ^ 64) : CMulX i j := .inl (.inl h)
/-! ### defs of the top, by their names -/
/-- the def named x stands as st -/
def DefAt (K : PySem.W.Frag) (mg : Str → Option Value) (x : Str) (st : Stmt) (ps : List Str) : Prop :=
  ∃ f fd, Fun K x x st f fd ∧ mg x = some (.ref f) ∧ Binds K fd ps []
/-- the def named x keeps the promise sp -/
def Has (P : Program) (w : World) (K : PySem.W.Frag) (mg : Str → Option Value) (base : Heap) (CX : CXT) (k : Nat) (x : Str) (ps : List Str) (sp : Sp) : Prop :=
  ∃ f fd, mg x = some (.ref f) ∧ PySem.W.keepIn K (.ref f) = true ∧ Binds K fd ps [] ∧ FnOk P w K mg base CX k f fd ps sp
theorem def_mk {K : PySem.W.Frag} {h : Heap} {mg : Str → Option Value} {x : Str} {st : Stmt} {ps : List Str} {f : Addr} {oc : Value} {od an : Option Addr} {osl : Array (Option Value)} {kV doc pm cdv ct : Value} (X : K.In h) (G : h.Ns mainGlobals mg)
    (a : PySem.W.nsIn K mainGlobals x = some (some (.ref f))) (l : K.lookup f = some ⟨oc, od, .func (PySem.W.fnOf x x (defArgs st) (defBody st) (defScope st) .none kV doc pm an cdv ct), osl⟩)
    (c : PySem.W.codeIn K cdv x = true) (k : PySem.W.keepIn K (.ref f) = true)
    (b : ∀ (kV doc pm : Value) (an : Option Addr) (cdv ct : Value) (us : List Value), us.length = ps.length → bindArgs (PySem.W.fnOf x x (defArgs st) (defBody st) (defScope st) .none kV doc pm an cdv ct) ⟨us, []⟩ = pure (ps.zip us)) : DefAt K mg x st ps :=
  ⟨f, _, fun_mk l c k, PySem.W.mg_of X G a, (fun_mk l c k).binds b⟩
section
variable {P : Program} {w : World} {K : PySem.W.Frag} {mg : Str → Option Value} {base : Heap}
theorem DefAt.ok {x : Str} {st : Stmt} {N ps : List Str} {k : Nat} {sp : Sp} (D : DefAt K mg x st ps) (S : FnScope N ps (defScope st)) (len : ∀ vs H Q E, sp vs H Q E → vs.length = ps.length)
    (hbody : ∀ (f : Addr) (cdv : Value) (A : Around) (outer : List Env) (s : Shared) (H : Hp) (vs : List V) (Q : VK) (E : XK), Room k (A.deeper (envOfC x (defScope st) s.heap.objs.size f cdv)) → sp vs H Q E →
      ∃ t, PSs (cxOf CX0 P w K mg base N x (defScope st) f cdv A outer s H E).nox (defBody st) t ∧ t { nx := fun _ H' => Q .non H', rt := Q } (start N vs) H) : Has P w K mg base CX0 (k + 1) x ps sp := by
  obtain ⟨f, fd, F, m, b⟩ := D
  exact ⟨f, fd, m, F.kp, b, F.ok S len fun cdv A outer s H vs Q E hr h => hbody f cdv A outer s H vs Q E hr h⟩
theorem Has.mono {CX : CXT} {x : Str} {ps : List Str} {j k : Nat} {sp : Sp} (G : Has P w K mg base CX j x ps sp) (h : j ≤ k) : Has P w K mg base CX k x ps sp := by
  obtain ⟨f, fd, m, kp, b, F⟩ := G
  exact ⟨f, fd, m, kp, b, F.mono h⟩
end
/-- f(e, ..), f a def of the top; nothing is raised -/
def tCal (sp : Sp) (E : XK) (t : TA) : TE := fun σ H Q => t σ H fun vs H1 => sp vs H1 Q E
section
variable {X : Cx} {x : Str} {p pos : Pos} {e : Expr} {es : List Expr} {t : TA} {k : Nat} {ps : List Str} {sp : Sp}
theorem pcall (G : Has X.prog X.w X.K X.mg X.base CX0 k x ps sp) (hr : Room k X.A) (ha : PA X (e :: es) t) (hg : Gl X x := by rfl)
    (hdb : (x == ("__debug__" : Str)) = false := by decide) (he : starEach (e :: es) X.env = (false, eval e X.env) :: starEach es X.env := by rfl) (hpl : (backTo pos (starEach es X.env)).any (·.1) = false := by rfl) :
    PE X (.Call (.Name x p) (e :: es) [] pos) (tCal sp E0 t) := by
  obtain ⟨f, fd, m, kp, b, F⟩ := G
  have q := pe_call (p := p) F hr hg m kp b (dvs := []) .nil pass0 ha hdb he hpl
  refine ⟨fun pins s σ H Q I h => q.run pins s σ H Q I ?_⟩
  have h' : t σ H fun vs H1 => sp vs H1 Q E0 := h
  show t σ H fun vs H1 => sp (vs ++ []) H1 Q E0
  have ee : (fun (vs : List V) (H1 : Hp) => sp (vs ++ []) H1 Q E0) = fun vs H1 => sp vs H1 Q E0 := by
    funext vs H1
    rw [List.append_nil]
  rw [ee]
  exact h'
end

theorem cx_K {CX : CXT} {P : Program} {w : World} {K : PySem.W.Frag} {mg : Str → Option Value} {base : Heap} {N : List Str} {qual : Str} {scope : Scope} {f : Addr} {cd : Value} {A : Around} {outer : List Env} {s : Shared} {H : Hp} {E : XK} :
    (cxOf CX P w K mg base N qual scope f cd A outer s H E).K = K := rfl
/-- a statement, then the rest, with a word between them -/
def tCut (t u : TS) : TS := fun D σ H => ∃ M : L2.St → Hp → Prop, t { D with nx := M } σ H ∧ ∀ σ' H', M σ' H' → u D σ' H'
theorem pcut {X : Cx} {st : Stmt} {rest : List Stmt} {t u : TS} (h1 : PS X st t) (h2 : PSs X rest u) : PSs X (st :: rest) (tCut t u) := by
  refine ⟨fun pins s σ H D I h => ?_⟩
  obtain ⟨M, hm, hu⟩ := h
  refine wpAny_execs_cons (thn (h1.run pins s σ H { D with nx := M } I hm) fun f s1 q => ?_)
  cases f with
  | next =>
    obtain ⟨σ', H', I', q⟩ := q
    exact h2.run pins s1 σ' H' D I' (hu σ' H' q)
  | ret v => exact q
  | brk => exact q
  | cont => exact q
/-- a op b op c op d, a test -/
def tChain3 (r r' r'' : R2) (ta tb tc td : TE) : TT := fun σ H Q => ta σ H fun x H1 => tb σ H1 fun y H2 => r x y H2 fun z H3 => ∃ k, z = .bl k ∧
  (if k = true then tc σ H3 fun w' H4 => r' y w' H4 fun z2 H5 => ∃ k2, z2 = .bl k2 ∧ (if k2 = true then td σ H5 fun u' H6 => r'' w' u' H6 fun z3 H7 => ∃ k3, z3 = .bl k3 ∧ Q k3 H7 else Q false H5) else Q false H3)
theorem pt_chain3 {X : Cx} {a b c d : Expr} {ta tb tc td : TE} {pos : Pos} {op op' op'' : CmpOp} {r r' r'' : R2} (ho : OpR X (compareOp op) r) (ho' : OpR X (compareOp op') r') (ho'' : OpR X (compareOp op'') r'') (ha : PE X a ta) (hb : PE X b tb) (hc : PE X c tc) (hd : PE X d td)
    (hm : lastMarks [op, op', op''] [b, c, d] = false := by with_unfolding_all rfl) : PT X (.Compare a [op, op', op''] [b, c, d] pos) (tChain3 r r' r'' ta tb tc td) := by
  refine ⟨fun pins s σ H Q I h => ?_⟩
  refine isTrue_chain (thn (ha.run pins s σ H _ I h) fun v s1 ⟨x, H1, I1, r1, q1⟩ => test_link (thn (hb.run pins s1 σ H1 _ I1 q1) fun u s2 ⟨y, H2, I2, r2, q2⟩ =>
    thn (ho pins s2 σ H2 x y v u _ I2 r1 r2 q2) fun d s3 ⟨z, H3, I3, r3, k, e, q3⟩ => ?_)) hm
  subst e
  cases r3
  refine wpAny_truthy_bool ?_
  cases k with
  | false => exact ite_ff ⟨H3, I3, q3⟩
  | true =>
    refine ite_tt (test_link (thn (hc.run pins s3 σ H3 _ I3 q3) fun w' s4 ⟨z', H4, I4, r4, q4⟩ => thn (ho' pins s4 σ H4 y z' u w' _ I4 r2 r4 q4) fun d' s5 ⟨z2, H5, I5, r5, k2, e2, q5⟩ => ?_))
    subst e2
    cases r5
    refine wpAny_truthy_bool ?_
    cases k2 with
    | false => exact ite_ff ⟨H5, I5, q5⟩
    | true =>
      refine ite_tt (test_last (thn (hd.run pins s5 σ H5 _ I5 q5) fun w2 s6 ⟨z6, H6, I6, r6, q6⟩ => thn (ho'' pins s6 σ H6 z' z6 w' w2 _ I6 r4 r6 q6) fun d7 s7 ⟨z7, H7, I7, r7, k7, e7, q7⟩ => ?_))
      subst e7
      cases r7
      exact wpAny_truthy_bool ⟨H7, I7, q7⟩
/-! ### readings, step by step -/
section
variable {K : PySem.W.Frag} {σ : L2.St} {H : Hp} {Q : VK} {QT : Bool → Hp → Prop} {QA : List V → Hp → Prop} {ta tb tc te : TE} {t u : TT} {tr : TA} {v x y : V} {i j : Int} {D : Ends} {s1 s2 : TS}
theorem r_var {n : Nat} (h : σ[n]? = some (some v)) (k : Q v H) : tVar n σ H Q := ⟨v, h, k⟩
theorem r_c (k : Q v H) : tC v σ H Q := k
theorem r_op {r : R2} (k : ta σ H fun x H1 => tb σ H1 fun y H2 => r x y H2 Q) : tOp r ta tb σ H Q := k
theorem r_un {r : V → Hp → VK → Prop} (k : ta σ H fun x H1 => r x H1 Q) : tUn r ta σ H Q := k
theorem r_I0 {g : Int → Int → V} (k : Q (g i j) H) : rI0 g (.int i) (.int j) H Q := ⟨i, j, rfl, rfl, k⟩
theorem r_I {C : Int → Int → Prop} {g : Int → Int → V} (c : C i j) (k : Q (g i j) H) : rI C g (.int i) (.int j) H Q := ⟨i, j, rfl, rfl, c, k⟩
theorem r_mul (c : CMulX i j) (k : Q (.int (i * j)) H) : rI CMulX (fun i j => .int (i * j)) (.int i) (.int j) H Q := r_I c k
theorem r_div (c : CDivW i j) (k : Q (.int (i / j)) H) : rI CDivW (fun i j => .int (i / j)) (.int i) (.int j) H Q := r_I c k
theorem r_mod (c : 0 < j) (k : Q (.int (i % j)) H) : rI (fun _ j => 0 < j) (fun i j => .int (i % j)) (.int i) (.int j) H Q := ⟨i, j, rfl, rfl, c, k⟩
theorem r_pow (c : CPow i j) (k : Q (.int (i ^ j.toNat)) H) : rI CPow (fun i j => .int (i ^ j.toNat)) (.int i) (.int j) H Q := r_I c k
theorem r_p6 (k : Q (.int 1000000) H) : rI CPow (fun i j => .int (i ^ j.toNat)) (.int 10) (.int 6) H Q := r_I ⟨by decide, by decide, by decide⟩ (by rw [show (10 : Int) ^ Int.toNat 6 = 1000000 by decide +kernel]; exact k)
theorem r_p15 (k : Q (.int 1000000000000000) H) : rI CPow (fun i j => .int (i ^ j.toNat)) (.int 10) (.int 15) H Q := r_I ⟨by decide, by decide, by decide⟩ (by rw [show (10 : Int) ^ Int.toNat 15 = 1000000000000000 by decide +kernel]; exact k)
theorem r_p18 (k : Q (.int 1000000000000000000) H) : rI CPow (fun i j => .int (i ^ j.toNat)) (.int 10) (.int 18) H Q := r_I ⟨by decide, by decide, by decide⟩ (by rw [show (10 : Int) ^ Int.toNat 18 = 1000000000000000000 by decide +kernel]; exact k)
theorem r_p24 (k : Q (.int 1000000000000000000000000) H) : rI CPow (fun i j => .int (i ^ j.toNat)) (.int 10) (.int 24) H Q := r_I ⟨by decide, by decide, by decide⟩ (by rw [show (10 : Int) ^ Int.toNat 24 = 1000000000000000000000000 by decide +kernel]; exact k)
theorem r_p29 (k : Q (.int 100000000000000000000000000000) H) : rI CPow (fun i j => .int (i ^ j.toNat)) (.int 10) (.int 29) H Q := r_I ⟨by decide, by decide, by decide⟩ (by rw [show (10 : Int) ^ Int.toNat 29 = 100000000000000000000000000000 by decide +kernel]; exact k)
theorem r_p30 (k : Q (.int 1000000000000000000000000000000) H) : rI CPow (fun i j => .int (i ^ j.toNat)) (.int 10) (.int 30) H Q := r_I ⟨by decide, by decide, by decide⟩ (by rw [show (10 : Int) ^ Int.toNat 30 = 1000000000000000000000000000000 by decide +kernel]; exact k)
theorem r_p60 (k : Q (.int 1000000000000000000000000000000000000000000000000000000000000) H) : rI CPow (fun i j => .int (i ^ j.toNat)) (.int 10) (.int 60) H Q := r_I ⟨by decide, by decide, by decide⟩ (by rw [show (10 : Int) ^ Int.toNat 60 = 1000000000000000000000000000000000000000000000000000000000000 by decide +kernel]; exact k)
theorem r_U {g : Int → V} (k : Q (g i) H) : rU g (.int i) H Q := ⟨i, rfl, k⟩
theorem r_eqI (k : Q (.bl (decide (i = j))) H) : rEq (.int i) (.int j) H Q := ⟨rfl, by
  have e : decide (V.int i = V.int j) = decide (i = j) := by
    by_cases h : i = j
    · subst h
      rw [decide_eq_true rfl, decide_eq_true rfl]
    · rw [decide_eq_false h, decide_eq_false (fun z => h (V.int.inj z))]
  rw [e]
  exact k⟩
theorem r_neI (k : Q (.bl (!decide (i = j))) H) : rNe (.int i) (.int j) H Q := ⟨rfl, by
  have e : decide (V.int i = V.int j) = decide (i = j) := by
    by_cases h : i = j
    · subst h
      rw [decide_eq_true rfl, decide_eq_true rfl]
    · rw [decide_eq_false h, decide_eq_false (fun z => h (V.int.inj z))]
  rw [e]
  exact k⟩
theorem r_eqB {a b : Bool} (k : Q (.bl (a == b)) H) : rEq (.bl a) (.bl b) H Q := ⟨rfl, by rw [dec_bl]; exact k⟩
theorem r_neB {a b : Bool} (k : Q (.bl (!(a == b))) H) : rNe (.bl a) (.bl b) H Q := ⟨rfl, by rw [dec_bl]; exact k⟩
theorem r_eqS {a b : Str} (k : Q (.bl (a == b)) H) : rEq (.str a) (.str b) H Q := ⟨rfl, by rw [dec_str]; exact k⟩
theorem r_neS {a b : Str} (k : Q (.bl (!(a == b))) H) : rNe (.str a) (.str b) H Q := ⟨rfl, by rw [dec_str]; exact k⟩
theorem r_test (k : te σ H fun x H' => ∃ b, x = .bl b ∧ QT b H') : tTest te σ H QT := k
theorem r_tB (k : te σ H fun x H' => ∃ b, x = .bl b ∧ QT b H') : tB te σ H QT := k
theorem r_bl {b : Bool} (k : QT b H) : ∃ b', V.bl b = .bl b' ∧ QT b' H := ⟨b, rfl, k⟩
theorem r_not (k : t σ H fun b H1 => QT (!b) H1) : tNot t σ H QT := k
theorem r_and (k : t σ H fun b H1 => if b = true then u σ H1 QT else QT false H1) : tAnd t u σ H QT := k
theorem r_or (k : t σ H fun b H1 => if b = true then QT true H1 else u σ H1 QT) : tOr t u σ H QT := k
theorem r_notV (k : ta σ H fun x H1 => ∃ c, x = .bl c ∧ Q (.bl (!c)) H1) : tNotV ta σ H Q := k
theorem r_andV (k : ta σ H fun x H1 => ∃ c, x = .bl c ∧ if c = true then tb σ H1 Q else Q (.bl false) H1) : tAndV ta tb σ H Q := k
theorem r_orV (k : ta σ H fun x H1 => ∃ c, x = .bl c ∧ if c = true then Q (.bl true) H1 else tb σ H1 Q) : tOrV ta tb σ H Q := k
theorem r_blV {b : Bool} {R : Bool → Prop} (k : R b) : ∃ c, V.bl b = .bl c ∧ R c := ⟨b, rfl, k⟩
theorem r_chain {r r' : R2} (k : ta σ H fun x H1 => tb σ H1 fun y H2 => r x y H2 fun z H3 => ∃ k, z = .bl k ∧ (if k = true then tc σ H3 fun w' H4 => r' y w' H4 Q else Q (.bl false) H3)) : tChain r r' ta tb tc σ H Q := k
theorem r_chain3 {r r' r'' : R2} {td : TE} (k : ta σ H fun x H1 => tb σ H1 fun y H2 => r x y H2 fun z H3 => ∃ k, z = .bl k ∧ (if k = true then tc σ H3 fun w' H4 => r' y w' H4 fun z2 H5 => ∃ k2, z2 = .bl k2 ∧ (if k2 = true then td σ H5 fun u' H6 => r'' w' u' H6 fun z3 H7 => ∃ k3, z3 = .bl k3 ∧ QT k3 H7 else QT false H5) else QT false H3)) : tChain3 r r' r'' ta tb tc td σ H QT := k
theorem r_if (k : t σ H fun c H1 => if c = true then ta σ H1 Q else tb σ H1 Q) : tIf t ta tb σ H Q := k
theorem r_cons (k : ta σ H fun x H1 => tr σ H1 fun xs H2 => QA (x :: xs) H2) : tCons ta tr σ H QA := k
theorem r_nil (k : QA [] H) : tNil σ H QA := k
theorem r_cal {sp : Sp} {E : XK} (k : tr σ H fun vs H1 => sp vs H1 Q E) : tCal sp E tr σ H Q := k
/-- a new tuple, a new list -/
def NewT (xs : List V) (H : Hp) (Q : VK) : Prop := xs.length ≤ sizeLine ∧ ∀ p, H p = none → Q (.ref p) (upd H p (.tup xs))
def NewL (xs : List V) (H : Hp) (Q : VK) : Prop := xs.length ≤ sizeLine ∧ ∀ p, H p = none → Q (.ref p) (upd H p (.lst xs))
theorem r_tup (k : tr σ H fun xs H1 => NewT xs H1 Q) : tTup tr σ H Q := k
theorem r_lst (k : tr σ H fun xs H1 => NewL xs H1 Q) : tLst tr σ H Q := k
theorem sz_of {n : Nat} (h : n ≤ 100000) : n ≤ sizeLine := Nat.le_trans h (by decide)
theorem r_newT {xs : List V} (h : xs.length ≤ 100000) (k : ∀ p H1, H p = none → Ex H H1 → H1 p = some (.tup xs) → Q (.ref p) H1) : NewT xs H Q := ⟨sz_of h, fun p hp => k p _ hp (Ex.new hp) upd_same⟩
theorem r_newL {xs : List V} (h : xs.length ≤ 100000) (k : ∀ p H1, H p = none → Ex H H1 → H1 p = some (.lst xs) → Q (.ref p) H1) : NewL xs H Q := ⟨sz_of h, fun p hp => k p _ hp (Ex.new hp) upd_same⟩
theorem r_ixT {p : Addr} {xs : List V} (h : SqT K H p xs) (a : atI xs i = some v) (k : Q v H) : rIxT K (.ref p) (.int i) H Q := ⟨p, xs, i, v, rfl, rfl, h, a, k⟩
theorem r_ixL {p : Addr} {xs : List V} (h : SqL K H p xs) (a : atI xs i = some v) (k : Q v H) : rIxL K (.ref p) (.int i) H Q := ⟨p, xs, i, v, rfl, rfl, h, a, k⟩
/-! statements -/
theorem r_seq (k : s1 { D with nx := s2 D } σ H) : tSeq s1 s2 D σ H := k
theorem r_asg {n : Nat} (k : te σ H fun x H1 => D.nx (σ.set n (some x)) H1) : tAsg te (gName n) D σ H := k
theorem r_asgG {g : TG} (k : te σ H fun x H1 => g x σ H1 D.nx) : tAsg te g D σ H := k
theorem r_drop (k : te σ H fun _ H1 => D.nx σ H1) : tDrop te D σ H := k
theorem r_ret (k : te σ H D.rt) : tRet te D σ H := k
theorem r_retN (k : D.rt .non H) : tRetN D σ H := k
theorem r_ifS (k : t σ H fun b H1 => if b = true then s1 D σ H1 else s2 D σ H1) : tIfS t s1 s2 D σ H := k
theorem r_next (k : D.nx σ H) : tNext D σ H := k
theorem r_gTup {p : Addr} {xs : List V} {n : Nat} {g : TGs} {QS : L2.St → Hp → Prop} (h : SqT K H p xs) (l : xs.length = n) (k : g xs σ H QS) : gTup K n g (.ref p) σ H QS := ⟨p, xs, rfl, h, l, k⟩
theorem r_gCons {g : TG} {gs : TGs} {xs : List V} {QS : L2.St → Hp → Prop} (k : g x σ H fun σ' H' => gs xs σ' H' QS) : gCons g gs (x :: xs) σ H QS := ⟨x, xs, rfl, k⟩
theorem r_gNil {QS : L2.St → Hp → Prop} (k : QS σ H) : gNil [] σ H QS := ⟨rfl, k⟩
theorem r_gName {n : Nat} {QS : L2.St → Hp → Prop} (k : QS (σ.set n (some x)) H) : gName n x σ H QS := k
theorem r_par {n m : Nat} (k : tr σ H fun vs H1 => ∃ v w, vs = [v, w] ∧ D.nx ((σ.set n (some v)).set m (some w)) H1) : tPar n m tr D σ H := k
theorem r_parE {R : V → V → Prop} (k : R x y) : ∃ v w, [x, y] = [v, w] ∧ R v w := ⟨x, y, rfl, k⟩
theorem r_par3 {n m l : Nat} (k : tr σ H fun vs H1 => ∃ u v w, vs = [u, v, w] ∧ D.nx (((σ.set n (some u)).set m (some v)).set l (some w)) H1) : tPar3 n m l tr D σ H := k
theorem r_parE3 {z : V} {R : V → V → V → Prop} (k : R x y z) : ∃ u v w, [x, y, z] = [u, v, w] ∧ R u v w := ⟨x, y, z, rfl, k⟩
theorem r_aug {n : Nat} {f : Int → Int → Int} (h : σ[n]? = some (some (.int i))) (k : te σ H fun y H1 => ipI f (.int i) y H1 fun z H2 => D.nx (σ.set n (some z)) H2) : tAug n te (ipI f) D σ H := ⟨.int i, h, k⟩
theorem r_ipI {f : Int → Int → Int} (k : Q (.int (f i j)) H) : ipI f (.int i) (.int j) H Q := ⟨i, j, rfl, rfl, k⟩
theorem r_cut {t u : TS} (M : L2.St → Hp → Prop) (h : t { D with nx := M } σ H) (k : ∀ σ' H', M σ' H' → u D σ' H') : tCut t u D σ H := ⟨M, h, k⟩
/-! tests decided -/
theorem r_nx {f : L2.St → Hp → Prop} {g : VK} {b c : L2.St → Hp → Prop} (k : f σ H) : Ends.nx ⟨f, g, b, c⟩ σ H := k
theorem r_nxS {f : L2.St → Hp → Prop} {g : VK} {b c : L2.St → Hp → Prop} {n : Nat} {z : Option V} {l' : L2.St} (h : σ.set n z = l') (k : f l' H) : Ends.nx ⟨f, g, b, c⟩ (σ.set n z) H := by rw [h]; exact k
theorem set_z {x v : Option V} {l : L2.St} : List.set (x :: l) 0 v = v :: l := rfl
theorem set_s {x v : Option V} {n : Nat} {l l' : L2.St} (h : l.set n v = l') : List.set (x :: l) (n + 1) v = x :: l' := by rw [← h]; rfl
theorem set_in {v : Option V} {n : Nat} {e e' l' : L2.St} (h1 : e = e') (h2 : e'.set n v = l') : e.set n v = l' := by rw [h1]; exact h2
theorem r_rt {f : L2.St → Hp → Prop} {g : VK} {b c : L2.St → Hp → Prop} (k : g v H) : Ends.rt ⟨f, g, b, c⟩ v H := k
theorem not_t {b : Bool} (h : b = false) : (!b) = true := by rw [h]; rfl
theorem not_f {b : Bool} (h : b = true) : (!b) = false := by rw [h]; rfl
theorem if_T {b : Bool} {A B : Prop} (h : b = true) (k : A) : if b = true then A else B := by rw [if_pos h]; exact k
theorem if_F {b : Bool} {A B : Prop} (h : b = false) (k : B) : if b = true then A else B := by
  rw [h, if_neg Bool.false_ne_true]
  exact k
theorem if_2 {b : Bool} {A B : Prop} (h1 : b = true → A) (h2 : b = false → B) : if b = true then A else B := by
  cases b with
  | true => exact if_T rfl (h1 rfl)
  | false => exact if_F rfl (h2 rfl)
/-- what is set into the tuple of the draws -/
theorem r_setL {o : Addr} {xs : List V} {k0 : Nat} {z : V} {Qh : Hp → Prop} (h : H o = some (.lst xs)) (hi : ixN xs.length i = some k0) (k : Qh (upd H o (.lst (xs.set k0 z)))) : rSetL (.ref o) (.int i) z H Qh := ⟨o, xs, i, k0, rfl, rfl, h, hi, k⟩
theorem r_gSub {to ti : TE} {ts : TSet} {QS : L2.St → Hp → Prop} (k : to σ H fun o H1 => ti σ H1 fun i H2 => ts o i v H2 fun H3 => QS σ H3) : gSub to ti ts v σ H QS := k
end

/-! calls of built-ins, walks -/
def rLen (K : PySem.W.Frag) : List V → Hp → VK → Prop := fun xs H Q => ∃ p ys, xs = [.ref p] ∧ (SqL K H p ys ∨ SqT K H p ys) ∧ Q (.int ys.length) H
theorem cl_len {X : Cx} : CallR X (.builtin "len") (rLen X.K) := call_len_seq
def rLenStr : List V → Hp → VK → Prop := fun xs H Q => ∃ z, xs = [.str z] ∧ z.length ≤ sizeLine ∧ Q (.int z.length) H
theorem cl_lenS {X : Cx} : CallR X (.builtin "len") rLenStr := call_len_str
def rAbs : List V → Hp → VK → Prop := fun xs H Q => ∃ i, xs = [.int i] ∧ Q (.int (if i < 0 then -i else i)) H
theorem cl_abs {X : Cx} : CallR X (.builtin "abs") rAbs := call_abs
def rMax2 : List V → Hp → VK → Prop := fun xs H Q => ∃ i j, xs = [.int i, .int j] ∧ Q (.int (if j > i then j else i)) H
def rMin2 : List V → Hp → VK → Prop := fun xs H Q => ∃ i j, xs = [.int i, .int j] ∧ Q (.int (if j < i then j else i)) H
theorem cl_max2 {X : Cx} (hc : X.calm = true) : CallR X (.builtin "max") rMax2 := call_max2 hc
theorem cl_min2 {X : Cx} (hc : X.calm = true) : CallR X (.builtin "min") rMin2 := call_min2 hc
def rMin3 : List V → Hp → VK → Prop := fun xs H Q => ∃ i j k, xs = [.int i, .int j, .int k] ∧ Q (.int (min (min i j) k)) H
theorem nu_min3 (i j k : Int) : nuMin3 (.int i) (.int j) (.int k) = some (.int (min (min i j) k)) := by
  have h1 : (if decide (j < i) = true then V.int j else V.int i) = V.int (min i j) := by
    by_cases h : j < i
    · rw [decide_eq_true h, if_pos rfl, show min i j = j by omega]
    · rw [decide_eq_false h, if_neg (by decide), show min i j = i by omega]
  have h2 : (if decide (k < min i j) = true then V.int k else V.int (min i j)) = V.int (min (min i j) k) := by
    by_cases h : k < min i j
    · rw [decide_eq_true h, if_pos rfl, show min (min i j) k = k by omega]
    · rw [decide_eq_false h, if_neg (by decide), show min (min i j) k = min i j by omega]
  rw [← h2, ← h1]
  unfold nuMin3
  show (some (if decide (j < i) = true then V.int j else V.int i)).bind _ = _
  rw [h1]
  rfl
theorem cl_min3 {X : Cx} (hc : X.calm = true) : CallR X (.builtin "min") rMin3 := fun pins s σ H xs us Q I r h => by
  obtain ⟨i, j, k, rfl, q⟩ := h
  exact call_min3Nu hc pins s σ H _ us Q I r ⟨_, _, _, _, rfl, nu_min3 i j k, q⟩
theorem r_min3 {H : Hp} {Q : VK} {i j k : Int} (q : Q (.int (min (min i j) k)) H) : rMin3 [.int i, .int j, .int k] H Q := ⟨i, j, k, rfl, q⟩
def rInt1 : List V → Hp → VK → Prop := fun xs H Q => (∃ i, xs = [.int i] ∧ Q (.int i) H) ∨ ∃ k, xs = [.bl k] ∧ Q (.int (if k then 1 else 0)) H
theorem cl_int1 {X : Cx} : CallR X (.type "int") rInt1 := call_int1
def rBool1 : List V → Hp → VK → Prop := fun xs H Q => (∃ i, xs = [.int i] ∧ Q (.bl (i != 0)) H) ∨ ∃ k, xs = [.bl k] ∧ Q (.bl k) H
theorem cl_bool1 {X : Cx} : CallR X (.type "bool") rBool1 := call_bool1
def rStrI : List V → Hp → VK → Prop := fun xs H Q => ∃ i, xs = [.int i] ∧ i.natAbs.log2 < 1920 ∧ Q (.str (toString i)) H
theorem cl_strI {X : Cx} : CallR X (.type "str") rStrI := call_str_int
section
variable {K : PySem.W.Frag} {σ : L2.St} {H : Hp} {Q : VK} {QT : Bool → Hp → Prop} {ta tb tc te : TE} {t u : TT} {tr : TA} {v x y : V} {i j : Int} {D : Ends} {s1 s2 : TS} {g : TG}
theorem r_CB {r : List V → Hp → VK → Prop} (k : tr σ H fun vs H1 => r vs H1 Q) : tCB r tr σ H Q := k
theorem r_lenL {p : Addr} {ys : List V} (h : SqL K H p ys) (k : Q (.int (ys.length : Nat)) H) : rLen K [.ref p] H Q := ⟨p, ys, rfl, .inl h, k⟩
theorem r_lenT {p : Addr} {ys : List V} (h : SqT K H p ys) (k : Q (.int (ys.length : Nat)) H) : rLen K [.ref p] H Q := ⟨p, ys, rfl, .inr h, k⟩
theorem r_lenS {z : Str} (h : z.length ≤ sizeLine) (k : Q (.int (z.length : Nat)) H) : rLenStr [.str z] H Q := ⟨z, rfl, h, k⟩
theorem r_abs (k : Q (.int (i.natAbs : Int)) H) : rAbs [.int i] H Q := ⟨i, rfl, by
  have e : (if i < 0 then -i else i) = (i.natAbs : Int) := by split <;> omega
  rw [e]
  exact k⟩
theorem r_max2 (k : Q (.int (max i j)) H) : rMax2 [.int i, .int j] H Q := ⟨i, j, rfl, by
  have e : (if j > i then j else i) = max i j := by split <;> omega
  rw [e]
  exact k⟩
theorem r_min2 (k : Q (.int (min i j)) H) : rMin2 [.int i, .int j] H Q := ⟨i, j, rfl, by
  have e : (if j < i then j else i) = min i j := by split <;> omega
  rw [e]
  exact k⟩
theorem r_intI (k : Q (.int i) H) : rInt1 [.int i] H Q := .inl ⟨i, rfl, k⟩
theorem r_intB {b : Bool} (k : Q (.int (if b = true then 1 else 0)) H) : rInt1 [.bl b] H Q := .inr ⟨b, rfl, k⟩
theorem r_isII (k : Q (.bl true) H) : rIsi K [.int i, .ty "int"] H Q := ⟨_, _, _, _, _, rfl, .ty _, .base (.int _), kit_ty (by decide +kernel), k⟩
theorem r_isIB (k : Q (.bl false) H) : rIsi K [.int i, .ty "bool"] H Q := ⟨_, _, _, _, _, rfl, .ty _, .base (.int _), kit_ty (by decide +kernel), k⟩
theorem r_isTT {p : Addr} {xs : List V} (h : H p = some (.tup xs)) (k : Q (.bl true) H) : rIsi K [.ref p, .ty "tuple"] H Q := ⟨_, _, _, _, _, rfl, .ty _, .base (.tup h), kit_ty (by decide +kernel), k⟩
theorem r_isLL {p : Addr} {xs : List V} (h : H p = some (.lst xs)) (k : Q (.bl true) H) : rIsi K [.ref p, .ty "list"] H Q := ⟨_, _, _, _, _, rfl, .ty _, .base (.lst h), kit_ty (by decide +kernel), k⟩
theorem r_isBB {b : Bool} (k : Q (.bl true) H) : rIsi K [.bl b, .ty "bool"] H Q := ⟨_, _, _, _, _, rfl, .ty _, .base (.bl _), kit_ty (by decide +kernel), k⟩
theorem r_isBI {b : Bool} (k : Q (.bl true) H) : rIsi K [.bl b, .ty "int"] H Q := ⟨_, _, _, _, _, rfl, .ty _, .base (.bl _), kit_ty (by decide +kernel), k⟩
theorem r_isSS {z : Str} (k : Q (.bl true) H) : rIsi K [.str z, .ty "str"] H Q := ⟨_, _, _, _, _, rfl, .ty _, .base (.str _), kit_ty (by decide +kernel), k⟩
theorem r_all {p : Addr} {bs : List Bool} (h : SqL K H p (bs.map V.bl)) (k : Q (.bl (bs.all id)) H) : rAll K [.ref p] H Q := ⟨p, bs, rfl, h, k⟩
theorem r_any {p : Addr} {bs : List Bool} (h : SqL K H p (bs.map V.bl)) (k : Q (.bl (bs.any id)) H) : rAny K [.ref p] H Q := ⟨p, bs, rfl, h, k⟩
/-- a loop over J -/
def ForB (J : It) (g : TG) (tb : TS) (D : Ends) (σ : L2.St) (H1 : Hp) : Prop := ∃ W : Nat → Nat → L2.St → Hp → Prop, (∃ m, W 0 m σ H1) ∧ ∀ i m σ H, W i m σ H →
  (J.stop i H ∧ D.nx σ H) ∨ (J.go i H ∧ ∃ Nx : L2.St → Hp → Prop, (∀ σ' H', Nx σ' H' → ∃ m', m' < m ∧ W (i + 1) m' σ' H') ∧ ∀ x H', J.yld i H x H' → g x σ H' fun σ2 H2 => tb { D with nx := Nx, ct := Nx, bk := D.nx } σ2 H2)
def Rng1 (vs : List V) (H : Hp) (R : It → Hp → Prop) : Prop := ∃ j : Int, vs = [.int j] ∧ -(2 ^ 62) ≤ j ∧ j < 2 ^ 62 ∧ R (Itr 0 j.toNat) H
def Rng2 (vs : List V) (H : Hp) (R : It → Hp → Prop) : Prop := ∃ i j : Int, vs = [.int i, .int j] ∧ R (Itr i (j - i).toNat) H
def iRngL (ta : TA) : TI := fun σ H R => ta σ H fun vs H1 => Rng2 vs H1 R
def ItL (K : PySem.W.Frag) (x : V) (H : Hp) (R : It → Hp → Prop) : Prop := ∃ a, x = .ref a ∧ (∃ xs, SqL K H a xs) ∧ R (Itl K a) H
def ItT (K : PySem.W.Frag) (x : V) (H : Hp) (R : It → Hp → Prop) : Prop := ∃ a, x = .ref a ∧ (∃ xs, SqT K H a xs) ∧ R (Itt K a) H
variable {R : It → Hp → Prop} {wi : TI}
theorem r_for (k : wi σ H fun J H1 => ForB J g s1 D σ H1) : tFor wi g s1 D σ H := k
theorem r_iRng1 (k : tr σ H fun vs H1 => Rng1 vs H1 R) : iRng1 tr σ H R := k
theorem r_iRng2 (k : tr σ H fun vs H1 => Rng2 vs H1 R) : iRngL tr σ H R := k
theorem r_iList (k : te σ H fun x H1 => ItL K x H1 R) : iList K te σ H R := k
theorem r_iTup (k : te σ H fun x H1 => ItT K x H1 R) : iTup K te σ H R := k
theorem r_rng1 (h1 : -(2 ^ 62) ≤ i) (h2 : i < 2 ^ 62) (k : R (Itr 0 i.toNat) H) : Rng1 [.int i] H R := ⟨i, rfl, h1, h2, k⟩
theorem r_rng2 (h : -(2 ^ 62) ≤ i ∧ i < 2 ^ 62 ∧ -(2 ^ 62) ≤ j ∧ j < 2 ^ 62) (k : R (Itr i (j - i).toNat) H) : Rng2 [.int i, .int j] H R := ⟨i, j, rfl, k⟩
theorem r_rngL (k : R (Itr i (j - i).toNat) H) : Rng2 [.int i, .int j] H R := ⟨i, j, rfl, k⟩
theorem r_ItL {p : Addr} {xs : List V} (h : SqL K H p xs) (k : R (Itl K p) H) : ItL K (.ref p) H R := ⟨p, rfl, ⟨xs, h⟩, k⟩
theorem r_ItT {p : Addr} {xs : List V} (h : SqT K H p xs) (k : R (Itt K p) H) : ItT K (.ref p) H R := ⟨p, rfl, ⟨xs, h⟩, k⟩
theorem for_rng {lo : Int} {n j : Nat} (Pv : Nat → L2.St → Hp → Prop) (h0 : Pv 0 σ H)
    (hs : ∀ i σ H, i < n → Pv i σ H → s1 { D with nx := Pv (i + 1), ct := Pv (i + 1), bk := D.nx } (σ.set j (some (.int (lo + i)))) H) (hd : ∀ σ H, Pv n σ H → D.nx σ H) : ForB (Itr lo n) (gName j) s1 D σ H := for_range Pv h0 hs hd
theorem for_lst {a : Addr} {xs : List V} (Pv : Nat → L2.St → Hp → Prop) (h0 : Pv 0 σ H) (hl : ∀ i σ H, i ≤ xs.length → Pv i σ H → SqL K H a xs)
    (hs : ∀ i x σ H, xs[i]? = some x → Pv i σ H → g x σ H fun σ2 H2 => s1 { D with nx := Pv (i + 1), ct := Pv (i + 1), bk := D.nx } σ2 H2) (hd : ∀ σ H, Pv xs.length σ H → D.nx σ H) : ForB (Itl K a) g s1 D σ H := for_list Pv h0 hl hs hd
theorem for_tp {a : Addr} {xs : List V} (Pv : Nat → L2.St → Hp → Prop) (h0 : Pv 0 σ H) (hl : ∀ i σ H, i ≤ xs.length → Pv i σ H → SqT K H a xs)
    (hs : ∀ i x σ H, xs[i]? = some x → Pv i σ H → g x σ H fun σ2 H2 => s1 { D with nx := Pv (i + 1), ct := Pv (i + 1), bk := D.nx } σ2 H2) (hd : ∀ σ H, Pv xs.length σ H → D.nx σ H) : ForB (Itt K a) g s1 D σ H := for_tup Pv h0 hl hs hd
/-- a comprehension over J -/
def LcB (J : It) (g : TG) (tt : TT) (te : TE) (vs : List Nat) (σ : L2.St) (H1 : Hp) (Q : VK) : Prop := ∀ D, H1 D = none → ∃ W : Nat → Nat → Hp → Prop, (∃ m, W 0 m (upd H1 D (.lst []))) ∧ ∀ i m H, W i m H →
  (J.stop i H ∧ Q (.ref D) H) ∨ (J.go i H ∧ ∃ Nx : Hp → Prop, (∀ H', Nx H' → ∃ m', m' < m ∧ W (i + 1) m' H') ∧ ∀ x H', J.yld i H x H' → g x (wipe σ vs) H' fun σ2 H2 => wipe σ2 vs = wipe σ vs ∧ tt σ2 H2 fun b H3 =>
    if b = true then te σ2 H3 fun y H4 => ∃ acc, H4 D = some (.lst acc) ∧ acc.length < sizeLine ∧ Nx (upd H4 D (.lst (acc ++ [y]))) else Nx H3)
theorem r_lc {vs : List Nat} (k : wi σ H fun J H1 => LcB J g t te vs σ H1 Q) : tLc wi g t te vs σ H Q := k
end
/-! ranges of any size -/
theorem turn_long {P : Program} {w : World} {K : PySem.W.Frag} {tg : Expr} (it : Addr) (lo : Int) (n : Nat) : Turn P w K tg (Itr lo n) [it] it (fun i h => IsLongIter h it (lo + (i : Nat) * 1) ((n : Int) - (i : Nat)) 1) where
  mem := List.mem_cons_self
  obj := fun i h st b hb => by
    obtain rfl : b = it := by simpa using hb
    exact ⟨_, st, fun v z => by
      have z' : Data.fields _ = Data.cell v := z
      cases z'⟩
  keep := fun i h h' st k => k it List.mem_cons_self _ st
  item := by
    intro X hP hw hK hc i pins s σ H E I hf st hg
    subst hP hw hK
    obtain ⟨f0, f1, f2, f3, f4, f5⟩ := hf it List.mem_cons_self
    refine (Walks.longrange (prog := X.prog) (w := X.w) (I.ok.hd hc) it lo 1 n).item i s _ _ hg st fun v h' tk hv st' kk => ?_
    obtain ⟨t, rfl⟩ := hv
    have I1 : Inv X pins σ H { s with heap := h', toks := tk } := I.turned (fun b o hb e => kk b o (by simpa using hb) e) f0 f1 f3 f4 f5
    exact ⟨_, rfl, go_of (s := { s with heap := h', toks := tk }) (n := "longrange_iterator") st' rfl rfl (by decide) ⟨.int (lo + i), H, I1, ⟨t, by rw [Int.mul_one]⟩, ⟨rfl, rfl⟩, st', fun b hb => (hf b hb).1⟩⟩
  done := by
    intro X hP hw hK hc i pins s σ H E I hf st hg
    subst hP hw hK
    obtain ⟨f0, f1, f2, f3, f4, f5⟩ := hf it List.mem_cons_self
    have hg' : n ≤ i := hg
    exact wpAny_pyNext_long_end (I.ok.hd hc) st (by omega) fun h' eb => ⟨rfl, I.turned (t' := s.toks) (fun b o hb e => eb b o hb e) f0 f1 f3 f4 f5⟩
  self := fun _ _ _ _ _ st h => wpAny_pyIter_longiter st h
theorem size_0 {lo hi : Int} : (((hi - lo).toNat : Nat) : Int) - ((0 : Nat) : Int) = Builtin.Range.rangeSize lo hi 1 := by
  rw [rangeSize_one]
  split <;> omega
theorem rit_0 {h : Heap} {lo hi : Int} : IsRangeIter (h.push { cls := .type "range_iterator", data := .fields #[rawInt lo, rawInt (Builtin.Range.rangeSize lo hi 1), rawInt 1] }) h.objs.size (lo + ((0 : Nat) : Int) * 1) ((((hi - lo).toNat : Nat) : Int) - ((0 : Nat) : Int)) 1 := by
  have e1 : lo + ((0 : Nat) : Int) * 1 = lo := by omega
  rw [e1, size_0]
  exact Heap.get?_push_size _ rfl
theorem lit_0 {h : Heap} {lo hi : Int} : IsLongIter (h.push { cls := .type "longrange_iterator", data := .fields #[rawInt lo, rawInt (Builtin.Range.rangeSize lo hi 1), rawInt 1] }) h.objs.size (lo + ((0 : Nat) : Int) * 1) ((((hi - lo).toNat : Nat) : Int) - ((0 : Nat) : Int)) 1 := by
  have e1 : lo + ((0 : Nat) : Int) * 1 = lo := by omega
  rw [e1, size_0]
  exact Heap.get?_push_size _ rfl
theorem range_any {X : Cx} {tg : Expr} {pins : List (Addr × Obj)} {σ : L2.St} {H : Hp} {s : Shared} {R : It → Hp → Prop} {E : Value → Shared → Prop} {lo hi : Int} {t u v : Tok} {tk : Nat} (I : Inv X pins σ H s)
    (q : R (Itr lo (hi - lo).toNat) H) : wpAny (model X.prog X.w) X.A (pyIter (.ref s.heap.objs.size)) (PIE X pins σ tg R) E { s with heap := s.heap.push { cls := .type "range", data := .fields #[.int lo t, .int hi u, .int 1 v] }, toks := tk } := by
  have I1 : Inv X pins σ H { s with heap := s.heap.push { cls := .type "range", data := .fields #[.int lo t, .int hi u, .int 1 v] }, toks := tk } := I.kept fun b o e => Heap.get?_push_of_some _ e
  have fp : ∀ b ∈ [(s.heap.push { cls := .type "range", data := .fields #[.int lo t, .int hi u, .int 1 v] }).objs.size], FpOk X pins H b := fun b hb => by
    obtain rfl : b = (s.heap.push { cls := .type "range", data := .fields #[.int lo t, .int hi u, .int 1 v] }).objs.size := by simpa using hb
    exact I1.fpOk (Nat.le_refl _) (I1.hok.fresh (Nat.le_refl _))
  cases hs : Builtin.Range.small lo hi 1 with
  | true => exact wpAny_pyIter_range (IsRange.new ..) hs ⟨_, [_], _, _, H, rfl, I1.kept (t' := tk) fun b o e => Heap.get?_push_of_some _ e, turn_range _ lo (hi - lo).toNat, rit_0, fp, q⟩
  | false => exact wpAny_pyIter_longrange (IsRange.new ..) hs ⟨_, [_], _, _, H, rfl, I1.kept (t' := tk) fun b o e => Heap.get?_push_of_some _ e, turn_long _ lo (hi - lo).toNat, lit_0, fp, q⟩
theorem pi_rng2 {X : Cx} {tg : Expr} {a b : Expr} {ta : TA} {p pos : Pos} (hg : Gl X "range") (hm : X.mg "range" = none) (ha : PA X [a, b] ta) (hs : starEach [a, b] X.env = [(false, eval a X.env), (false, eval b X.env)] := by rfl) (hs2 : starEach [b] X.env = [(false, eval b X.env)] := by rfl) :
    PI X tg (.Call (.Name "range" p) [a, b] [] pos) (iRngL ta) := by
  refine ⟨fun pins s σ H R I h => Call_ (ld_blt I hg hm boot_range (PyProof.Rows.callWith_type1 (thn (ha.run pos pins s σ H _ I h) fun us s1 ⟨vs, H1, I1, r1, q1⟩ => ?_) (by rw [hs, hs2]) (by rw [hs2]; rfl)))⟩
  obtain ⟨i, j, rfl, q⟩ := q1
  cases r1 with
  | cons r rr =>
    cases rr with
    | cons r' rr =>
      cases rr
      obtain ⟨t, rfl⟩ := r
      obtain ⟨t', rfl⟩ := r'
      exact call_range_2 (range_any I1 q)
/-- what an expression gives without a change of what is tracked -/
def PureE (te : TE) (σ : L2.St) (H : Hp) (v : V) : Prop := ∀ H1, Ex H H1 → ∀ Q : VK, (∀ H2, Ex H1 H2 → Q v H2) → te σ H1 Q
section
variable {K : PySem.W.Frag} {σ : L2.St} {H : Hp} {Q : VK} {te : TE}
theorem tYes_k {F : Bool → Hp → Prop} (k : F true H) : tYes σ H F := k
theorem len_lt {n : Nat} (h : n ≤ 100000) : n < sizeLine := Nat.lt_of_le_of_lt h (by decide)
/-- [e for j in a range], e pure -/
theorem lc_rngP {lo : Int} {n j : Nat} {vs : List Nat} (f : Nat → V) (hn : n ≤ 100000) (hw : ∀ x, wipe ((wipe σ vs).set j (some x)) vs = wipe σ vs)
    (he : ∀ i : Nat, i < n → PureE te ((wipe σ vs).set j (some (.int (lo + i)))) H (f i)) (k : ∀ p H1, H p = none → Ex H H1 → H1 p = some (.lst ((List.range n).map f)) → Q (.ref p) H1) : LcB (Itr lo n) (gName j) tYes te vs σ H Q := fun Dl hD => by
  refine lc_range (fun i H' => Ex H H' ∧ H' Dl = some (.lst ((List.range i).map f))) ⟨Ex.new hD, upd_same⟩ (fun i H' hi p => ?_) (fun H' p => k Dl H' hD p.1 p.2)
  refine ⟨hw _, ?_⟩
  refine tYes_k ?_
  rw [if_pos rfl]
  refine he i hi H' p.1 _ fun H2 e2 => ⟨_, e2 _ _ p.2, ?_, ?_⟩
  · rw [List.length_map, List.length_range]
    exact len_lt (by omega)
  · refine ⟨fun a o ha => ?_, ?_⟩
    · rw [upd_ne (ne_of_none ha hD)]
      exact e2 _ _ (p.1 _ _ ha)
    · rw [upd_same, List.range_succ, List.map_append]
      rfl
theorem lc_lstP {a : Addr} {xs : List V} {j : Nat} {vs : List Nat} (f : V → V) (hx : SqL K H a xs) (hn : xs.length ≤ 100000) (hw : ∀ x, wipe ((wipe σ vs).set j (some x)) vs = wipe σ vs)
    (he : ∀ (i : Nat) x, xs[i]? = some x → PureE te ((wipe σ vs).set j (some x)) H (f x)) (k : ∀ p H1, H p = none → Ex H H1 → H1 p = some (.lst (xs.map f)) → Q (.ref p) H1) : LcB (Itl K a) (gName j) tYes te vs σ H Q := fun Dl hD => by
  refine lc_list (xs := xs) (fun i H' => Ex H H' ∧ H' Dl = some (.lst ((xs.take i).map f))) ⟨Ex.new hD, upd_same⟩ (fun i H' _ p => sql_up p.1 hx) (fun i x H' hi p => ?_) (fun H' p => k Dl H' hD p.1 (by rw [p.2, List.take_length]))
  refine ⟨hw _, ?_⟩
  refine tYes_k ?_
  rw [if_pos rfl]
  refine he i x hi H' p.1 _ fun H2 e2 => ⟨_, e2 _ _ p.2, ?_, ?_⟩
  · rw [List.length_map, List.length_take]
    exact len_lt (by omega)
  · refine ⟨fun a o ha => ?_, ?_⟩
    · rw [upd_ne (ne_of_none ha hD)]
      exact e2 _ _ (p.1 _ _ ha)
    · rw [upd_same, List.take_add_one, hi, List.map_append]
      rfl
theorem lc_tupP {a : Addr} {xs : List V} {j : Nat} {vs : List Nat} (f : V → V) (hx : SqT K H a xs) (hn : xs.length ≤ 100000) (hw : ∀ x, wipe ((wipe σ vs).set j (some x)) vs = wipe σ vs)
    (he : ∀ (i : Nat) x, xs[i]? = some x → PureE te ((wipe σ vs).set j (some x)) H (f x)) (k : ∀ p H1, H p = none → Ex H H1 → H1 p = some (.lst (xs.map f)) → Q (.ref p) H1) : LcB (Itt K a) (gName j) tYes te vs σ H Q := fun Dl hD => by
  refine lc_tup (xs := xs) (fun i H' => Ex H H' ∧ H' Dl = some (.lst ((xs.take i).map f))) ⟨Ex.new hD, upd_same⟩ (fun i H' _ p => sqt_up p.1 hx) (fun i x H' hi p => ?_) (fun H' p => k Dl H' hD p.1 (by rw [p.2, List.take_length]))
  refine ⟨hw _, ?_⟩
  refine tYes_k ?_
  rw [if_pos rfl]
  refine he i x hi H' p.1 _ fun H2 e2 => ⟨_, e2 _ _ p.2, ?_, ?_⟩
  · rw [List.length_map, List.length_take]
    exact len_lt (by omega)
  · refine ⟨fun a o ha => ?_, ?_⟩
    · rw [upd_ne (ne_of_none ha hD)]
      exact e2 _ _ (p.1 _ _ ha)
    · rw [upd_same, List.take_add_one, hi, List.map_append]
      rfl
end

theorem Sz.b2 {c : Prop} {_ : Decidable c} : Sz 1 (if c then 1 else 0) := by
  show (if c then (1 : Int) else 0).natAbs < 2 ^ 1
  split <;> decide
theorem div_mod_eq (x m : Int) : x / m * m + x % m = x := by
  have := Int.emod_add_mul_ediv x m
  rw [Int.mul_comm] at this
  omega
theorem Sz.small {x : Int} (h : x.natAbs < 1000000000000000000) : Sz 200 x := by
  show x.natAbs < 2 ^ 200
  omega
theorem at_ints {ns : List Int} {i : Int} (h0 : 0 ≤ i) (h1 : i < ns.length) : ∃ z, atI (ns.map V.int) i = some (.int z) ∧ ns[i.toNat]? = some z := by
  have hl : i.toNat < ns.length := by omega
  refine ⟨ns[i.toNat], ?_, List.getElem?_eq_getElem hl⟩
  refine at_of (j := i.toNat) (by omega) ?_
  rw [List.getElem?_map, List.getElem?_eq_getElem hl]
  rfl
theorem at_3 {x y z : V} {i : Int} (h0 : 0 ≤ i) (h1 : i < 3) : ∃ v, atI [x, y, z] i = some v ∧ (v = x ∨ v = y ∨ v = z) := by
  obtain rfl | rfl | rfl : i = 0 ∨ i = 1 ∨ i = 2 := by omega
  · exact ⟨_, rfl, .inl rfl⟩
  · exact ⟨_, rfl, .inr (.inl rfl)⟩
  · exact ⟨_, rfl, .inr (.inr rfl)⟩
theorem Sz.lt {n : Nat} {x y : Int} (h : Sz n y) (a : 0 ≤ x) (b : x < y) : Sz n x := by
  have h' : y.natAbs < 2 ^ n := h
  show x.natAbs < 2 ^ n
  omega
theorem Sz.abs {n : Nat} {x : Int} (h : Sz n x) : Sz n (x.natAbs : Int) := by
  show ((x.natAbs : Int)).natAbs < 2 ^ n
  exact h

section
variable {σ : L2.St} {H : Hp} {D : Ends} {t : TT} {s1 : TS}
/-- a while by its measure -/
theorem while_m (W : Nat → L2.St → Hp → Prop) (m0 : Nat) (h0 : W m0 σ H) (h : ∀ m σ H, W m σ H → t σ H fun b H1 => if b = true then ∃ N : L2.St → Hp → Prop, (∀ σ' H', N σ' H' → ∃ m', m' < m ∧ W m' σ' H') ∧ s1 { D with nx := N, ct := N, bk := D.nx } σ H1 else D.nx σ H1) : tWhile t s1 D σ H :=
  ⟨W, ⟨m0, h0⟩, fun m σ H w => h m σ H w⟩
theorem r_body {m : Nat} {W : Nat → L2.St → Hp → Prop} (N : L2.St → Hp → Prop) (hN : ∀ σ' H', N σ' H' → ∃ m', m' < m ∧ W m' σ' H') (k : s1 { D with nx := N, ct := N, bk := D.nx } σ H) :
    ∃ N : L2.St → Hp → Prop, (∀ σ' H', N σ' H' → ∃ m', m' < m ∧ W m' σ' H') ∧ s1 { D with nx := N, ct := N, bk := D.nx } σ H := ⟨N, hN, k⟩
end

/-- in a turn of the law, begun at H0, drawing from d -/
structure Lw (H0 : Hp) (d : Addr) (H : Hp) : Prop where
  e : Ex H0 H
  n : H0 d = none
  D : Dr H d
theorem Lw.ex {H0 H H' : Hp} {d : Addr} (w : Lw H0 d H) (e : Ex H H') : Lw H0 d H' := ⟨w.e.trans e, w.n, w.D.up e⟩
/-- a list of the turn's own is changed -/
theorem Lw.own {H0 H H' : Hp} {d l : Addr} (w : Lw H0 d H) (nf : H0 l = none) (ne : l ≠ d) (k : Kp l H H') : Lw H0 d H' := by
  obtain ⟨x, y, h, r⟩ := w.D
  exact ⟨w.e.kpd nf k, w.n, x, y, k _ _ (Ne.symm ne) h, r⟩
theorem Lw.kp {H0 H H' : Hp} {d : Addr} (w : Lw H0 d H) (k : Kp d H H') (D : Dr H' d) : Lw H0 d H' := ⟨w.e.kpd w.n k, w.n, D⟩

/-! data compared -/
theorem eqv_ints : ∀ xs ys : List Int, PyData.eqvAll (xs.map PyData.int) (ys.map PyData.int) = decide (xs = ys)
  | [], [] => by rw [decide_eq_true rfl]; rfl
  | [], y :: ys => by rw [decide_eq_false (by intro h; cases h)]; rfl
  | x :: xs, [] => by rw [decide_eq_false (by intro h; cases h)]; rfl
  | x :: xs, y :: ys => by
    show (PyData.eqv (.int x) (.int y) && PyData.eqvAll (xs.map PyData.int) (ys.map PyData.int)) = _
    rw [eqv_ints xs ys]
    show ((x == y) && decide (xs = ys)) = decide (x :: xs = y :: ys)
    by_cases h : x = y
    · subst h
      by_cases h2 : xs = ys
      · subst h2
        rw [decide_eq_true rfl, decide_eq_true rfl, beq_self_eq_true]
        rfl
      · rw [decide_eq_false h2, decide_eq_false (fun z => h2 (List.cons.inj z).2), Bool.and_false]
    · rw [beq_eq_false_iff_ne.mpr h, decide_eq_false (fun z => h (List.cons.inj z).1), Bool.false_and]
theorem lay_ints : ∀ xs : List Int, PyData.canLayAll0 (xs.map PyData.int) = true
  | [] => rfl
  | x :: xs => by
    show (PyData.canLay0 (.int x) && PyData.canLayAll0 (xs.map PyData.int)) = true
    rw [lay_ints xs]
    rfl
theorem dep_ints : ∀ xs : List Int, PyData.depthAll (xs.map PyData.int) ≤ 1
  | [] => Nat.zero_le _
  | x :: xs => by
    show max (PyData.depth (.int x)) (PyData.depthAll (xs.map PyData.int)) ≤ 1
    have h1 : PyData.depth (.int x) ≤ 1 := by
      unfold PyData.depth
      omega
    have := dep_ints xs
    omega
theorem shp_tup (xs : List Int) : SeqAt.shaped (.tuple (xs.map PyData.int)) = true := by
  unfold SeqAt.shaped
  rw [Bool.and_eq_true]
  refine ⟨?_, decide_eq_true ?_⟩
  · unfold PyData.canLay0
    exact lay_ints xs
  · unfold PyData.depth
    have := dep_ints xs
    omega
theorem shp_lst (xs : List Int) : SeqAt.shaped (.list (xs.map PyData.int)) = true := by
  unfold SeqAt.shaped
  rw [Bool.and_eq_true]
  refine ⟨?_, decide_eq_true ?_⟩
  · unfold PyData.canLay0
    exact lay_ints xs
  · unfold PyData.depth
    have := dep_ints xs
    omega
section
variable {K : PySem.W.Frag} {H : Hp} {Q : VK}
theorem dp_ints : ∀ xs : List Int, DpAll K H (xs.map V.int) (xs.map PyData.int)
  | [] => .nil
  | x :: xs => .cons (.int x) (dp_ints xs)
theorem r_eqD {x y : V} {d e : PyData} (hd : Dp K H x d) (he : Dp K H y e) (sd : SeqAt.shaped d = true) (se : SeqAt.shaped e = true) (k : Q (.bl (PyData.eqv d e)) H) : rEqD K x y H Q := ⟨d, e, hd, he, sd, se, k⟩
theorem r_neD {x y : V} {d e : PyData} (hd : Dp K H x d) (he : Dp K H y e) (sd : SeqAt.shaped d = true) (se : SeqAt.shaped e = true) (k : Q (.bl (!PyData.eqv d e)) H) : rNeD K x y H Q := ⟨d, e, hd, he, sd, se, k⟩
theorem eqvT (xs ys : List Int) : PyData.eqv (.tuple (xs.map PyData.int)) (.tuple (ys.map PyData.int)) = decide (xs = ys) := by
  unfold PyData.eqv
  exact eqv_ints xs ys
theorem eqvL (xs ys : List Int) : PyData.eqv (.list (xs.map PyData.int)) (.list (ys.map PyData.int)) = decide (xs = ys) := by
  unfold PyData.eqv
  exact eqv_ints xs ys
/-- two tuples of three whole numbers, two lists of whole numbers -/
theorem r_eqT3 {p q : Addr} {a b c a' b' c' : Int} (h : SqT K H p [.int a, .int b, .int c]) (h' : SqT K H q [.int a', .int b', .int c']) (k : Q (.bl (decide ([a, b, c] = [a', b', c']))) H) : rEqD K (.ref p) (.ref q) H Q :=
  r_eqD (.tup h (dp_ints [a, b, c])) (.tup h' (dp_ints [a', b', c'])) (shp_tup _) (shp_tup _) (by rw [eqvT]; exact k)
theorem r_neT3 {p q : Addr} {a b c a' b' c' : Int} (h : SqT K H p [.int a, .int b, .int c]) (h' : SqT K H q [.int a', .int b', .int c']) (k : Q (.bl (!decide ([a, b, c] = [a', b', c']))) H) : rNeD K (.ref p) (.ref q) H Q :=
  r_neD (.tup h (dp_ints [a, b, c])) (.tup h' (dp_ints [a', b', c'])) (shp_tup _) (shp_tup _) (by rw [eqvT]; exact k)
theorem r_eqL {p q : Addr} {xs ys : List Int} (h : SqL K H p (xs.map V.int)) (h' : SqL K H q (ys.map V.int)) (k : Q (.bl (decide (xs = ys))) H) : rEqD K (.ref p) (.ref q) H Q :=
  r_eqD (.lst h (dp_ints xs)) (.lst h' (dp_ints ys)) (shp_lst _) (shp_lst _) (by rw [eqvL]; exact k)
theorem r_neL {p q : Addr} {xs ys : List Int} (h : SqL K H p (xs.map V.int)) (h' : SqL K H q (ys.map V.int)) (k : Q (.bl (!decide (xs = ys))) H) : rNeD K (.ref p) (.ref q) H Q :=
  r_neD (.lst h (dp_ints xs)) (.lst h' (dp_ints ys)) (shp_lst _) (shp_lst _) (by rw [eqvL]; exact k)
end
theorem at_2 {x y : V} {i : Int} (h0 : 0 ≤ i) (h1 : i < 2) : ∃ v, atI [x, y] i = some v ∧ (v = x ∨ v = y) := by
  obtain rfl | rfl : i = 0 ∨ i = 1 := by omega
  · exact ⟨_, rfl, .inl rfl⟩
  · exact ⟨_, rfl, .inr rfl⟩
/-- what a test gives without a change of what is tracked -/
def PureT (tt : TT) (σ : L2.St) (H : Hp) (b : Bool) : Prop := ∀ H1, Ex H H1 → ∀ Q : Bool → Hp → Prop, (∀ H2, Ex H1 H2 → Q b H2) → tt σ H1 Q
section
variable {K : PySem.W.Frag} {σ : L2.St} {H : Hp} {Q : VK} {te : TE} {tt : TT}
/-- [e for j in a range if t], t and e pure -/
theorem lc_rngF {lo : Int} {n j : Nat} {vs : List Nat} (c : Nat → Bool) (f : Nat → V) (hn : n ≤ 100000) (hw : ∀ x, wipe ((wipe σ vs).set j (some x)) vs = wipe σ vs)
    (ht : ∀ i : Nat, i < n → PureT tt ((wipe σ vs).set j (some (.int (lo + i)))) H (c i))
    (he : ∀ i : Nat, i < n → c i = true → PureE te ((wipe σ vs).set j (some (.int (lo + i)))) H (f i)) (k : ∀ p H1, H p = none → Ex H H1 → H1 p = some (.lst (((List.range n).filter c).map f)) → Q (.ref p) H1) : LcB (Itr lo n) (gName j) tt te vs σ H Q := fun Dl hD => by
  refine lc_range (fun i H' => Ex H H' ∧ H' Dl = some (.lst (((List.range i).filter c).map f))) ⟨Ex.new hD, upd_same⟩ (fun i H' hi p => ?_) (fun H' p => k Dl H' hD p.1 p.2)
  refine ⟨hw _, ht i hi H' p.1 _ fun H2 e2 => ?_⟩
  cases hc : c i with
  | true =>
    rw [if_pos rfl]
    refine he i hi hc H2 (p.1.trans e2) _ fun H3 e3 => ⟨_, e3 _ _ (e2 _ _ p.2), ?_, ?_⟩
    · have l1 := List.length_filter_le c (List.range i)
      rw [List.length_range] at l1
      rw [List.length_map]
      exact len_lt (by omega)
    · refine ⟨fun a o ha => ?_, ?_⟩
      · rw [upd_ne (ne_of_none ha hD)]
        exact e3 _ _ (e2 _ _ (p.1 _ _ ha))
      · rw [upd_same, List.range_succ, List.filter_append, List.map_append]
        simp [hc]
  | false =>
    rw [if_neg Bool.false_ne_true]
    refine ⟨p.1.trans e2, ?_⟩
    rw [List.range_succ, List.filter_append, List.map_append]
    simp [hc, e2 _ _ p.2]
end
/-- a drawn stair -/
structure StB (a b m : Int) : Prop where
  m0 : 0 < m
  m1 : m ≤ 1000000000000000000000000000000000000000000000000000000000000
  za : Sz 620 a
  zb : Sz 620 b
theorem StB.zm {a b m : Int} (S : StB a b m) : Sz 200 m := by
  have := S.m0
  have := S.m1
  show m.natAbs < 2 ^ 200
  omega

section
variable {K : PySem.W.Frag} {σ : L2.St} {H : Hp} {Q : VK} {i : Int}
theorem r_sortI {a : Addr} {ns : List Int} (h : SqL K H a (ns.map V.int)) (k : ∀ (ns' : List Int) p H1, ns'.Perm ns → ns'.Pairwise (· ≤ ·) → H p = none → Ex H H1 → H1 p = some (.lst (ns'.map V.int)) → Q (.ref p) H1) : rSortedI K [.ref a] H Q :=
  ⟨a, ns, rfl, h, fun ns' p h1 h2 hp => k ns' p _ h1 h2 hp (Ex.new hp) upd_same⟩
theorem r_gLst {p : Addr} {xs : List V} {n : Nat} {g : TGs} {QS : L2.St → Hp → Prop} (h : SqL K H p xs) (l : xs.length = n) (k : g xs σ H QS) : gLst K n g (.ref p) σ H QS := ⟨p, xs, rfl, h, l, k⟩
end
theorem sort_2 {ns : List Int} {x y : Int} (h : ns.Perm [x, y]) (s : ns.Pairwise (· ≤ ·)) : ns = [min x y, max x y] := by
  have hl := h.length_eq
  match ns, hl with
  | [u, v], _ =>
    have m1 := h.mem_iff (a := u)
    have m2 := h.mem_iff (a := v)
    have m3 := h.mem_iff (a := x)
    have m4 := h.mem_iff (a := y)
    have huv : u ≤ v := by
      have := List.pairwise_cons.mp s
      exact this.1 v (by simp)
    simp at m1 m2 m3 m4
    have e1 : u = min x y := by omega
    have e2 : v = max x y := by omega
    rw [← e1, ← e2]
theorem sort_3 {ns : List Int} {x y z lo hi : Int} (h : ns.Perm [x, y, z]) (s : ns.Pairwise (· ≤ ·)) (h1 : lo ≤ x ∧ x ≤ hi) (h2 : lo ≤ y ∧ y ≤ hi) (h3 : lo ≤ z ∧ z ≤ hi) : ∃ u v w, ns = [u, v, w] ∧ lo ≤ u ∧ u ≤ v ∧ v ≤ w ∧ w ≤ hi := by
  have hl := h.length_eq
  match ns, hl with
  | [u, v, w], _ =>
    have m1 := h.mem_iff (a := u)
    have m3 := h.mem_iff (a := w)
    have p := List.pairwise_cons.mp s
    have huv : u ≤ v := p.1 v (by simp)
    have hvw : v ≤ w := (List.pairwise_cons.mp p.2).1 w (by simp)
    simp at m1 m3
    exact ⟨u, v, w, rfl, by omega, huv, hvw, by omega⟩
/-! none, True, membership -/
def rIsNn : R2 := fun x y H Q => y = .non ∧ Q (.bl (decide (x = .non))) H
def rNotNn : R2 := fun x y H Q => y = .non ∧ Q (.bl (!decide (x = .non))) H
theorem op_isNn {X : Cx} : OpR X (compareOp .Is) rIsNn := op_isN
theorem op_notNn {X : Cx} : OpR X (compareOp .IsNot) rNotNn := op_notN
section
variable {K : PySem.W.Frag} {H : Hp} {Q : VK} {x : V}
theorem r_isNnI {i : Int} (k : Q (.bl false) H) : rIsNn (.int i) .non H Q := ⟨rfl, k⟩
theorem r_isNnN (k : Q (.bl true) H) : rIsNn .non .non H Q := ⟨rfl, k⟩
theorem r_isNnR {a : Addr} (k : Q (.bl false) H) : rIsNn (.ref a) .non H Q := ⟨rfl, k⟩
theorem r_notNnI {i : Int} (k : Q (.bl true) H) : rNotNn (.int i) .non H Q := ⟨rfl, k⟩
theorem r_notNnN (k : Q (.bl false) H) : rNotNn .non .non H Q := ⟨rfl, k⟩
theorem r_notNnR {a : Addr} (k : Q (.bl true) H) : rNotNn (.ref a) .non H Q := ⟨rfl, k⟩
theorem all_flatI : ∀ ns : List Int, (ns.map V.int).all flatV = true
  | [] => rfl
  | n :: ns => by
    show (true && (ns.map V.int).all flatV) = true
    rw [all_flatI ns]
    rfl
theorem inV_ints (i : Int) : ∀ ns : List Int, inV (.int i) (ns.map V.int) = decide (i ∈ ns)
  | [] => rfl
  | n :: ns => by
    show (eqV (.int n) (.int i) || inV (.int i) (ns.map V.int)) = _
    rw [inV_ints i ns]
    show ((decide (n = i)) || _) = _
    by_cases h : n = i
    · subst h
      rw [decide_eq_true rfl, decide_eq_true (List.mem_cons_self ..)]
      rfl
    · rw [decide_eq_false h, Bool.false_or]
      by_cases h2 : i ∈ ns
      · rw [decide_eq_true h2, decide_eq_true (List.mem_cons_of_mem _ h2)]
      · rw [decide_eq_false h2, decide_eq_false]
        intro z
        rcases List.mem_cons.mp z with z | z
        · exact h z.symm
        · exact h2 z
theorem r_inI {i : Int} {ns : List Int} {p : Addr} (h : SqL K H p (ns.map V.int)) (k : Q (.bl (decide (i ∈ ns))) H) : rIn K false (.int i) (.ref p) H Q :=
  ⟨p, _, rfl, .inl h, rfl, all_flatI ns, by rw [inV_ints]; exact k⟩
end
/-! lists of rows of whole numbers -/
theorem Kp.tupL {H H' : Hp} {d p : Addr} {xs ys : List V} (k : Kp d H H') (D : H d = some (.lst ys)) (h : H p = some (.tup xs)) : H' p = some (.tup xs) :=
  k _ _ (ne_of h D (by intro z; cases z)) h
/-- each value a tuple of whole numbers -/
def RowsA (H : Hp) : List V → List (List Int) → Prop
  | [], [] => True
  | v :: vs, r :: rs => (∃ p, v = .ref p ∧ H p = some (.tup (r.map V.int))) ∧ RowsA H vs rs
  | _, _ => False
theorem RowsA.imp {H H' : Hp} (f : ∀ (p : Addr) (xs : List V), H p = some (.tup xs) → H' p = some (.tup xs)) : ∀ {vs : List V} {rs : List (List Int)}, RowsA H vs rs → RowsA H' vs rs
  | [], [], _ => trivial
  | _ :: _, _ :: _, ⟨⟨p, e, h⟩, r⟩ => ⟨⟨p, e, f _ _ h⟩, RowsA.imp f r⟩
  | [], _ :: _, h => h.elim
  | _ :: _, [], h => h.elim
theorem RowsA.ex {H H' : Hp} {vs : List V} {rs : List (List Int)} (h : RowsA H vs rs) (e : Ex H H') : RowsA H' vs rs := h.imp fun p xs q => e p _ q
theorem RowsA.kp {H H' : Hp} {d : Addr} {vs : List V} {rs : List (List Int)} (h : RowsA H vs rs) (k : Kp d H H') (D : Dr H d) : RowsA H' vs rs := h.imp fun _ _ q => k.tup D q
theorem RowsA.kpL {H H' : Hp} {d : Addr} {ys vs : List V} {rs : List (List Int)} (h : RowsA H vs rs) (k : Kp d H H') (D : H d = some (.lst ys)) : RowsA H' vs rs := h.imp fun _ _ q => k.tupL D q
theorem RowsA.len {H : Hp} : ∀ {vs : List V} {rs : List (List Int)}, RowsA H vs rs → vs.length = rs.length
  | [], [], _ => rfl
  | _ :: _, _ :: _, ⟨_, r⟩ => by
    rw [List.length_cons, List.length_cons, RowsA.len r]
  | [], _ :: _, h => h.elim
  | _ :: _, [], h => h.elim
theorem RowsA.app {H : Hp} {p : Addr} {r : List Int} (hp : H p = some (.tup (r.map V.int))) : ∀ {vs : List V} {rs : List (List Int)}, RowsA H vs rs → RowsA H (vs ++ [.ref p]) (rs ++ [r])
  | [], [], _ => ⟨⟨p, rfl, hp⟩, trivial⟩
  | _ :: _, _ :: _, ⟨h, r⟩ => ⟨h, RowsA.app hp r⟩
  | [], _ :: _, h => h.elim
  | _ :: _, [], h => h.elim
theorem RowsA.get {H : Hp} : ∀ {vs : List V} {rs : List (List Int)} {i : Nat} {v : V}, RowsA H vs rs → vs[i]? = some v → ∃ p r, v = .ref p ∧ rs[i]? = some r ∧ H p = some (.tup (r.map V.int))
  | _ :: _, r :: _, 0, _, ⟨⟨p, e, h⟩, _⟩, g => ⟨p, r, (Option.some.inj g).symm.trans e, rfl, h⟩
  | _ :: _, _ :: _, i + 1, _, ⟨_, h⟩, g => RowsA.get (i := i) h g
  | [], _, _, _, _, g => by simp at g
  | _ :: _, [], _, _, h, _ => h.elim
/-- a list of rows stands at l -/
def RwL (H : Hp) (l : Addr) (rs : List (List Int)) : Prop := ∃ vs, H l = some (.lst vs) ∧ RowsA H vs rs
theorem RwL.ex {H H' : Hp} {l : Addr} {rs : List (List Int)} (h : RwL H l rs) (e : Ex H H') : RwL H' l rs := by
  obtain ⟨vs, h1, h2⟩ := h
  exact ⟨vs, e _ _ h1, h2.ex e⟩
theorem RwL.kp {H H' : Hp} {d l : Addr} {rs : List (List Int)} (h : RwL H l rs) (k : Kp d H H') (D : Dr H d) (n : l ≠ d) : RwL H' l rs := by
  obtain ⟨vs, h1, h2⟩ := h
  exact ⟨vs, k _ _ n h1, h2.kp k D⟩
theorem RwL.app {H H' : Hp} {l p : Addr} {vs : List V} {rs : List (List Int)} {r : List Int} (h0 : H l = some (.lst vs)) (h : RowsA H vs rs) (hp : H p = some (.tup (r.map V.int))) (k : Kp l H H') (h1 : H' l = some (.lst (vs ++ [.ref p]))) : RwL H' l (rs ++ [r]) :=
  ⟨_, h1, RowsA.app (k.tupL h0 hp) (h.kpL k h0)⟩
theorem cutV_whole {xs : List V} {lo hi : Option Int} (w : HT.sIx xs.length 0 lo = 0 ∧ HT.sIx xs.length xs.length hi = xs.length) : cutV xs lo hi = xs := by
  unfold cutV
  rw [w.1, w.2, List.drop_zero, Nat.sub_zero, List.take_length]
theorem mem_cutV {xs : List V} {lo hi : Option Int} {v : V} (h : v ∈ cutV xs lo hi) : v ∈ xs := List.mem_of_mem_drop (List.mem_of_mem_take h)
def rListOf (K : PySem.W.Frag) : List V → Hp → VK → Prop := fun xs H Q => ∃ p ys, xs = [.ref p] ∧ (SqL K H p ys ∨ SqT K H p ys) ∧ ∀ l, H l = none → Q (.ref l) (upd H l (.lst ys))
theorem cl_listOf {X : Cx} : CallR X (.type "list") (rListOf X.K) := call_list_of
section
variable {K : PySem.W.Frag} {σ : L2.St} {H : Hp} {Q : VK} {ta te : TE} {t : TA} {p q l : Addr} {xs ys : List V} {tl th : TO}
theorem r_listL (h : SqL K H p ys) (k : ∀ l H1, H l = none → Ex H H1 → H1 l = some (.lst ys) → Q (.ref l) H1) : rListOf K [.ref p] H Q :=
  ⟨p, ys, rfl, .inl h, fun l n => k l _ n (Ex.new n) upd_same⟩
theorem r_listT (h : SqT K H p ys) (k : ∀ l H1, H l = none → Ex H H1 → H1 l = some (.lst ys) → Q (.ref l) H1) : rListOf K [.ref p] H Q :=
  ⟨p, ys, rfl, .inr h, fun l n => k l _ n (Ex.new n) upd_same⟩
theorem r_bm {T : String} {r : V → List V → Hp → VK → Prop} (k : ta σ H fun x H1 => tyV K T x H1 ∧ t σ H1 fun xs H2 => r x xs H2 Q) : tBM K T r ta t σ H Q := k
theorem r_tyL {R : Prop} (h : SqL K H p xs) (k : R) : tyV K "list" (.ref p) H ∧ R := ⟨.inl ⟨rfl, _, h⟩, k⟩
theorem r_app {y : V} (h : H l = some (.lst xs)) (n : xs.length ≤ 100000) (k : ∀ H1, Kp l H H1 → H1 l = some (.lst (xs ++ [y])) → Q .non H1) : rAppend (.ref l) [y] H Q :=
  ⟨l, xs, y, rfl, rfl, h, len_lt n, k _ Kp.upd upd_same⟩
theorem r_sl {r : V → Option Int → Option Int → Hp → VK → Prop} (k : te σ H fun x H1 => tl σ H1 fun l H2 => th σ H2 fun u H3 => r x l u H3 Q) : tSl r te tl th σ H Q := k
theorem r_noP {R : Option Int → Hp → Prop} (k : R none H) : tNoPart σ H R := k
theorem r_part {R : Option Int → Hp → Prop} (k : te σ H fun x H1 => ∃ i, x = .int i ∧ R (some i) H1) : tPart te σ H R := k
theorem r_partI {i : Int} {R : Int → Prop} (k : R i) : ∃ j, V.int i = .int j ∧ R j := ⟨i, rfl, k⟩
theorem r_slA {lo hi : Option Int} (h : H p = some (.tup xs)) (k : ∀ q H1, Ex H H1 → H1 q = some (.tup (cutV xs lo hi)) → Q (.ref q) H1) : rSlA K (.ref p) lo hi H Q :=
  ⟨p, xs, rfl, SqT.of h, fun w => k p H Ex.refl (by rw [cutV_whole w]; exact h), fun _ q hq => k q _ (Ex.new hq) upd_same⟩
theorem r_sl4 {a b c d e : V} (h : SqT K H p [a, b, c, d, e]) (k : ∀ q H1, H q = none → Ex H H1 → H1 q = some (.tup [a, b, c, d]) → Q (.ref q) H1) : rSlA K (.ref p) none (some 4) H Q :=
  ⟨p, _, rfl, h, fun w => absurd (show (4 : Nat) = 5 from w.2) (by decide), fun _ q hq => k q _ hq (Ex.new hq) upd_same⟩
theorem r_catA (h : H p = some (.tup xs)) (h2 : H q = some (.tup ys)) (n : xs.length + ys.length ≤ sizeLine) (k : ∀ l H1, Ex H H1 → H1 l = some (.tup (xs ++ ys)) → Q (.ref l) H1) : rCatA K (.ref p) (.ref q) H Q :=
  ⟨p, q, xs, ys, rfl, rfl, SqT.of h, SqT.of h2, n, fun e => k q H Ex.refl (by subst e; exact h2), fun _ e => k p H Ex.refl (by subst e; rw [List.append_nil]; exact h), fun _ _ l hl => k l _ (Ex.new hl) upd_same⟩
theorem r_catT {x y : V} {xs ys : List V} (h : SqT K H p (x :: xs)) (h2 : SqT K H q (y :: ys)) (n : (x :: xs).length + (y :: ys).length ≤ sizeLine) (k : ∀ l H1, H l = none → Ex H H1 → H1 l = some (.tup (x :: xs ++ y :: ys)) → Q (.ref l) H1) : rCatA K (.ref p) (.ref q) H Q :=
  ⟨p, q, x :: xs, y :: ys, rfl, rfl, h, h2, n, fun z => absurd z (List.cons_ne_nil _ _), fun _ z => absurd z (List.cons_ne_nil _ _), fun _ _ l hl => k l _ hl (Ex.new hl) upd_same⟩
theorem r_cat13 {x a b c : V} (h : SqT K H p [x]) (h2 : SqT K H q [a, b, c]) (k : ∀ l H1, H l = none → Ex H H1 → H1 l = some (.tup [x, a, b, c]) → Q (.ref l) H1) : rCatA K (.ref p) (.ref q) H Q :=
  r_catT h h2 (show 4 ≤ sizeLine by decide) k
theorem r_cat41 {x a b c y : V} (h : SqT K H p [x, a, b, c]) (h2 : SqT K H q [y]) (k : ∀ l H1, H l = none → Ex H H1 → H1 l = some (.tup [x, a, b, c, y]) → Q (.ref l) H1) : rCatA K (.ref p) (.ref q) H Q :=
  r_catT h h2 (show 5 ≤ sizeLine by decide) k
theorem r_slL {lo hi : Option Int} (h : H p = some (.lst xs)) (k : ∀ q H1, H q = none → Ex H H1 → H1 q = some (.lst (cutV xs lo hi)) → Q (.ref q) H1) : rSlL K (.ref p) lo hi H Q :=
  ⟨p, xs, rfl, SqL.of h, fun q hq => k q _ hq (Ex.new hq) upd_same⟩
theorem r_catL (h : H p = some (.lst xs)) (h2 : H q = some (.lst ys)) (n : xs.length + ys.length ≤ 100000) (k : ∀ l H1, H l = none → Ex H H1 → H1 l = some (.lst (xs ++ ys)) → Q (.ref l) H1) : rCat (.ref p) (.ref q) H Q :=
  ⟨p, q, xs, ys, rfl, rfl, h, h2, Nat.le_of_lt (len_lt n), fun l hl => k l _ hl (Ex.new hl) upd_same⟩
def rRev (K : PySem.W.Frag) (x : V) (H : Hp) (Q : VK) : Prop := ∃ a xs, x = .ref a ∧ SqL K H a xs ∧ ∀ p, H p = none → Q (.ref p) (upd H p (.lst xs.reverse))
theorem r_rev (k : te σ H fun x H1 => rRev K x H1 Q) : tRevL K te σ H Q := k
theorem r_revL (h : H p = some (.lst xs)) (k : ∀ q H1, H q = none → Ex H H1 → H1 q = some (.lst xs.reverse) → Q (.ref q) H1) : rRev K (.ref p) H Q :=
  ⟨p, xs, rfl, SqL.of h, fun q hq => k q _ hq (Ex.new hq) upd_same⟩
theorem ixN_in {n : Nat} {i : Int} (h0 : 0 ≤ i) (h1 : i < n) : ixN n i = some i.toNat := by
  unfold ixN
  rw [if_pos h0, if_pos h1]
theorem r_neT4 {a b c d a' b' c' d' : Int} (h : SqT K H p [.int a, .int b, .int c, .int d]) (h' : SqT K H q [.int a', .int b', .int c', .int d']) (k : Q (.bl (!decide ([a, b, c, d] = [a', b', c', d']))) H) : rNeD K (.ref p) (.ref q) H Q :=
  r_neD (.tup h (dp_ints [a, b, c, d])) (.tup h' (dp_ints [a', b', c', d'])) (shp_tup _) (shp_tup _) (by rw [eqvT]; exact k)
theorem r_notB {a b : Bool} (k : Q (.bl (!decide (a = b))) H) : rNotB (.bl a) (.bl b) H Q := ⟨a, b, rfl, rfl, k⟩
theorem r_isB {a b : Bool} (k : Q (.bl (decide (a = b))) H) : rIsB (.bl a) (.bl b) H Q := ⟨a, b, rfl, rfl, k⟩
end
/-! lists of rows compared -/
def rowD (r : List Int) : PyData := .tuple (r.map PyData.int)
theorem dp_rows {K : PySem.W.Frag} {H : Hp} : ∀ {vs : List V} {rs : List (List Int)}, RowsA H vs rs → DpAll K H vs (rs.map rowD)
  | [], [], _ => .nil
  | _ :: _, r :: _, ⟨⟨p, e, h⟩, g⟩ => by
    subst e
    exact .cons (.tup (SqT.of h) (dp_ints r)) (dp_rows g)
  | [], _ :: _, h => h.elim
  | _ :: _, [], h => h.elim
theorem lay_rows : ∀ rs : List (List Int), PyData.canLayAll0 (rs.map rowD) = true
  | [] => rfl
  | r :: rs => by
    show (PyData.canLay0 (rowD r) && PyData.canLayAll0 (rs.map rowD)) = true
    rw [lay_rows rs]
    show (PyData.canLay0 (.tuple (r.map PyData.int)) && true) = true
    unfold PyData.canLay0
    rw [lay_ints]
    rfl
theorem dep_rows : ∀ rs : List (List Int), PyData.depthAll (rs.map rowD) ≤ 2
  | [] => Nat.zero_le _
  | r :: rs => by
    show max (PyData.depth (rowD r)) (PyData.depthAll (rs.map rowD)) ≤ 2
    have h1 : PyData.depth (rowD r) ≤ 2 := by
      unfold rowD PyData.depth
      have := dep_ints r
      omega
    have := dep_rows rs
    omega
theorem shp_rows (rs : List (List Int)) : SeqAt.shaped (.list (rs.map rowD)) = true := by
  unfold SeqAt.shaped
  rw [Bool.and_eq_true]
  refine ⟨?_, decide_eq_true ?_⟩
  · unfold PyData.canLay0
    exact lay_rows rs
  · unfold PyData.depth
    have := dep_rows rs
    omega
theorem eqv_rows : ∀ xs ys : List (List Int), PyData.eqvAll (xs.map rowD) (ys.map rowD) = decide (xs = ys)
  | [], [] => by rw [decide_eq_true rfl]; rfl
  | [], y :: ys => by rw [decide_eq_false (by intro h; cases h)]; rfl
  | x :: xs, [] => by rw [decide_eq_false (by intro h; cases h)]; rfl
  | x :: xs, y :: ys => by
    show (PyData.eqv (rowD x) (rowD y) && PyData.eqvAll (xs.map rowD) (ys.map rowD)) = _
    rw [eqv_rows xs ys, show PyData.eqv (rowD x) (rowD y) = decide (x = y) from eqvT x y]
    by_cases h : x = y
    · subst h
      by_cases h2 : xs = ys
      · subst h2
        rw [decide_eq_true rfl, decide_eq_true rfl, decide_eq_true rfl]
        rfl
      · rw [decide_eq_false h2, decide_eq_false (fun z => h2 (List.cons.inj z).2), Bool.and_false]
    · rw [decide_eq_false h, decide_eq_false (fun z => h (List.cons.inj z).1), Bool.false_and]
theorem eqvR (xs ys : List (List Int)) : PyData.eqv (.list (xs.map rowD)) (.list (ys.map rowD)) = decide (xs = ys) := by
  unfold PyData.eqv
  exact eqv_rows xs ys
theorem r_neR {K : PySem.W.Frag} {H : Hp} {Q : VK} {p q : Addr} {xs ys : List (List Int)} (h : RwL H p xs) (h' : RwL H q ys) (k : Q (.bl (!decide (xs = ys))) H) : rNeD K (.ref p) (.ref q) H Q := by
  obtain ⟨vs, h1, h2⟩ := h
  obtain ⟨us, g1, g2⟩ := h'
  exact r_neD (.lst (SqL.of h1) (dp_rows h2)) (.lst (SqL.of g1) (dp_rows g2)) (shp_rows _) (shp_rows _) (by rw [eqvR]; exact k)
theorem r_eqR {K : PySem.W.Frag} {H : Hp} {Q : VK} {p q : Addr} {xs ys : List (List Int)} (h : RwL H p xs) (h' : RwL H q ys) (k : Q (.bl (decide (xs = ys))) H) : rEqD K (.ref p) (.ref q) H Q := by
  obtain ⟨vs, h1, h2⟩ := h
  obtain ⟨us, g1, g2⟩ := h'
  exact r_eqD (.lst (SqL.of h1) (dp_rows h2)) (.lst (SqL.of g1) (dp_rows g2)) (shp_rows _) (shp_rows _) (by rw [eqvR]; exact k)
/-- [e for v in a list], e pure, by places -/
theorem lc_lstI {K : PySem.W.Frag} {σ : L2.St} {H : Hp} {Q : VK} {te : TE} {a : Addr} {xs : List V} {j : Nat} {vs : List Nat} (f : Nat → V) (hx : SqL K H a xs) (hn : xs.length ≤ 100000) (hw : ∀ x, wipe ((wipe σ vs).set j (some x)) vs = wipe σ vs)
    (he : ∀ (i : Nat) x, xs[i]? = some x → PureE te ((wipe σ vs).set j (some x)) H (f i)) (k : ∀ p H1, H p = none → Ex H H1 → H1 p = some (.lst ((List.range xs.length).map f)) → Q (.ref p) H1) : LcB (Itl K a) (gName j) tYes te vs σ H Q := fun Dl hD => by
  refine lc_list (xs := xs) (fun i H' => Ex H H' ∧ H' Dl = some (.lst ((List.range i).map f))) ⟨Ex.new hD, upd_same⟩ (fun i H' _ p => sql_up p.1 hx) (fun i x H' hi p => ?_) (fun H' p => k Dl H' hD p.1 p.2)
  refine ⟨hw _, ?_⟩
  refine tYes_k ?_
  rw [if_pos rfl]
  have hl : i < xs.length := (List.getElem?_eq_some_iff.mp hi).1
  refine he i x hi H' p.1 _ fun H2 e2 => ⟨_, e2 _ _ p.2, ?_, ?_⟩
  · rw [List.length_map, List.length_range]
    exact len_lt (by omega)
  · refine ⟨fun a o ha => ?_, ?_⟩
    · rw [upd_ne (ne_of_none ha hD)]
      exact e2 _ _ (p.1 _ _ ha)
    · rw [upd_same, List.range_succ, List.map_append]
      rfl
def RowsZ (rs : List (List Int)) : Prop := ∀ r ∈ rs, ∃ n a b m s : Int, r = [n, a, b, m, s] ∧ 0 < m ∧ Sz 3300 n ∧ Sz 3300 a ∧ Sz 3300 b ∧ Sz 3300 m ∧ Sz 3300 s
theorem RowsZ.at {rs : List (List Int)} {i : Nat} {r : List Int} (h : RowsZ rs) (g : rs[i]? = some r) : ∃ n a b m s : Int, r = [n, a, b, m, s] ∧ 0 < m ∧ Sz 3300 n ∧ Sz 3300 a ∧ Sz 3300 b ∧ Sz 3300 m ∧ Sz 3300 s :=
  h r (List.mem_of_getElem? g)
def RowsY (rs : List (List Int)) : Prop := ∀ r ∈ rs, ∃ n a b m s : Int, r = [n, a, b, m, s] ∧ Sz 6900 n ∧ Sz 6900 a ∧ Sz 6900 b ∧ Sz 6900 m ∧ Sz 6900 s
theorem RowsY.at {rs : List (List Int)} {i : Nat} {r : List Int} (h : RowsY rs) (g : rs[i]? = some r) : ∃ n a b m s : Int, r = [n, a, b, m, s] ∧ Sz 6900 n ∧ Sz 6900 a ∧ Sz 6900 b ∧ Sz 6900 m ∧ Sz 6900 s :=
  h r (List.mem_of_getElem? g)
theorem RowsZ.y {rs : List (List Int)} (h : RowsZ rs) : RowsY rs := fun r hr => by
  obtain ⟨n, a, b, m, s, e, _, z1, z2, z3, z4, z5⟩ := h r hr
  exact ⟨n, a, b, m, s, e, z1.mono (by decide), z2.mono (by decide), z3.mono (by decide), z4.mono (by decide), z5.mono (by decide)⟩
theorem RowsZ.app {rs : List (List Int)} {n a b m s : Int} (h : RowsZ rs) (hm : 0 < m) (zn : Sz 3300 n) (za : Sz 3300 a) (zb : Sz 3300 b) (zm : Sz 3300 m) (zs : Sz 3300 s) : RowsZ (rs ++ [[n, a, b, m, s]]) := fun r hr => by
  rcases List.mem_append.mp hr with hr | hr
  · exact h r hr
  · rw [List.mem_singleton.mp hr]
    exact ⟨n, a, b, m, s, rfl, hm, zn, za, zb, zm, zs⟩
theorem Dr.lst {H : Hp} {d : Addr} (D : Dr H d) : ∃ xs, H d = some (.lst xs) := by
  obtain ⟨x, y, h, _⟩ := D
  exact ⟨_, h⟩
theorem Dr.kp {H H' : Hp} {d l : Addr} (D : Dr H d) (n : d ≠ l) (k : Kp l H H') : Dr H' d := by
  obtain ⟨x, y, h, r⟩ := D
  exact ⟨x, y, k _ _ n h, r⟩
/-- l fresh, then changed: all but d kept -/
theorem Kp.via {H H1 H2 : Hp} {d l : Addr} (k : Kp d H H1) (n : H l = none) (k2 : Kp l H1 H2) : Kp d H H2 := fun x o hx h => k2 x o (ne_of_none h n) (k x o hx h)
/-! the same within a comprehension -/
section
variable {X : Cx} {K : PySem.W.Frag}
theorem pg_tupK {es : List Expr} {k : Nat} {t : TGs} {n : Nat} {pos : Pos} (hc : X.calm = true) (h : PGs X es t) (hK : X.K = K := by rfl)
    (hn : (assignEach es X.env).length = n := by rfl) (hst : (assignEach es X.env).findIdx? (·.1) = none := by rfl) : PG X (.Tuple es k pos) (gTup K n t) := hK ▸ pg_tup hc h hn hst
theorem ix_listK (h : X.K = K := by rfl) : IxR X (rIxL K) := h ▸ ix_list
theorem ix_tupK (h : X.K = K := by rfl) : IxR X (rIxT K) := h ▸ ix_tup
theorem sl_tupAK (h : X.K = K := by rfl) : SlR X (rSlA K) := h ▸ sl_tupA
theorem sl_listK (h : X.K = K := by rfl) : SlR X (rSlL K) := h ▸ sl_list
theorem op_eqDK (hu : X.A.units + 64 < cLine) (h : X.K = K := by rfl) : OpR X (compareOp .Eq) (rEqD K) := h ▸ op_eqD hu
theorem op_neDK (hu : X.A.units + 64 < cLine) (h : X.K = K := by rfl) : OpR X (compareOp .NotEq) (rNeD K) := h ▸ op_neD hu
end
/-- [.. for v in a tuple if t], t never -/
theorem lc_tupN {K : PySem.W.Frag} {σ : L2.St} {H : Hp} {Q : VK} {te : TE} {tt : TT} {a : Addr} {xs : List V} {j : Nat} {vs : List Nat} (hx : SqT K H a xs) (hw : ∀ x, wipe ((wipe σ vs).set j (some x)) vs = wipe σ vs)
    (ht : ∀ (i : Nat) x, xs[i]? = some x → PureT tt ((wipe σ vs).set j (some x)) H false) (k : ∀ p H1, H p = none → Ex H H1 → H1 p = some (.lst []) → Q (.ref p) H1) : LcB (Itt K a) (gName j) tt te vs σ H Q := fun Dl hD => by
  refine lc_tup (xs := xs) (fun i H' => Ex H H' ∧ H' Dl = some (.lst [])) ⟨Ex.new hD, upd_same⟩ (fun i H' _ p => sqt_up p.1 hx) (fun i x H' hi p => ?_) (fun H' p => k Dl H' hD p.1 p.2)
  refine ⟨hw _, ht i x hi H' p.1 _ fun H2 e2 => ?_⟩
  rw [if_neg Bool.false_ne_true]
  exact ⟨p.1.trans e2, e2 _ _ p.2⟩
theorem sz_n {n : Int} (h0 : 0 ≤ n) (h1 : n < 1000000000000000000000000000000) : Sz 110 n := by
  show n.natAbs < 2 ^ 110
  omega
/-- values that are rows of five numbers -/
def RY (k : Nat) (H : Hp) (vs : List V) : Prop := ∀ v ∈ vs, ∃ (p : Addr) (n a b m s : Int), v = .ref p ∧ H p = some (.tup [.int n, .int a, .int b, .int m, .int s]) ∧ Sz k n ∧ Sz k a ∧ Sz k b ∧ Sz k m ∧ Sz k s
theorem RY.imp {k : Nat} {H H' : Hp} {vs : List V} (h : RY k H vs) (f : ∀ (p : Addr) (xs : List V), H p = some (.tup xs) → H' p = some (.tup xs)) : RY k H' vs := fun v hv => by
  obtain ⟨p, n, a, b, m, s, e, hp, z⟩ := h v hv
  exact ⟨p, n, a, b, m, s, e, f _ _ hp, z⟩
theorem RY.ex {k : Nat} {H H' : Hp} {vs : List V} (h : RY k H vs) (e : Ex H H') : RY k H' vs := h.imp fun p _ q => e p _ q
theorem RY.kp {k : Nat} {H H' : Hp} {d : Addr} {vs : List V} (h : RY k H vs) (kp : Kp d H H') (D : Dr H d) : RY k H' vs := h.imp fun _ _ q => kp.tup D q
theorem RY.kpL {k : Nat} {H H' : Hp} {d : Addr} {vs ys : List V} (h : RY k H vs) (kp : Kp d H H') (D : H d = some (.lst ys)) : RY k H' vs := h.imp fun _ _ q => kp.tupL D q
theorem RY.sub {k : Nat} {H : Hp} {vs us : List V} (h : RY k H vs) (f : ∀ v ∈ us, v ∈ vs) : RY k H us := fun v hv => h v (f v hv)
theorem RY.app {k : Nat} {H : Hp} {vs us : List V} (h : RY k H vs) (h' : RY k H us) : RY k H (vs ++ us) := fun v hv => (List.mem_append.mp hv).elim (h v) (h' v)
theorem RY.rows {H : Hp} : ∀ {vs : List V}, RY 6900 H vs → ∃ rs, RowsA H vs rs ∧ RowsY rs
  | [], _ => ⟨[], trivial, fun _ h => by cases h⟩
  | v :: vs, h => by
    obtain ⟨rs, h1, h2⟩ := RY.rows (H := H) (vs := vs) fun u hu => h u (List.mem_cons_of_mem _ hu)
    obtain ⟨p, n, a, b, m, s, e, hp, z⟩ := h v (List.mem_cons_self ..)
    refine ⟨[n, a, b, m, s] :: rs, ⟨⟨p, e, hp⟩, h1⟩, fun r hr => ?_⟩
    rcases List.mem_cons.mp hr with hr | hr
    · exact ⟨n, a, b, m, s, hr, z⟩
    · exact h2 r hr
theorem RowsA.ry {H : Hp} : ∀ {vs : List V} {rs : List (List Int)}, RowsA H vs rs → RowsZ rs → RY 3300 H vs
  | [], [], _, _ => fun _ h => by cases h
  | v :: vs, r :: rs, ⟨⟨p, e, hp⟩, h⟩, z => fun u hu => by
    rcases List.mem_cons.mp hu with hu | hu
    · obtain ⟨n, a, b, m, s, er, _, z'⟩ := z r (List.mem_cons_self ..)
      subst er
      exact ⟨p, n, a, b, m, s, hu.trans e, hp, z'⟩
    · exact RowsA.ry h (fun r hr => z r (List.mem_cons_of_mem _ hr)) u hu
  | [], _ :: _, h, _ => h.elim
  | _ :: _, [], h, _ => h.elim
theorem RY.mono {k j : Nat} {H : Hp} {vs : List V} (h : RY k H vs) (l : k ≤ j) : RY j H vs := fun v hv => by
  obtain ⟨p, n, a, b, m, s, e, hp, z1, z2, z3, z4, z5⟩ := h v hv
  exact ⟨p, n, a, b, m, s, e, hp, z1.mono l, z2.mono l, z3.mono l, z4.mono l, z5.mono l⟩
/-- a paper by a value -/
def PpV (H : Hp) (d : Addr) (v : V) : Prop := ∃ (l : Addr) (vs : List V), v = .ref l ∧ l ≠ d ∧ H l = some (.lst vs) ∧ RY 6900 H vs ∧ vs.length ≤ 6000
theorem PpV.ex {H H' : Hp} {d : Addr} {v : V} (h : PpV H d v) (e : Ex H H') : PpV H' d v := by
  obtain ⟨l, vs, e1, n, h1, h2, h3⟩ := h
  exact ⟨l, vs, e1, n, e _ _ h1, h2.ex e, h3⟩
theorem PpV.kp {H H' : Hp} {d : Addr} {v : V} (h : PpV H d v) (k : Kp d H H') (D : Dr H d) : PpV H' d v := by
  obtain ⟨l, vs, e1, n, h1, h2, h3⟩ := h
  exact ⟨l, vs, e1, n, k _ _ n h1, h2.kp k D, h3⟩
theorem PpV.kpL {H H' : Hp} {d q : Addr} {v : V} {ys : List V} (h : PpV H d v) (k : Kp q H H') (D : H q = some (.lst ys)) (n : v ≠ .ref q) : PpV H' d v := by
  obtain ⟨l, vs, e1, nd, h1, h2, h3⟩ := h
  exact ⟨l, vs, e1, nd, k _ _ (fun z => n (by rw [e1, z])) h1, h2.kpL k D, h3⟩
theorem r_sum {K : PySem.W.Frag} {H : Hp} {Q : VK} {p : Addr} {ns : List Int} (h : SqL K H p (ns.map V.int)) (k : Q (.int ns.sum) H) : rSum K [.ref p] H Q := ⟨p, ns, rfl, h, k⟩
theorem r_tyS {K : PySem.W.Frag} {H : Hp} {z : Str} {R : Prop} (k : R) : tyV K "str" (.str z) H ∧ R := ⟨rfl, k⟩
/-- sep.join(a list of texts) -/
def rJoin (K : PySem.W.Frag) : V → List V → Hp → VK → Prop := fun x xs H Q => ∃ a p, ∃ ys : List Str, x = .str a ∧ xs = [.ref p] ∧ (SqL K H p (ys.map V.str) ∨ SqT K H p (ys.map V.str)) ∧ (ys.map (·.length)).sum + ys.length * a.length ≤ 16777216 ∧ Q (.str (Txt.join a ys)) H
theorem mt_joinR {X : Cx} : MtR X "str.join" (rJoin X.K) := mt_join
theorem r_join {K : PySem.W.Frag} {H : Hp} {Q : VK} {a : Str} {p : Addr} {ys : List Str} (h : SqL K H p (ys.map V.str)) (n : (ys.map (·.length)).sum + ys.length * a.length ≤ 16777216) (k : Q (.str (Txt.join a ys)) H) : rJoin K (.str a) [.ref p] H Q := ⟨a, p, ys, rfl, rfl, .inl h, n, k⟩
theorem r_iZip {K : PySem.W.Frag} {ta : TA} {σ : L2.St} {H : Hp} {R : It → Hp → Prop} (k : ta σ H fun vs H1 => ∃ a b xs ys, vs = [.ref a, .ref b] ∧ SqL K H1 a xs ∧ SqL K H1 b ys ∧ R (Itz K a b) H1) : iZip K ta σ H R := k
/-- [e for x, y in zip(two lists of whole numbers)] -/
theorem lc_zipI {K : PySem.W.Frag} {σ : L2.St} {H : Hp} {Q : VK} {te : TE} {a b : Addr} {xs ys : List Int} {j1 j2 : Nat} {vs : List Nat} (f : Int → Int → V) (ha : SqL K H a (xs.map V.int)) (hb : SqL K H b (ys.map V.int)) (hn : xs.length ≤ 100000)
    (hw : ∀ x y, wipe (((wipe σ vs).set j1 (some x)).set j2 (some y)) vs = wipe σ vs)
    (he : ∀ (i : Nat) x y, xs[i]? = some x → ys[i]? = some y → PureE te (((wipe σ vs).set j1 (some (.int x))).set j2 (some (.int y))) H (f x y))
    (k : ∀ p H1, H p = none → Ex H H1 → H1 p = some (.lst ((xs.zip ys).map fun q => f q.1 q.2)) → Q (.ref p) H1) : LcB (Itz K a b) (gTup K 2 (gCons (gName j1) (gCons (gName j2) gNil))) tYes te vs σ H Q := fun Dl hD => by
  have lz : (xs.zip ys).length = min xs.length ys.length := List.length_zip
  refine ⟨fun i m H' => m = (xs.zip ys).length - i ∧ i ≤ (xs.zip ys).length ∧ Ex H H' ∧ H' Dl = some (.lst (((xs.zip ys).take i).map fun q => f q.1 q.2)), ⟨_, rfl, Nat.zero_le _, Ex.new hD, by rw [upd_same]; rfl⟩, ?_⟩
  rintro i m H' ⟨rfl, hi, e, hd⟩
  by_cases hx : i = (xs.zip ys).length
  · subst hx
    refine .inl ⟨⟨_, _, sql_up e ha, sql_up e hb, by rw [List.length_map, List.length_map]; omega⟩, ?_⟩
    rw [List.take_length] at hd
    exact k Dl H' hD e hd
  · have h1 : i < xs.length := by omega
    have h2 : i < ys.length := by omega
    have g1 : (xs.map V.int)[i]? = some (.int xs[i]) := by rw [List.getElem?_map, List.getElem?_eq_getElem h1]; rfl
    have g2 : (ys.map V.int)[i]? = some (.int ys[i]) := by rw [List.getElem?_map, List.getElem?_eq_getElem h2]; rfl
    have gz : (xs.zip ys)[i]? = some (xs[i], ys[i]) := by
      rw [List.getElem?_eq_getElem (by omega), List.getElem_zip]
    refine .inr ⟨⟨_, _, _, _, sql_up e ha, sql_up e hb, g1, g2⟩, fun H3 => Ex H H3 ∧ H3 Dl = some (.lst (((xs.zip ys).take (i + 1)).map fun q => f q.1 q.2)), fun H3 p => ⟨(xs.zip ys).length - (i + 1), by omega, rfl, by omega, p⟩, ?_⟩
    rintro x H2 ⟨T, x1, y1, rfl, hT, rfl, q1, q2⟩
    have e1 : x1 = .int xs[i] := Option.some.inj ((q1 _ (sql_up e ha)).symm.trans g1)
    have e2 : y1 = .int ys[i] := Option.some.inj ((q2 _ (sql_up e hb)).symm.trans g2)
    subst e1 e2
    refine ⟨T, _, rfl, SqT.of upd_same, rfl, _, _, rfl, _, _, rfl, rfl, hw _ _, ?_⟩
    have eT : Ex H' (upd H' T (.tup [.int xs[i], .int ys[i]])) := Ex.new hT
    refine tYes_k ?_
    rw [if_pos rfl]
    refine he i xs[i] ys[i] (List.getElem?_eq_getElem h1) (List.getElem?_eq_getElem h2) _ (e.trans eT) _ fun H4 e4 => ⟨_, e4 _ _ (eT _ _ hd), ?_, ?_⟩
    · rw [List.length_map, List.length_take]
      exact len_lt (by omega)
    · refine ⟨fun a o ho => ?_, ?_⟩
      · rw [upd_ne (ne_of_none ho hD)]
        exact e4 _ _ (eT _ _ (e _ _ ho))
      · rw [upd_same, List.take_add_one, gz, List.map_append]
        rfl
theorem cut_1 (xs : List V) (h : 1 ≤ xs.length) : cutV xs (some 1) none = xs.drop 1 := by
  have e1 : HT.sIx xs.length 0 (some 1) = 1 := by
    unfold HT.sIx
    simp
    omega
  have e2 : HT.sIx xs.length xs.length none = xs.length := rfl
  unfold cutV
  rw [e1, e2, List.take_of_length_le (by rw [List.length_drop]; omega)]
/-- [e for x in a list of whole numbers if t] -/
theorem lc_lstFI {K : PySem.W.Frag} {σ : L2.St} {H : Hp} {Q : VK} {te : TE} {tt : TT} {a : Addr} {ns : List Int} {j : Nat} {vs : List Nat} (c : Int → Bool) (f : Int → V) (hx : SqL K H a (ns.map V.int)) (hn : ns.length ≤ 100000) (hw : ∀ x, wipe ((wipe σ vs).set j (some x)) vs = wipe σ vs)
    (ht : ∀ x ∈ ns, PureT tt ((wipe σ vs).set j (some (.int x))) H (c x)) (he : ∀ x ∈ ns, c x = true → PureE te ((wipe σ vs).set j (some (.int x))) H (f x))
    (k : ∀ p H1, H p = none → Ex H H1 → H1 p = some (.lst ((ns.filter c).map f)) → Q (.ref p) H1) : LcB (Itl K a) (gName j) tt te vs σ H Q := fun Dl hD => by
  refine lc_list (xs := ns.map V.int) (fun i H' => Ex H H' ∧ H' Dl = some (.lst (((ns.take i).filter c).map f))) ⟨Ex.new hD, upd_same⟩ (fun i H' _ p => sql_up p.1 hx) (fun i x H' hi p => ?_) (fun H' p => k Dl H' hD p.1 (by rw [p.2, List.length_map, List.take_length]))
  rw [List.getElem?_map] at hi
  obtain ⟨z, hz, rfl⟩ := Option.map_eq_some_iff.mp hi
  have mem := List.mem_of_getElem? hz
  have tk : ns.take (i + 1) = ns.take i ++ [z] := by rw [List.take_add_one, hz]; rfl
  refine ⟨hw _, ht z mem H' p.1 _ fun H2 e2 => ?_⟩
  cases hc : c z with
  | true =>
    rw [if_pos rfl]
    refine he z mem hc H2 (p.1.trans e2) _ fun H3 e3 => ⟨_, e3 _ _ (e2 _ _ p.2), ?_, ?_⟩
    · rw [List.length_map]
      have := List.length_filter_le c (ns.take i)
      rw [List.length_take] at this
      exact len_lt (by omega)
    · refine ⟨fun b o hb => ?_, ?_⟩
      · rw [upd_ne (ne_of_none hb hD)]
        exact e3 _ _ (e2 _ _ (p.1 _ _ hb))
      · rw [upd_same, tk, List.filter_append, List.map_append]
        simp [hc]
  | false =>
    rw [if_neg Bool.false_ne_true]
    refine ⟨p.1.trans e2, ?_⟩
    rw [tk, List.filter_append, List.map_append]
    simp [hc, e2 _ _ p.2]
/-! ### a def that calls itself: one frame a turn -/
structure RmD (j : Nat) (A : Around) : Prop where
  hd : A.handled = none
  dp : A.depth + j + 20 < recursionLimit
  un : A.units + 3 * j + 300 < cLine
theorem RmD.room {j : Nat} {A : Around} (r : RmD j A) : Room 2 A := ⟨r.hd, by have := r.dp; omega, by have := r.un; omega⟩
theorem RmD.deeper {j : Nat} {A : Around} (r : RmD (j + 1) A) (env : Env) : RmD j (A.deeper env) :=
  ⟨r.hd, by have := r.dp; show A.depth + 1 + j + 20 < _; omega, by have := r.un; show A.units + 3 + 3 * j + 300 < _; omega⟩
theorem RmD.of {k j : Nat} {A : Around} (r : Room k A) (h : j + 40 ≤ 3 * k) : RmD j A := ⟨r.hd, by have := r.dp; omega, by have := r.un; omega⟩
/-- the def named x keeps the promise sp where there is room for j turns -/
def HasD (P : Program) (w : World) (K : PySem.W.Frag) (mg : Str → Option Value) (base : Heap) (j : Nat) (x : Str) (ps : List Str) (sp : Sp) : Prop :=
  ∃ f fd, mg x = some (.ref f) ∧ PySem.W.keepIn K (.ref f) = true ∧ Binds K fd ps [] ∧ (∀ vs H Q E, sp vs H Q E → vs.length = ps.length) ∧
    ∀ (A : Around) (outer : List Env) (s : Shared) (H : Hp) (args : Args) (us : List Value) (vs : List V) (Q : VK) (E : XK), RmD j A → Env0 P w K mg base A outer s H → BindsTo s fd args (ps.zip us) → Vals vs us → sp vs H Q E →
      codeAny (model P w) A (.call (.ref f) args) (CR CX0 outer P w H s Q E) s
section
variable {P : Program} {w : World} {K : PySem.W.Frag} {mg : Str → Option Value} {base : Heap}
theorem DefAt.okD {x : Str} {st : Stmt} {N ps : List Str} {j : Nat} {sp : Sp} (D : DefAt K mg x st ps) (S : FnScope N ps (defScope st)) (len : ∀ vs H Q E, sp vs H Q E → vs.length = ps.length)
    (hbody : ∀ (f : Addr) (cdv : Value) (A : Around) (outer : List Env) (s : Shared) (H : Hp) (vs : List V) (Q : VK) (E : XK), RmD j (A.deeper (envOfC x (defScope st) s.heap.objs.size f cdv)) → sp vs H Q E →
      ∃ t, PSs (cxOf CX0 P w K mg base N x (defScope st) f cdv A outer s H E).nox (defBody st) t ∧ t { nx := fun _ H' => Q .non H', rt := Q } (start N vs) H) : HasD P w K mg base (j + 1) x ps sp := by
  obtain ⟨f, fd, F, m, b⟩ := D
  refine ⟨f, fd, m, F.kp, b, len, fun A outer s H args us vs Q E rm e0 hb rv hs => ?_⟩
  obtain ⟨_, _, _, _, _, _, cdv, _, _, rfl, lk, cd⟩ := F.ex
  have grown : ∀ (a : Addr) (o : Obj), base.get? a = some o → s.heap.get? a = some o := fun a o h => (e0.bs a o h).1
  have locals : ∀ y ∈ ps.zip us, (defScope st).names.lookup y.1 = some .local ∨ ((defScope st).names.lookup y.1 = some .cell ∧ ((cellsFrom (s.heap.objs.size + 1) (defScope st).names []).lookup y.1).isSome = true) := by
    rintro ⟨y, u⟩ hy
    exact (S.par y (List.of_mem_zip hy).1).imp id fun c => ⟨c, PySem.W.cellsFrom_some _ _ _ (.inl c)⟩
  refine codeAny_call_function (by have := rm.dp; omega) (e0.mod.kin.keeps grown _ _ lk) rfl S.co S.gen rfl (PySem.W.codeRec_of (e0.mod.kin.keeps grown) cd) (hb _ _ _ _ ?_)
  refine wpAny_newFunctionEnv_cells S.kind locals ?_
  rintro env rfl s1 ic
  refine ⟨(e0.mod.nolimit.keeps grown).keeps ic.toInCall.keep, codeAny_func ?_⟩
  obtain ⟨t, ht, hq⟩ := hbody f cdv A outer s H vs Q E (rm.deeper _) hs
  refine wpAny_mono (ht.nox.run [] s1 (start N vs) H _ (inv_start S rm.hd e0 (len _ _ _ _ hs) rv ic) hq) (fun fl s' h => ?_) fun _ _ h => h
  cases fl with
  | ret u =>
    obtain ⟨v, _, H', J, r, q⟩ := h
    exact ⟨v, H', J.os, J.bare, J.base, J.hok, r, q⟩
  | next =>
    obtain ⟨_, H', J, q⟩ := h
    exact ⟨.non, H', J.os, J.bare, J.base, J.hok, rfl, q⟩
  | brk =>
    obtain ⟨_, _, _, q⟩ := h
    exact q.elim
  | cont =>
    obtain ⟨_, _, _, q⟩ := h
    exact q.elim
/-- nothing is promised of what never is -/
theorem DefAt.none {x : Str} {st : Stmt} {ps : List Str} {j : Nat} {sp : Sp} (D : DefAt K mg x st ps) (no : ∀ vs H Q E, ¬ sp vs H Q E) : HasD P w K mg base j x ps sp := by
  obtain ⟨f, fd, F, m, b⟩ := D
  exact ⟨f, fd, m, F.kp, b, fun _ _ _ _ h => (no _ _ _ _ h).elim, fun _ _ _ _ _ _ _ _ _ _ _ _ _ h => (no _ _ _ _ h).elim⟩
theorem HasD.has {x : Str} {ps : List Str} {j k : Nat} {sp : Sp} (G : HasD P w K mg base j x ps sp) (h : j + 40 ≤ 3 * k) : Has P w K mg base CX0 k x ps sp := by
  obtain ⟨f, fd, m, kp, b, len, r⟩ := G
  exact ⟨f, fd, m, kp, b, len, fun A outer s H args us vs Q E hr => r A outer s H args us vs Q E (.of hr h)⟩
end
section
variable {X : Cx} {x : Str} {p pos : Pos} {e : Expr} {es : List Expr} {t : TA} {j : Nat} {ps : List Str} {sp : Sp}
/-- f(e, ..), f itself -/
theorem pcallD (G : HasD X.prog X.w X.K X.mg X.base j x ps sp) (rm : RmD j X.A) (ha : PA X (e :: es) t) (hg : Gl X x := by rfl)
    (hdb : (x == ("__debug__" : Str)) = false := by decide) (he : starEach (e :: es) X.env = (false, eval e X.env) :: starEach es X.env := by rfl) (hpl : (backTo pos (starEach es X.env)).any (·.1) = false := by rfl) :
    PE X (.Call (.Name x p) (e :: es) [] pos) (tCal sp E0 t) := by
  obtain ⟨f, fd, m, kp, b, len, run⟩ := G
  refine ⟨fun pins s σ H Q I h => wpAny_Call_Name_kw (ld_glob I hg m ?_ hdb)⟩
  have h' : t σ H fun vs H1 => sp vs H1 Q E0 := h
  refine PySem.W.callWith_K (h₀ := X.base) I.ok.mod.kin kp (thn (ha.run pos pins s σ H _ I h') fun us s1 ⟨vs, H1, I1, rv, q⟩ => ⟨I1.kIn, ?_⟩) he hpl
  have hu : us.length = ps.length := by rw [← rv.length]; exact len _ _ _ _ q
  have hb := b s1 us I1.kIn (by rw [List.append_nil]; exact hu)
  rw [List.append_nil] at hb
  refine wpAny_call (codeAny_mono (run X.A X.stack s1 H1 ⟨us, []⟩ us vs Q E0 rm I1.env0 hb rv q) fun r s2 hr => ?_)
  match r, hr with
  | .error err, hr => exact pass0 pins σ H1 s1 err s2 I1 hr
  | .ok (.ret u), hr => exact I1.after hr
  | .ok .next, hr => exact hr.elim
  | .ok .brk, hr => exact hr.elim
  | .ok .cont, hr => exact hr.elim
end
end Sd

namespace Sd
open PySem PySem.Spec PyProof.Rows L2
def topS (i : Nat) : Stmt := PySem.Challenge.pw_stairsum_k21_lows_one_by_one.main.body.getD i (.Pass ⟨0, 0, 0, 0⟩)
local macro_rules | `(tactic| walk_at "pos") => `(tactic| first | assumption | decide | omega | fail "no step")
local macro_rules | `(tactic| walk_at "sz") => `(tactic| first
  | assumption
  | (with_reducible refine Sz.lit ?_; decide)
  | with_reducible exact Sz.b2
  | (with_reducible refine Sz.mul (n := ?n) (m := ?m) ?a ?b; (case a => walk_at "sz"); (case b => walk_at "sz"))
  | (with_reducible refine Sz.add (n := ?n) (m := ?m) ?a ?b; (case a => walk_at "sz"); (case b => walk_at "sz"))
  | (with_reducible refine Sz.sub (n := ?n) (m := ?m) ?a ?b; (case a => walk_at "sz"); (case b => walk_at "sz"))
  | (with_reducible refine Sz.neg (n := ?n) ?a; (case a => walk_at "sz"))
  | (with_reducible refine Sz.abs (n := ?n) ?a; (case a => walk_at "sz"))
  | (with_reducible refine Sz.div (n := ?n) ?a ?b; (case a => walk_at "sz"); (case b => walk_at "pos"))
  | (with_reducible refine Sz.mod (n := ?n) ?a ?b; (case a => walk_at "sz"); (case b => walk_at "pos"))
  | fail "no step")
local macro_rules | `(tactic| walk_at "mulW") => `(tactic| first
  | exact mulR ⟨by decide, by decide⟩
  | exact mulL ⟨by decide, by decide⟩
  | (refine mulX (n := ?n) (m := ?m) ?a ?b ?h; (case a => walk_at "sz"); (case b => walk_at "sz"); (case h => decide))
  | fail "no step")
local macro_rules | `(tactic| walk_at "divW") => `(tactic| (refine divW (n := ?n) ?p ?a ?h; (case p => walk_at "pos"); (case a => walk_at "sz"); (case h => decide)))
/- H a = some _ at the heap at hand -/
local macro_rules | `(tactic| walk_at "at") => `(tactic| first
  | assumption
  | (with_reducible refine Kp.tup (H := ?H) (d := ?d) ?k ?D ?_; (case k => assumption); (case D => assumption); walk_at "at")
  | (with_reducible refine Ex.at (H := ?H) ?k ?_; (case k => assumption); walk_at "at")
  | fail "no step")
local macro_rules | `(tactic| walk_at "sqt") => `(tactic| first
  | assumption
  | exact SqT.of (by walk_at "at")
  | (with_reducible refine sqt_kp (H := ?H) (d := ?d) ?k ?D ?_; (case k => assumption); (case D => assumption); walk_at "sqt")
  | (with_reducible refine sqt_up (H := ?H) ?k ?_; (case k => assumption); walk_at "sqt")
  | fail "no step")
local macro_rules | `(tactic| walk_at "sql") => `(tactic| first
  | assumption
  | exact SqL.of (by walk_at "at")
  | (with_reducible refine sql_up (H := ?H) ?k ?_; (case k => assumption); walk_at "sql")
  | fail "no step")
local macro_rules | `(tactic| walk_at "dec_f") => `(tactic| first
  | with_reducible rfl | with_reducible assumption
  | (with_reducible refine not_f ?_; walk_at "dec_t")
  | (with_reducible refine decide_eq_false ?_; first | with_reducible assumption | omega | (simp only [List.length_cons, List.length_nil]; omega))
  | fail "no step")
local macro_rules | `(tactic| walk_at "dec_t") => `(tactic| first
  | with_reducible rfl | with_reducible assumption
  | (with_reducible refine not_t ?_; walk_at "dec_f")
  | (with_reducible refine decide_eq_true ?_; first | with_reducible assumption | with_reducible rfl | omega | (simp only [List.length_cons, List.length_nil]; omega))
  | fail "no step")
local macro_rules | `(tactic| walk_at "sets") => `(tactic| first
  | with_reducible exact set_z
  | ((with_reducible refine set_s (l' := ?l) ?a); (case a => walk_at "sets"))
  | ((with_reducible refine set_in (e' := ?e) ?a ?b); (case a => walk_at "sets"); (case b => walk_at "sets"))
  | fail "no step")
local macro_rules | `(tactic| walk_at "go1") => `(tactic| first
  | ((with_reducible refine r_nxS (l' := ?l) ?h ?_); (case h => walk_at "sets"))
  | with_reducible refine r_seq ?_
  | with_reducible refine r_asg ?_
  | ((with_reducible refine r_var (v := ?v) ?h ?_); (case h => exact rfl))
  | with_reducible refine r_c ?_
  | with_reducible refine r_nx ?_
  | with_reducible refine r_rt ?_
  | with_reducible refine r_op ?_
  | with_reducible refine r_cons ?_
  | with_reducible refine r_nil ?_
  | with_reducible refine r_cal ?_
  | with_reducible refine r_I0 ?_
  | ((with_reducible refine r_mul ?c ?_); (case c => walk_at "mulW"))
  | ((with_reducible refine r_div ?c ?_); (case c => walk_at "divW"))
  | ((with_reducible refine r_mod ?c ?_); (case c => walk_at "pos"))
  | with_reducible refine r_p6 ?_
  | with_reducible refine r_p18 ?_
  | with_reducible refine r_p29 ?_
  | with_reducible refine r_p30 ?_
  | with_reducible refine r_p60 ?_
  | with_reducible refine r_p15 ?_
  | with_reducible refine r_p24 ?_
  | ((with_reducible refine r_pow ?c ?_); (case c => exact ⟨by decide, by decide, by decide⟩))
  | with_reducible refine r_ifS ?_
  | with_reducible refine r_test ?_
  | with_reducible refine r_tB ?_
  | with_reducible refine r_bl ?_
  | with_reducible refine r_eqI ?_
  | with_reducible refine r_neI ?_
  | with_reducible refine r_not ?_
  | with_reducible refine r_and ?_
  | with_reducible refine r_or ?_
  | with_reducible refine r_notV ?_
  | with_reducible refine r_andV ?_
  | with_reducible refine r_orV ?_
  | with_reducible refine r_blV ?_
  | with_reducible refine r_chain ?_
  | with_reducible refine r_ret ?_
  | with_reducible refine r_retN ?_
  | with_reducible refine r_drop ?_
  | with_reducible refine r_next ?_
  | with_reducible refine r_un ?_
  | with_reducible refine r_U ?_
  | with_reducible refine r_tup ?_
  | with_reducible refine r_lst ?_
  | ((with_reducible refine r_newT ?l ?_); (case l => exact Nat.le_of_ble_eq_true rfl); intro _ _ _ _ _)
  | ((with_reducible refine r_newL ?l ?_); (case l => exact Nat.le_of_ble_eq_true rfl); intro _ _ _ _ _)
  | ((with_reducible refine r_ixT (xs := ?x) (v := ?v) ?h ?a ?_); (case h => walk_at "sqt"); (case a => exact rfl))
  | ((with_reducible refine r_ixL (xs := ?x) (v := ?v) ?h ?a ?_); (case h => walk_at "sql"); (case a => exact rfl))
  | with_reducible refine r_asgG ?_
  | ((with_reducible refine r_gTup (xs := ?x) ?h ?l ?_); (case h => walk_at "sqt"); (case l => exact rfl))
  | with_reducible refine r_gCons ?_
  | with_reducible refine r_gNil ?_
  | with_reducible refine r_gName ?_
  | with_reducible refine r_gSub ?_
  | with_reducible refine r_par ?_
  | with_reducible refine r_parE ?_
  | with_reducible refine r_par3 ?_
  | with_reducible refine r_parE3 ?_
  | ((with_reducible refine r_aug (i := ?i) ?h ?_); (case h => exact rfl))
  | with_reducible refine r_ipI ?_
  | with_reducible refine r_if ?_
  | with_reducible refine r_chain3 ?_
  | ((with_reducible refine r_gLst (xs := ?x) ?h ?l ?_); (case h => walk_at "sql"); (case l => exact rfl))
  | with_reducible refine r_CB ?_
  | with_reducible refine r_isII ?_
  | with_reducible refine r_isIB ?_
  | ((with_reducible refine r_isTT (xs := ?x) ?h ?_); (case h => walk_at "at"))
  | with_reducible refine r_tyS ?_
  | with_reducible refine r_isSS ?_
  | with_reducible refine r_iZip ?_
  | ((with_reducible refine r_isLL (xs := ?x) ?h ?_); (case h => walk_at "at"))
  | ((with_reducible refine r_lenL (ys := ?x) ?h ?_); (case h => walk_at "sql"))
  | ((with_reducible refine r_lenT (ys := ?x) ?h ?_); (case h => walk_at "sqt"))
  | with_reducible refine r_abs ?_
  | with_reducible refine r_max2 ?_
  | with_reducible refine r_min2 ?_
  | with_reducible refine r_min3 ?_
  | with_reducible refine r_intI ?_
  | with_reducible refine r_intB ?_
  | with_reducible refine r_isBB ?_
  | with_reducible refine r_for ?_
  | ((with_reducible refine r_eqT3 (a := ?a) (b := ?b) (c := ?c) (a' := ?a') (b' := ?b') (c' := ?c') ?h ?h' ?_); (case h => walk_at "sqt"); (case h' => walk_at "sqt"))
  | ((with_reducible refine r_neT3 (a := ?a) (b := ?b) (c := ?c) (a' := ?a') (b' := ?b') (c' := ?c') ?h ?h' ?_); (case h => walk_at "sqt"); (case h' => walk_at "sqt"))
  | with_reducible refine r_notB ?_
  | with_reducible refine r_isB ?_
  | with_reducible refine r_bm ?_
  | ((with_reducible refine r_tyL (xs := ?x) ?h ?_); (case h => walk_at "sql"))
  | with_reducible refine r_sl ?_
  | with_reducible refine r_noP ?_
  | with_reducible refine r_part ?_
  | with_reducible refine r_partI ?_
  | ((with_reducible refine r_sl4 (a := ?a) (b := ?b) (c := ?c) (d := ?d) (e := ?e) ?h ?_); (case h => walk_at "sqt"); intro _ _ _ _ _)
  | ((with_reducible refine r_cat13 (x := ?x) (a := ?a) (b := ?b) (c := ?c) ?h ?h2 ?_); (case h => walk_at "sqt"); (case h2 => walk_at "sqt"); intro _ _ _ _ _)
  | ((with_reducible refine r_cat41 (x := ?x) (a := ?a) (b := ?b) (c := ?c) (y := ?y) ?h ?h2 ?_); (case h => walk_at "sqt"); (case h2 => walk_at "sqt"); intro _ _ _ _ _)
  | ((with_reducible refine r_neT4 (a := ?a) (b := ?b) (c := ?c) (d := ?d) (a' := ?a') (b' := ?b') (c' := ?c') (d' := ?d') ?h ?h' ?_); (case h => walk_at "sqt"); (case h' => walk_at "sqt"))
  | ((with_reducible refine r_listL (ys := ?y) ?h ?_); (case h => walk_at "sql"); intro _ _ _ _ _)
  | with_reducible refine r_rev ?_
  | with_reducible refine r_isNnI ?_
  | with_reducible refine r_isNnR ?_
  | with_reducible refine r_isNnN ?_
  | with_reducible refine r_notNnI ?_
  | with_reducible refine r_notNnR ?_
  | with_reducible refine r_notNnN ?_
  | with_reducible refine r_iRng1 ?_
  | with_reducible refine r_iRng2 ?_
  | with_reducible refine r_iList ?_
  | with_reducible refine r_iTup ?_
  | with_reducible refine r_lc ?_
  | ((with_reducible refine r_ItL (xs := ?x) ?h ?_); (case h => walk_at "sql"))
  | ((with_reducible refine r_ItT (xs := ?x) ?h ?_); (case h => walk_at "sqt"))
  | ((with_reducible refine if_T ?h ?_); (case h => walk_at "dec_t"))
  | ((with_reducible refine if_F ?h ?_); (case h => walk_at "dec_f"))
  | fail "no step")
local macro_rules | `(tactic| walk_at "go") => `(tactic| repeat walk_at "go1")
local macro_rules | `(tactic| walk_at "szm") => `(tactic| (refine Sz.mono (n := ?n) ?a ?h; (case a => walk_at "sz"); (case h => decide)))
def sp_law_draws (K : PySem.W.Frag) : Sp := fun vs H Q _ => ∃ (a : Addr) (ns : List Int) (k : Int), vs = [.ref a, .int k] ∧ SqL K H a (ns.map V.int) ∧ 0 ≤ k ∧ k ≤ 1000 ∧ ∀ d H', H d = none → Ex H H' → Dr H' d → Q (.ref d) H'
theorem use_law_draws {K : PySem.W.Frag} {H : Hp} {Q : VK} {E : XK} {a : Addr} {ns : List Int} {k : Int} (h : SqL K H a (ns.map V.int)) (h0 : 0 ≤ k) (h1 : k ≤ 1000) (q : ∀ d H', H d = none → Ex H H' → Dr H' d → Q (.ref d) H') : sp_law_draws K [.ref a, .int k] H Q E := ⟨a, ns, k, rfl, h, h0, h1, q⟩
abbrev s_law_draws : Stmt := topS 23
abbrev nm_law_draws : List Str := ["script", "k", "cell"]
theorem sc_law_draws : FnScope nm_law_draws ["script", "k"] (defScope s_law_draws) := ⟨rfl, rfl, rfl, by decide +kernel, rfl, by decide +kernel, by decide +kernel⟩
theorem st_law_draws {v0 v1 : V} : start nm_law_draws [v0, v1] = [some v0, some v1, none] := rfl
section
variable {P : Program} {w : World} {K : PySem.W.Frag} {mg : Str → Option Value} {base : Heap}
theorem ok_law_draws (D : DefAt K mg "_law_draws" s_law_draws ["script", "k"]) (B_len : mg "len" = none) (B_int : mg "int" = none) : Has P w K mg base CX0 2 "_law_draws" ["script", "k"] (sp_law_draws K) := by
  refine D.ok sc_law_draws (by rintro _ _ _ _ ⟨_, _, _, rfl, _⟩; rfl) (fun f cdv A outer s H vs Q E hr h => ?_)
  obtain ⟨a, ns, k, rfl, hS, h0, h1, q⟩ := h
  have zk : Sz 200 k := Sz.small (by omega)
  refine ⟨_, (pss_cons (ps_set (i := 2) sc_law_draws.nd rfl (Or.inl rfl) (pe_op op_mulX pe_int (pv 1)))
      (pcut (ps_if (pt_cmpR op_lt (pv 1) (pe_callB cl_len (by rfl) B_len (by decide +kernel) (pa_cons (pv 0) pa_nil)) (nomark _)) (pss_one (ps_set (i := 2) sc_law_draws.nd rfl (Or.inl rfl) (pe_op op_mod (pe_ix ix_list (pv 0) (pv 1) (fun _ _ => rfl)) (pe_op op_mulX (pe_op op_pow pe_int pe_int) (pe_op op_pow pe_int pe_int))))) (pss_one (ps_if (pt_cmpR op_gt (pe_callB cl_len (by rfl) B_len (by decide +kernel) (pa_cons (pv 0) pa_nil)) pe_int (nomark _)) (pss_one (ps_set (i := 2) sc_law_draws.nd rfl (Or.inl rfl) (pe_op op_add (pe_op op_mod (pe_ix ix_list (pv 0) (pe_op op_mod (pv 1) (pe_callB cl_len (by rfl) B_len (by decide +kernel) (pa_cons (pv 0) pa_nil))) (fun _ _ => rfl)) (pe_op op_pow pe_int pe_int)) (pe_op op_mulX pe_int (pv 1))))) pss_nil)))
      (pss_one (ps_ret (pe_lst (pa_cons (pe_op op_mulX (pv 2) (pe_callTy cl_int1 (by rfl) B_int (by decide +kernel) (pa_cons (pe_cmpR op_ge (pv 2) (pe_op op_pow pe_int pe_int) (nomark _)) pa_nil))) (pa_cons (pe_op op_add pe_int (pe_op op_mod (pe_op op_add (pe_op op_mulX (pv 2) pe_int) (pe_op op_mulX pe_int (pe_op op_add (pv 1) pe_int))) pe_int)) pa_nil))))))), ?_⟩
  rw [st_law_draws]
  try dsimp only [Cx.nox, Cx.wish, Cx.blk, cx_K]
  walk_at "go"
  refine r_cut (fun σ H' => H' = H ∧ ∃ c : Int, σ = [some (.ref a), some (.int k), some (.int c)] ∧ Sz 500 c) ?_ ?_
  · walk_at "go"
    refine if_2 (fun hx => ?_) (fun hx => ?_)
    · have hx := of_decide_eq_true hx
      rw [List.length_map] at hx
      obtain ⟨z, hz, _⟩ := at_ints h0 hx
      walk_at "go"
      refine r_ixL hS hz ?_
      walk_at "go"
      exact ⟨rfl, _, rfl, by walk_at "szm"⟩
    · have hx := of_decide_eq_false hx
      rw [List.length_map] at hx
      walk_at "go"
      refine if_2 (fun hy => ?_) (fun hy => ?_)
      · have hy := of_decide_eq_true hy
        obtain ⟨z, hz, _⟩ := at_ints (ns := ns) (i := k % ((ns.map V.int).length : Nat)) (Int.emod_nonneg _ (by omega)) (by
          have := Int.emod_lt_of_pos k hy
          rw [List.length_map] at this ⊢
          exact this)
        walk_at "go"
        refine r_ixL hS hz ?_
        walk_at "go"
        refine ⟨rfl, _, rfl, (Sz.small ?_).mono (by decide)⟩
        omega
      · walk_at "go"
        refine ⟨rfl, _, rfl, (Sz.small ?_).mono (by decide)⟩
        omega
  rintro σ H' ⟨rfl, c, rfl, zc⟩
  walk_at "go"
  rename_i d H1 nd e1 hd
  exact q _ _ nd e1 ⟨_, _, hd, by omega, by omega⟩

end
/-- a digit below n is drawn -/
def sp_law_draw (_ : PySem.W.Frag) : Sp := fun vs H Q _ => ∃ (d : Addr) (n : Int), vs = [.ref d, .int n] ∧ Dr H d ∧ 0 < n ∧ Sz 4000 n ∧ ∀ v H', 0 ≤ v → v < n → Kp d H H' → Dr H' d → Q (.int v) H'
theorem use_law_draw {K : PySem.W.Frag} {H : Hp} {Q : VK} {E : XK} {d : Addr} {n : Int} (D : Dr H d) (p : 0 < n) (z : Sz 4000 n) (k : ∀ v H', 0 ≤ v → v < n → Kp d H H' → Dr H' d → Q (.int v) H') : sp_law_draw K [.ref d, .int n] H Q E := ⟨d, n, rfl, D, p, z, k⟩
abbrev s_law_draw : Stmt := topS 24
abbrev nm_law_draw : List Str := ["draws", "many", "found"]
theorem sc_law_draw : FnScope nm_law_draw ["draws", "many"] (defScope s_law_draw) := ⟨rfl, rfl, rfl, by decide +kernel, rfl, by decide +kernel, by decide +kernel⟩
theorem st_law_draw {v0 v1 : V} : start nm_law_draw [v0, v1] = [some v0, some v1, none] := rfl
section
variable {P : Program} {w : World} {K : PySem.W.Frag} {mg : Str → Option Value} {base : Heap}
theorem ok_law_draw (D : DefAt K mg "_law_draw" s_law_draw ["draws", "many"]) : Has P w K mg base CX0 2 "_law_draw" ["draws", "many"] (sp_law_draw K) := by
  refine D.ok sc_law_draw (by rintro _ _ _ _ ⟨_, _, rfl, _⟩; rfl) (fun f cdv A outer s H vs Q E hr h => ?_)
  obtain ⟨d, n, rfl, ⟨x, y, hd, y0, y1⟩, hn, zn, k⟩ := h
  have zy : Sz 200 y := by
    show y.natAbs < 2 ^ 200
    omega
  refine ⟨_, (pss_cons (ps_if (pt_cmpR op_gt (pe_ix ix_list (pv 0) pe_int (fun _ _ => rfl)) pe_int (nomark _)) (pss_cons (ps_set (i := 2) sc_law_draw.nd rfl (Or.inl rfl) (pe_op op_mod (pe_ix ix_list (pv 0) pe_int (fun _ _ => rfl)) (pv 1)))
        (pss_cons (ps_asg (pe_op op_fdivW (pe_ix ix_list (pv 0) pe_int (fun _ _ => rfl)) (pv 1)) (pg_sub (pv 0) pe_int set_list))
        (pss_one (ps_ret (pv 2))))) pss_nil)
      (pss_cons (ps_asg (pe_op op_mod (pe_op op_mulX (pe_ix ix_list (pv 0) pe_int (fun _ _ => rfl)) pe_int) pe_int) (pg_sub (pv 0) pe_int set_list))
      (pss_one (ps_ret (pe_op op_mod (pe_op op_fdivW (pe_op op_mod (pe_op op_mulX (pe_ix ix_list (pv 0) pe_int (fun _ _ => rfl)) (pe_op op_add (pe_op op_fdivW (pe_ix ix_list (pv 0) pe_int (fun _ _ => rfl)) pe_int) pe_int)) pe_int) pe_int) (pv 1)))))), ?_⟩
  rw [st_law_draw]
  try dsimp only [Cx.nox, Cx.wish, Cx.blk, cx_K]
  walk_at "go"
  refine if_2 (fun hx => ?_) (fun hx => ?_)
  · walk_at "go"
    refine r_setL (k0 := 0) hd (by rfl) ?_
    walk_at "go"
    exact k _ _ (Int.emod_nonneg _ (by omega)) (Int.emod_lt_of_pos _ hn) Kp.upd ⟨_, _, upd_same, y0, y1⟩
  · walk_at "go"
    refine r_setL (k0 := 1) hd (by rfl) ?_
    have hd2 : (upd H d (.lst [.int x, .int (y * 69621 % 2147483647)])) d = some (.lst [.int x, .int (y * 69621 % 2147483647)]) := upd_same
    walk_at "go"
    exact k _ _ (Int.emod_nonneg _ (by omega)) (Int.emod_lt_of_pos _ hn) Kp.upd ⟨_, _, upd_same, Int.emod_nonneg _ (by decide), Int.emod_lt_of_pos _ (by decide)⟩

end
/-- a small drawn stair -/
structure StS (a b m : Int) : Prop where
  m0 : 0 < m
  m1 : m ≤ 60
  a0 : -2 * m ≤ a
  a1 : a ≤ 3 * m + 2
  b0 : -100 ≤ b
  b1 : b ≤ 100
theorem StS.zm {a b m : Int} (S : StS a b m) : Sz 200 m := Sz.small (by have := S.m0; have := S.m1; omega)
theorem StS.za {a b m : Int} (S : StS a b m) : Sz 200 a := Sz.small (by have := S.m0; have := S.m1; have := S.a0; have := S.a1; omega)
theorem StS.zb {a b m : Int} (S : StS a b m) : Sz 200 b := Sz.small (by have := S.b0; have := S.b1; omega)
theorem StS.toB {a b m : Int} (S : StS a b m) : StB a b m := ⟨S.m0, by have := S.m1; omega, S.za.mono (by decide), S.zb.mono (by decide)⟩
def sp_law_small_stair (_ : PySem.W.Frag) : Sp := fun vs H Q _ => ∃ (d : Addr), vs = [.ref d] ∧ Dr H d ∧ ∀ p a b m H', StS a b m → H p = none → Kp d H H' → Dr H' d → H' p = some (.tup [.int a, .int b, .int m]) → Q (.ref p) H'
theorem use_law_small_stair {K : PySem.W.Frag} {H : Hp} {Q : VK} {E : XK} {d : Addr} (D : Dr H d) (k : ∀ p a b m H', StS a b m → H p = none → Kp d H H' → Dr H' d → H' p = some (.tup [.int a, .int b, .int m]) → Q (.ref p) H') : sp_law_small_stair K [.ref d] H Q E := ⟨d, rfl, D, k⟩
abbrev s_law_small_stair : Stmt := topS 25
abbrev nm_law_small_stair : List Str := ["draws", "m"]
theorem sc_law_small_stair : FnScope nm_law_small_stair ["draws"] (defScope s_law_small_stair) := ⟨rfl, rfl, rfl, by decide +kernel, rfl, by decide +kernel, by decide +kernel⟩
theorem st_law_small_stair {v0 : V} : start nm_law_small_stair [v0] = [some v0, none] := rfl
section
variable {P : Program} {w : World} {K : PySem.W.Frag} {mg : Str → Option Value} {base : Heap}
theorem ok_law_small_stair (D : DefAt K mg "_law_small_stair" s_law_small_stair ["draws"]) (G__law_draw : Has P w K mg base CX0 2 "_law_draw" ["draws", "many"] (sp_law_draw K)) : Has P w K mg base CX0 3 "_law_small_stair" ["draws"] (sp_law_small_stair K) := by
  refine D.ok sc_law_small_stair (by rintro _ _ _ _ ⟨_, rfl, _⟩; rfl) (fun f cdv A outer s H vs Q E hr h => ?_)
  obtain ⟨d, rfl, D0, k⟩ := h
  refine ⟨_, (pss_cons (ps_set (i := 1) sc_law_small_stair.nd rfl (Or.inl rfl) (pe_op op_add pe_int (pcall G__law_draw (hr.mono (by decide)) (pa_cons (pv 0) (pa_cons (pe_ix ix_list (pe_lst (pa_cons pe_int (pa_cons pe_int pa_nil))) (pcall G__law_draw (hr.mono (by decide)) (pa_cons (pv 0) (pa_cons pe_int pa_nil))) (fun _ _ => rfl)) pa_nil)))))
      (pss_one (ps_ret (pe_tup (pa_cons (pe_op op_sub (pcall G__law_draw (hr.mono (by decide)) (pa_cons (pv 0) (pa_cons (pe_op op_add (pe_op op_mulX pe_int (pv 1)) pe_int) pa_nil))) (pe_op op_mulX pe_int (pv 1))) (pa_cons (pe_op op_sub (pcall G__law_draw (hr.mono (by decide)) (pa_cons (pv 0) (pa_cons pe_int pa_nil))) pe_int) (pa_cons (pv 1) pa_nil))))))), ?_⟩
  rw [st_law_small_stair]
  try dsimp only [Cx.nox, Cx.wish, Cx.blk, cx_K]
  walk_at "go"
  rename_i l H1 nl e1 hl
  refine use_law_draw (D0.up e1) (by decide) (by walk_at "szm") fun v1 H2 a1 b1 k2 D2 => ?_
  walk_at "go"
  obtain ⟨v, hv, hv'⟩ := at_2 (x := .int 9) (y := .int 60) a1 b1
  refine r_ixL (SqL.of (k2 _ _ (D0.free nl) hl)) hv ?_
  obtain ⟨u, rfl, u0, u1⟩ : ∃ u : Int, v = .int u ∧ 0 < u ∧ u ≤ 60 := by
    rcases hv' with rfl | rfl
    · exact ⟨_, rfl, by decide, by decide⟩
    · exact ⟨_, rfl, by decide, by decide⟩
  walk_at "go"
  refine use_law_draw D2 u0 (Sz.mono (n := 200) (Sz.small (by omega)) (by decide)) fun v3 H3 a3 b3 k3 D3 => ?_
  have zm : Sz 200 v3 := Sz.small (by omega)
  walk_at "go"
  refine use_law_draw D3 (by omega) (by walk_at "szm") fun v4 H4 a4 b4 k4 D4 => ?_
  walk_at "go"
  refine use_law_draw D4 (by decide) (by walk_at "szm") fun v5 H5 a5 b5 k5 D5 => ?_
  walk_at "go"
  rename_i p H6 np e6 hp
  have kk : Kp d H H5 := e1.kp.trans (k2.trans (k3.trans (k4.trans k5)))
  exact k _ _ _ _ _ ⟨by omega, by omega, by omega, by omega, by omega, by omega⟩ (free_kp kk D5 np) (kk.trans e6.kp) (D5.up e6) hp

end
/-- the rests of the first places -/
def rts (a b m : Int) (n : Nat) : List Int := (List.range n).map fun (i : Nat) => (a * (i : Int) + b) % m
def sp_law_rests (_ : PySem.W.Frag) : Sp := fun vs H Q _ => ∃ (p : Addr) (a b m n : Int), vs = [.ref p, .int n] ∧ H p = some (.tup [.int a, .int b, .int m]) ∧ 0 < m ∧ Sz 2000 a ∧ Sz 2000 m ∧ 0 ≤ n ∧ n ≤ 50000 ∧ ∀ l H', H l = none → Ex H H' → H' l = some (.lst ((rts a b m n.toNat).map V.int)) → Q (.ref l) H'
theorem use_law_rests {K : PySem.W.Frag} {H : Hp} {Q : VK} {E : XK} {p : Addr} {a b m n : Int} (h : H p = some (.tup [.int a, .int b, .int m])) (hm : 0 < m) (za : Sz 2000 a) (zm : Sz 2000 m) (n0 : 0 ≤ n) (n1 : n ≤ 50000)
    (q : ∀ l H', H l = none → Ex H H' → H' l = some (.lst ((rts a b m n.toNat).map V.int)) → Q (.ref l) H') : sp_law_rests K [.ref p, .int n] H Q E := ⟨p, a, b, m, n, rfl, h, hm, za, zm, n0, n1, q⟩
abbrev s_law_rests : Stmt := topS 26
abbrev nm_law_rests : List Str := ["stair", "n", "a", "b", "m", "place"]
theorem sc_law_rests : FnScope nm_law_rests ["stair", "n"] (defScope s_law_rests) := ⟨rfl, rfl, rfl, by decide +kernel, rfl, by decide +kernel, by decide +kernel⟩
theorem st_law_rests {v0 v1 : V} : start nm_law_rests [v0, v1] = [some v0, some v1, none, none, none, none] := rfl
section
variable {P : Program} {w : World} {K : PySem.W.Frag} {mg : Str → Option Value} {base : Heap}
theorem ok_law_rests (D : DefAt K mg "_law_rests" s_law_rests ["stair", "n"]) (B_range : mg "range" = none) : Has P w K mg base CX0 2 "_law_rests" ["stair", "n"] (sp_law_rests K) := by
  refine D.ok sc_law_rests (by rintro _ _ _ _ ⟨_, _, _, _, _, rfl, _⟩; rfl) (fun f cdv A outer s H vs Q E hr h => ?_)
  obtain ⟨p, a, b, m, n, rfl, hp, hm, za, zm, n0, n1, q⟩ := h
  refine ⟨_, (pss_cons (ps_asg (pv 0) (pg_tup (by rfl) (pgs_cons (pg_name (i := 2) sc_law_rests.nd rfl (Or.inr rfl)) (pgs_cons (pg_name (i := 3) sc_law_rests.nd rfl (Or.inr rfl)) (pgs_cons (pg_name (i := 4) sc_law_rests.nd rfl (Or.inr rfl)) pgs_nil)))))
      (pss_one (ps_ret (pe_lc rfl sc_law_rests.nd (pi_range1 rfl B_range (pa_cons (pv 1) pa_nil)) (blkOk_by (own := [("place", 5)]) (N := nm_law_rests) (sc := defScope s_law_rests) (by decide +kernel)) (fun _ _ _ _ _ => (pg_name (i := 5) sc_law_rests.nd rfl (Or.inl rfl))) (fun _ _ _ _ _ => pts_nil) (fun _ _ _ _ _ => (pe_op op_mod (pe_op op_add (pe_op op_mulX (pv 2) (pv 5)) (pv 3)) (pv 4))))))), ?_⟩
  rw [st_law_rests]
  try dsimp only [Cx.nox, Cx.wish, Cx.blk, cx_K]
  walk_at "go"
  refine r_rng1 (by omega) (by omega) ?_
  refine lc_rngP (fun i => .int ((a * (0 + i) + b) % m)) (by omega) (fun _ => rfl) (fun i hi H1 e1 QE kE => ?_) (fun l H1 nl e1 hl => ?_)
  · have zi : Sz 200 (0 + (i : Int)) := Sz.small (by omega)
    try dsimp only [wipe, List.set_cons_succ, List.set_cons_zero]
    walk_at "go"
    exact kE _ Ex.refl
  · walk_at "go"
    refine q _ _ nl e1 ?_
    rw [hl]
    unfold rts
    rw [List.map_map]
    congr 2
    refine List.map_congr_left fun i _ => ?_
    simp

end
/-! whole parts -/
theorem div_split (a b k : Int) {m : Int} (hm : 0 < m) : (a * k + b) / m = a / m * k + b / m + (a % m * k + b % m) / m := by
  have ea := Int.emod_add_mul_ediv a m
  have eb := Int.emod_add_mul_ediv b m
  have e : a * k + b = (a % m * k + b % m) + m * (a / m * k + b / m) := by
    have h1 : a * k = a % m * k + m * (a / m) * k := by
      rw [← Int.add_mul, ea]
    rw [h1, Int.mul_add, Int.mul_assoc]
    omega
  rw [e, Int.add_mul_ediv_left _ _ (by omega : m ≠ 0)]
  omega
theorem mod_split (a b k : Int) {m : Int} : (a * k + b) % m = (a % m * k + b % m) % m := by
  have ea := Int.emod_add_mul_ediv a m
  have eb := Int.emod_add_mul_ediv b m
  have e : a * k + b = (a % m * k + b % m) + m * (a / m * k + b / m) := by
    have h1 : a * k = a % m * k + m * (a / m) * k := by
      rw [← Int.add_mul, ea]
    rw [h1, Int.mul_add, Int.mul_assoc]
    omega
  rw [e, Int.add_mul_emod_self_left]

--@ needs Div
/-! sums, whole parts of many fractions -/
def sm (f : Nat → Int) : Nat → Int
  | 0 => 0
  | n + 1 => sm f n + f n
theorem sm_congr {f g : Nat → Int} : ∀ {n : Nat}, (∀ i, i < n → f i = g i) → sm f n = sm g n
  | 0, _ => rfl
  | n + 1, h => by
    show sm f n + f n = sm g n + g n
    rw [sm_congr (fun i hi => h i (by omega)), h n (by omega)]
theorem sm_add {f : Nat → Int} (n : Nat) : ∀ k : Nat, sm f (n + k) = sm f n + sm (fun i => f (n + i)) k
  | 0 => by
    show sm f n = sm f n + 0
    omega
  | k + 1 => by
    show sm f (n + k) + f (n + k) = sm f n + (sm (fun i => f (n + i)) k + f (n + k))
    rw [sm_add n k]
    omega
theorem sm_plus {f g : Nat → Int} : ∀ n : Nat, sm (fun i => f i + g i) n = sm f n + sm g n
  | 0 => rfl
  | n + 1 => by
    show sm (fun i => f i + g i) n + (f n + g n) = sm f n + f n + (sm g n + g n)
    rw [sm_plus n]
    omega
theorem sm_mul {f : Nat → Int} (c : Int) : ∀ n : Nat, sm (fun i => c * f i) n = c * sm f n
  | 0 => by show (0 : Int) = c * 0; rw [Int.mul_zero]
  | n + 1 => by
    show sm (fun i => c * f i) n + c * f n = c * (sm f n + f n)
    rw [sm_mul c n, Int.mul_add]
theorem sm_const (c : Int) : ∀ n : Nat, sm (fun _ => c) n = c * n
  | 0 => by show (0 : Int) = c * 0; rw [Int.mul_zero]
  | n + 1 => by
    show sm (fun _ => c) n + c = c * ((n : Int) + 1)
    rw [sm_const c n, Int.mul_add, Int.mul_one]
theorem sm_first {f : Nat → Int} : ∀ n : Nat, sm f (n + 1) = f 0 + sm (fun i => f (i + 1)) n
  | 0 => by
    show 0 + f 0 = f 0 + 0
    omega
  | n + 1 => by
    show sm f (n + 1) + f (n + 1) = f 0 + (sm (fun i => f (i + 1)) n + f (n + 1))
    rw [sm_first n]
    omega
theorem sm_rev {f : Nat → Int} : ∀ n : Nat, sm f n = sm (fun i => f (n - 1 - i)) n
  | 0 => rfl
  | n + 1 => by
    rw [sm_first (f := fun i => f (n + 1 - 1 - i))]
    show sm f n + f n = f (n + 1 - 1 - 0) + sm (fun i => f (n + 1 - 1 - (i + 1))) n
    rw [sm_rev n, sm_congr (g := fun i => f (n + 1 - 1 - (i + 1))) (fun i hi => by
      show f (n - 1 - i) = f (n + 1 - 1 - (i + 1))
      congr 1
      omega)]
    show _ + f n = f n + _
    omega
theorem sm_tri : ∀ n : Nat, 2 * sm (fun i => (i : Int)) n = (n : Int) * (n - 1)
  | 0 => rfl
  | n + 1 => by
    show 2 * (sm (fun i => (i : Int)) n + n) = ((n : Int) + 1) * ((n : Int) + 1 - 1)
    rw [Int.mul_add, sm_tri n, show (n : Int) + 1 - 1 = n by omega, Int.add_mul, Int.mul_sub]
    omega
theorem sm_tri2 (n : Nat) : (n : Int) * (n - 1) / 2 = sm (fun i => (i : Int)) n := by
  rw [← sm_tri n]
  omega
/-- the sum of the whole parts of (a k + b) / m over the first n places -/
@[irreducible] def fs (n : Nat) (a b m : Int) : Int := sm (fun k => (a * k + b) / m) n
theorem fs_zero (a b m : Int) : fs 0 a b m = 0 := by unfold fs; rfl
theorem fs_succ (n : Nat) (a b m : Int) : fs (n + 1) a b m = fs n a b m + (a * n + b) / m := by unfold fs; rfl
theorem fs_split (n : Nat) (a b : Int) {m : Int} (hm : 0 < m) : fs n a b m = a / m * ((n : Int) * (n - 1) / 2) + b / m * n + fs n (a % m) (b % m) m := by
  rw [sm_tri2]
  unfold fs
  rw [sm_congr (g := fun k : Nat => (a / m * (k : Int) + b / m) + (a % m * k + b % m) / m) (fun i _ => div_split a b i hm)]
  rw [sm_plus, sm_plus, sm_mul, sm_const]
theorem ediv_is {x m q : Int} (hm : 0 < m) (h0 : q * m ≤ x) (h1 : x < (q + 1) * m) : x / m = q := by
  have e1 : q ≤ x / m := (Int.le_ediv_iff_mul_le hm).mpr h0
  have e2 : x / m < q + 1 := (Int.ediv_lt_iff_lt_mul hm).mpr h1
  omega
/-- the places below a height -/
@[irreducible] def fsH (n : Int) (s m r : Int) (c : Nat) : Int := sm (fun i => n + (s - m * ((i : Int) + 1)) / r) c
theorem fsH_step (n s m r : Int) (c : Nat) : fsH (n + 1) s m r c = fsH n s m r c + c := by
  unfold fsH
  rw [sm_congr (g := fun i : Nat => (n + (s - m * ((i : Int) + 1)) / r) + 1) (fun i _ => by omega), sm_plus, sm_const]
  omega
/-- the turn: (r k + s) / m over n places, by m and r exchanged -/
theorem fs_turnH (s : Int) {m r : Int} (hr : 0 < r) (s0 : 0 ≤ s) (s1 : s < m) : ∀ n : Nat, fs n r s m = fsH n s m r ((r * n + s) / m).toNat := by
  have hm : 0 < m := by omega
  intro n
  induction n with
  | zero =>
    rw [show r * ((0 : Nat) : Int) + s = s by rw [show ((0 : Nat) : Int) = 0 from rfl, Int.mul_zero]; omega, Int.ediv_eq_zero_of_lt s0 s1]
    unfold fs fsH
    rfl
  | succ n ih =>
    rw [fs_succ, ih]
    generalize hy : (r * (n : Int) + s) / m = y
    generalize hz : (r * ((n + 1 : Nat) : Int) + s) / m = z
    have hn1 : r * ((n + 1 : Nat) : Int) + s = r * n + s + r := by
      rw [show ((n + 1 : Nat) : Int) = (n : Int) + 1 from rfl, Int.mul_add, Int.mul_one]
      omega
    have rn : 0 ≤ r * (n : Int) := Int.mul_nonneg (by omega) (by omega)
    have y0 : 0 ≤ y := by
      rw [← hy]
      exact Int.ediv_nonneg (by omega) (by omega)
    have yz : y ≤ z := by
      rw [← hy, ← hz, hn1]
      exact Int.ediv_le_ediv hm (by omega)
    obtain ⟨Y, hY⟩ : ∃ Y : Nat, y = Y := ⟨y.toNat, by omega⟩
    obtain ⟨D, hD⟩ : ∃ D : Nat, z = Y + D := ⟨(z - y).toNat, by omega⟩
    have eY : y.toNat = Y := by omega
    have eZ : z.toNat = Y + D := by omega
    rw [eY, eZ]
    show fsH n s m r Y + y = fsH (((n : Nat) : Int) + 1) s m r (Y + D)
    have e3 : fsH (((n : Nat) : Int) + 1) s m r (Y + D) = fsH (((n : Nat) : Int) + 1) s m r Y + sm (fun i => ((n : Nat) : Int) + 1 + (s - m * (((Y + i : Nat) : Int) + 1)) / r) D := by
      unfold fsH
      exact sm_add Y D
    rw [e3, fsH_step, sm_congr (g := fun _ => 0) (fun i hi => ?_), sm_const]
    · omega
    · have b1 : m * (((Y + i : Nat) : Int) + 1) ≤ r * n + s + r := by
        have h1 : z * m ≤ r * n + s + r := by
          rw [← hz, hn1]
          exact Int.ediv_mul_le _ (by omega)
        have h2 : (((Y + i : Nat) : Int) + 1) * m ≤ z * m := Int.mul_le_mul_of_nonneg_right (by omega) (by omega)
        rw [Int.mul_comm]
        omega
      have b2 : r * n + s < m * (((Y + i : Nat) : Int) + 1) := by
        have h1 : r * n + s < (y + 1) * m := by
          rw [← hy]
          exact Int.lt_ediv_add_one_mul_self _ hm
        have h2 : (y + 1) * m ≤ (((Y + i : Nat) : Int) + 1) * m := Int.mul_le_mul_of_nonneg_right (by omega) (by omega)
        rw [Int.mul_comm m]
        omega
      have q : (s - m * (((Y + i : Nat) : Int) + 1)) / r = -((n : Int) + 1) := by
        refine ediv_is hr ?_ ?_
        · rw [Int.neg_mul, Int.add_mul, Int.one_mul, Int.mul_comm (n : Int) r]
          omega
        · rw [show -((n : Int) + 1) + 1 = -(n : Int) by omega, Int.neg_mul, Int.mul_comm (n : Int) r]
          omega
      show ((n : Nat) : Int) + 1 + (s - m * (((Y + i : Nat) : Int) + 1)) / r = 0
      rw [q]
      omega
theorem fs_turn (n : Nat) (s : Int) {m r : Int} (hr : 0 ≤ r) (s0 : 0 ≤ s) (s1 : s < m) : fs n r s m = fs ((r * n + s) / m).toNat m ((r * n + s) % m) r := by
  have hm : 0 < m := by omega
  by_cases h : r = 0
  · subst h
    rw [Int.zero_mul, Int.zero_add, Int.ediv_eq_zero_of_lt s0 s1]
    rw [show Int.toNat 0 = 0 from rfl, fs_zero]
    unfold fs
    rw [sm_congr (g := fun _ => 0) (fun i _ => by rw [Int.zero_mul, Int.zero_add, Int.ediv_eq_zero_of_lt s0 s1]), sm_const]
    omega
  · rw [fs_turnH s (by omega) s0 s1 n]
    generalize hy : (r * (n : Int) + s) / m = y
    have rn : 0 ≤ r * (n : Int) := Int.mul_nonneg hr (by omega)
    have y0 : 0 ≤ y := by
      rw [← hy]
      exact Int.ediv_nonneg (by omega) (by omega)
    unfold fsH fs
    rw [sm_rev]
    refine sm_congr fun i hi => ?_
    have e := Int.emod_add_mul_ediv (r * n + s) m
    rw [hy] at e
    have c : (((y.toNat - 1 - i : Nat) : Int) + 1) = y - i := by omega
    show (n : Int) + (s - m * (((y.toNat - 1 - i : Nat) : Int) + 1)) / r = (m * (i : Int) + (r * n + s) % m) / r
    rw [c, show m * (i : Int) + (r * n + s) % m = (s - m * (y - i)) + r * n by rw [Int.mul_sub]; omega, Int.add_mul_ediv_left _ _ h]
    omega
theorem fs_loop (n : Nat) (a b : Int) {m : Int} (hm : 0 < m) :
    fs n a b m = a / m * ((n : Int) * (n - 1) / 2) + b / m * n + fs ((a % m * n + b % m) / m).toNat m ((a % m * n + b % m) % m) (a % m) := by
  rw [fs_split n a b hm, fs_turn n (b % m) (Int.emod_nonneg _ (by omega)) (Int.emod_nonneg _ (by omega)) (Int.emod_lt_of_pos _ hm)]
/-- the law's own turn, from the last place -/
theorem fs_quick (b : Int) {m a : Int} (a0 : 0 ≤ a) (b0 : 0 ≤ b) (b1 : b < m) : ∀ L : Nat, fs (L + 1) a b m = (L : Int) * ((a * L + b) / m) - fs ((a * L + b) / m).toNat m (m - b - 1) a := by
  have hm : 0 < m := by omega
  intro L
  induction L with
  | zero =>
    rw [show a * ((0 : Nat) : Int) + b = b by rw [show ((0 : Nat) : Int) = 0 from rfl, Int.mul_zero]; omega, Int.ediv_eq_zero_of_lt b0 b1, fs_succ]
    rw [show a * ((0 : Nat) : Int) + b = b by rw [show ((0 : Nat) : Int) = 0 from rfl, Int.mul_zero]; omega, Int.ediv_eq_zero_of_lt b0 b1, fs_zero, show Int.toNat 0 = 0 from rfl, fs_zero]
    rfl
  | succ n ih =>
    rw [fs_succ, ih]
    generalize hy : (a * (n : Int) + b) / m = y
    generalize hz : (a * ((n + 1 : Nat) : Int) + b) / m = z
    have hn1 : a * ((n + 1 : Nat) : Int) + b = a * n + b + a := by
      rw [show ((n + 1 : Nat) : Int) = (n : Int) + 1 from rfl, Int.mul_add, Int.mul_one]
      omega
    have rn : 0 ≤ a * (n : Int) := Int.mul_nonneg a0 (by omega)
    have y0 : 0 ≤ y := by
      rw [← hy]
      exact Int.ediv_nonneg (by omega) (by omega)
    have yz : y ≤ z := by
      rw [← hy, ← hz, hn1]
      exact Int.ediv_le_ediv hm (by omega)
    obtain ⟨Y, hY⟩ : ∃ Y : Nat, y = Y := ⟨y.toNat, by omega⟩
    obtain ⟨D, hD⟩ : ∃ D : Nat, z = Y + D := ⟨(z - y).toNat, by omega⟩
    have eY : y.toNat = Y := by omega
    have eZ : z.toNat = Y + D := by omega
    rw [eY, eZ]
    have e3 : fs (Y + D) m (m - b - 1) a = fs Y m (m - b - 1) a + sm (fun i => (m * ((Y + i : Nat) : Int) + (m - b - 1)) / a) D := by
      unfold fs
      exact sm_add Y D
    rw [e3, sm_congr (g := fun _ => (n : Int)) (fun i hi => ?_), sm_const, hD, hY]
    · rw [show ((n + 1 : Nat) : Int) = (n : Int) + 1 from rfl, Int.add_mul, Int.one_mul, Int.mul_add]
      omega
    · have b1' : (((Y + i : Nat) : Int) + 1) * m ≤ a * n + b + a := by
        have h1 : z * m ≤ a * n + b + a := by
          rw [← hz, hn1]
          exact Int.ediv_mul_le _ (by omega)
        have h2 : (((Y + i : Nat) : Int) + 1) * m ≤ z * m := Int.mul_le_mul_of_nonneg_right (by omega) (by omega)
        omega
      have b2 : a * n + b < (((Y + i : Nat) : Int) + 1) * m := by
        have h1 : a * n + b < (y + 1) * m := by
          rw [← hy]
          exact Int.lt_ediv_add_one_mul_self _ hm
        have h2 : (y + 1) * m ≤ (((Y + i : Nat) : Int) + 1) * m := Int.mul_le_mul_of_nonneg_right (by omega) (by omega)
        omega
      have ap : 0 < a := by omega
      show (m * ((Y + i : Nat) : Int) + (m - b - 1)) / a = (n : Int)
      have h3 : (((Y + i : Nat) : Int) + 1) * m = m * ((Y + i : Nat) : Int) + m := by rw [Int.add_mul, Int.one_mul, Int.mul_comm m]
      rw [h3] at b1' b2
      refine ediv_is ap ?_ ?_
      · rw [Int.mul_comm (n : Int) a]
        omega
      · rw [Int.add_mul, Int.one_mul, Int.mul_comm (n : Int) a]
        omega
theorem fs_add (n k : Nat) (a b m : Int) : fs (n + k) a b m = fs n a b m + fs k a (a * n + b) m := by
  unfold fs
  rw [sm_add]
  congr 1
  refine sm_congr fun i _ => ?_
  show (a * ((n + i : Nat) : Int) + b) / m = (a * (i : Int) + (a * (n : Int) + b)) / m
  rw [show ((n + i : Nat) : Int) = (n : Int) + i from rfl, Int.mul_add]
  congr 1
  omega
theorem fs_a (n : Nat) (a b y : Int) {m : Int} (hm : 0 < m) : fs n (a + y * m) b m = fs n a b m + y * ((n : Int) * (n - 1) / 2) := by
  rw [sm_tri2, ← sm_mul]
  unfold fs
  rw [← sm_plus]
  refine sm_congr fun i _ => ?_
  show ((a + y * m) * (i : Int) + b) / m = (a * (i : Int) + b) / m + y * (i : Int)
  rw [show (a + y * m) * (i : Int) + b = (a * i + b) + m * (y * i) by
    rw [Int.add_mul, Int.mul_comm y m, Int.mul_assoc]
    omega, Int.add_mul_ediv_left _ _ (by omega : m ≠ 0)]
theorem fs_b (n : Nat) (a b y : Int) {m : Int} (hm : 0 < m) : fs n a (b + y * m) m = fs n a b m + y * n := by
  rw [← sm_const]
  unfold fs
  rw [← sm_plus]
  refine sm_congr fun i _ => ?_
  show (a * (i : Int) + (b + y * m)) / m = (a * (i : Int) + b) / m + y
  rw [show a * (i : Int) + (b + y * m) = (a * i + b) + m * y by
    rw [Int.mul_comm y m]
    omega, Int.add_mul_ediv_left _ _ (by omega : m ≠ 0)]
theorem fs_rev (n : Nat) (a b m : Int) : fs n (0 - a) (a * (n - 1) + b) m = fs n a b m := by
  unfold fs
  rw [sm_rev]
  refine sm_congr fun i hi => ?_
  show ((0 - a) * ((n - 1 - i : Nat) : Int) + (a * ((n : Int) - 1) + b)) / m = (a * (i : Int) + b) / m
  rw [show ((n - 1 - i : Nat) : Int) = (n : Int) - 1 - i by omega, Int.sub_mul, Int.zero_mul, Int.mul_sub a _ (i : Int)]
  congr 1
  omega

--@ needs Sum
/-! how often -/
/-- how many of the first places are within bounds -/
@[irreducible] def cn (n : Nat) (a b m low high : Int) : Int := fs n a (b - low) m - fs n a (b - high) m
theorem cn_all (n : Nat) (a b : Int) {m : Int} (hm : 0 < m) : cn n a b m 0 m = n := by
  unfold cn
  have h := fs_b n a (b - m) 1 hm
  rw [show b - m + 1 * m = b - 0 by omega] at h
  omega
theorem cn_add (n k : Nat) (a b m low high : Int) : cn (n + k) a b m low high = cn n a b m low high + cn k a (a * n + b) m low high := by
  unfold cn
  rw [fs_add, fs_add]
  rw [show a * (n : Int) + (b - low) = a * n + b - low by omega, show a * (n : Int) + (b - high) = a * n + b - high by omega]
  omega
theorem cn_turn (n : Nat) (a b low high : Int) {m : Int} (hm : 0 < m) : cn n (0 - a) (m - 1 - b) m (m - high) (m - low) = cn n a b m low high := by
  have key : ∀ c : Int, fs n (0 - a) (m - 1 - b - (m - c)) m = - fs n a (b - c) m - n := by
    intro c
    unfold fs
    have e : ∀ i : Nat, i < n → ((0 - a) * (i : Int) + (m - 1 - b - (m - c))) / m = (-1) * ((a * (i : Int) + (b - c)) / m) + (-1) := by
      intro i _
      have h := Int.emod_add_mul_ediv (a * (i : Int) + (b - c)) m
      have r0 := Int.emod_nonneg (a * (i : Int) + (b - c)) (show m ≠ 0 by omega)
      have r1 := Int.emod_lt_of_pos (a * (i : Int) + (b - c)) hm
      refine ediv_is hm ?_ ?_
      · grind
      · grind
    rw [sm_congr e, sm_plus, sm_mul, sm_const]
    omega
  unfold cn
  rw [key high, key low]
  omega

--@ needs Div
/-! common divisors -/
theorem gcd_step (x y : Nat) : Nat.gcd y (x % y) = Nat.gcd x y := by
  rw [Nat.gcd_comm x y, Nat.gcd_rec y x, Nat.gcd_comm]
/-- the stair made least -/
def lsA (a m : Int) : Int := a / (Int.gcd a m : Int)
def lsM (a m : Int) : Int := m / (Int.gcd a m : Int)
def lsB (a b m : Int) : Int := b / (Int.gcd a m : Int)
theorem gcd_pos {a m : Int} (hm : 0 < m) : 0 < (Int.gcd a m : Int) := by
  have : 0 < Int.gcd a m := Int.gcd_pos_of_ne_zero_right a (by omega)
  omega
theorem lsA_mul (a m : Int) : lsA a m * (Int.gcd a m : Int) = a := Int.ediv_mul_cancel (Int.gcd_dvd_left a m)
theorem lsM_mul (a m : Int) : lsM a m * (Int.gcd a m : Int) = m := Int.ediv_mul_cancel (Int.gcd_dvd_right a m)
theorem lsM_pos {a m : Int} (hm : 0 < m) : 0 < lsM a m := by
  have h := lsM_mul a m
  have g := gcd_pos (a := a) hm
  refine Int.pos_of_mul_pos_left (b := (Int.gcd a m : Int)) ?_ g
  omega
theorem ls_height (a b k : Int) {m : Int} (hm : 0 < m) : (lsA a m * k + lsB a b m) / lsM a m = (a * k + b) / m := by
  have g := gcd_pos (a := a) hm
  have ha := lsA_mul a m
  have hM := lsM_mul a m
  generalize lsA a m = A at *
  generalize lsM a m = M at *
  unfold lsB
  generalize (Int.gcd a m : Int) = G at *
  subst ha
  subst hM
  rw [Int.mul_comm M G, ← Int.ediv_ediv_of_nonneg (by omega), show A * G * k + b = b + G * (A * k) by rw [Int.mul_comm A G, Int.mul_assoc]; omega, Int.add_mul_ediv_left _ _ (by omega : G ≠ 0), Int.add_comm]
theorem ls_cop {a m : Int} (hm : 0 < m) : Int.gcd (lsA a m) (lsM a m) = 1 := by
  have g := gcd_pos (a := a) hm
  unfold lsA lsM
  exact Int.gcd_ediv_gcd_ediv_gcd (by omega)
/-- only 1 divides both: no lesser place is a period -/
theorem cop_no {a m k : Int} (h : Int.gcd a m = 1) (k0 : 0 < k) (k1 : k < m) : a * k % m ≠ 0 := by
  intro z
  have d : m ∣ a * k := Int.dvd_of_emod_eq_zero z
  have d2 : m ∣ k := by
    have d3 := Int.dvd_gcd_mul_iff_dvd_mul.mpr d
    rw [Int.gcd_comm, h] at d3
    rw [show ((1 : Nat) : Int) * k = k by omega] at d3
    exact d3
  have := Int.le_of_dvd k0 d2
  omega

--@ needs Often Gcd
/-! first hits -/
def Wn (a m lo hi k : Int) : Prop := lo ≤ a * k % m ∧ a * k % m ≤ hi
/-- the first one, or none -/
def FR (a m lo hi : Int) : Option Int → Prop
  | none => ∀ k : Int, 0 ≤ k → ¬ Wn a m lo hi k
  | some k => 0 ≤ k ∧ Wn a m lo hi k ∧ ∀ j : Int, 0 ≤ j → j < k → ¬ Wn a m lo hi j
/-- a quotient, rounded up -/
def cup (t b : Int) : Int := 0 - (0 - t) / b
theorem cup_up {t b : Int} (hb : 0 < b) : t ≤ cup t b * b ∧ (cup t b - 1) * b < t := by
  have e := Int.emod_add_mul_ediv (0 - t) b
  have r0 := Int.emod_nonneg (0 - t) (show b ≠ 0 by omega)
  have r1 := Int.emod_lt_of_pos (0 - t) hb
  unfold cup
  generalize (0 - t) / b = q at *
  constructor
  · grind
  · grind
theorem cup_le {t b k : Int} (hb : 0 < b) (h : t ≤ b * k) : cup t b ≤ k := by
  obtain ⟨_, h2⟩ := cup_up (t := t) hb
  have h3 : (cup t b - 1) * b < k * b := by rw [Int.mul_comm k]; omega
  have := Int.lt_of_mul_lt_mul_right h3 (by omega)
  omega
theorem Wn_mod (a m lo hi k : Int) : Wn (a % m) m lo hi k ↔ Wn a m lo hi k := by
  unfold Wn
  rw [Int.mul_emod, Int.emod_emod_of_dvd _ (Int.dvd_refl m), ← Int.mul_emod]
theorem FR_mod {a m lo hi : Int} {v : Option Int} (h : FR (a % m) m lo hi v) : FR a m lo hi v := by
  cases v with
  | none => exact fun k k0 w => h k k0 ((Wn_mod ..).mpr w)
  | some k => exact ⟨h.1, (Wn_mod ..).mp h.2.1, fun j j0 jk w => h.2.2 j j0 jk ((Wn_mod ..).mpr w)⟩
theorem FR_0 {a m hi : Int} (h : 0 ≤ hi) : FR a m 0 hi (some 0) := by
  refine ⟨by omega, ?_, fun j _ _ => by omega⟩
  unfold Wn
  rw [Int.mul_zero, Int.zero_emod]
  omega
theorem FR_no {m lo hi : Int} (h : 0 < lo) : FR 0 m lo hi none := by
  intro k _ w
  unfold Wn at w
  rw [Int.zero_mul, Int.zero_emod] at w
  omega
theorem FR_one {a m lo hi : Int} (ha : 0 < a) (hl : 0 < lo) (hm : hi < m) (h : cup lo a * a ≤ hi) : FR a m lo hi (some (cup lo a)) := by
  obtain ⟨h1, h2⟩ := cup_up (t := lo) ha
  have k0 : 0 < cup lo a := by
    have h3 : 0 * a < cup lo a * a := by omega
    exact Int.lt_of_mul_lt_mul_right h3 (by omega)
  refine ⟨by omega, ?_, fun j j0 jk w => ?_⟩
  · unfold Wn
    rw [Int.mul_comm a, Int.emod_eq_of_lt (by omega) (by omega)]
    omega
  · have h3 : j * a ≤ (cup lo a - 1) * a := Int.mul_le_mul_of_nonneg_right (by omega) (by omega)
    have h4 : 0 ≤ j * a := Int.mul_nonneg j0 (by omega)
    unfold Wn at w
    rw [Int.mul_comm a, Int.emod_eq_of_lt (by omega) (by omega)] at w
    omega
theorem Wn_line {a m lo hi k : Int} (hm : 0 < m) (hl : 0 < lo) (hh : hi < m) : Wn a m lo hi k ↔ ∃ y, lo + m * y ≤ a * k ∧ a * k ≤ hi + m * y := by
  have e := Int.emod_add_mul_ediv (a * k) m
  constructor
  · intro w
    unfold Wn at w
    exact ⟨a * k / m, by omega, by omega⟩
  · rintro ⟨y, h1, h2⟩
    have d : a * k / m = y := ediv_is hm (by rw [Int.mul_comm]; omega) (by rw [Int.add_mul, Int.mul_comm y]; omega)
    unfold Wn
    rw [d] at e
    omega
theorem Wn_turn {a m lo hi y : Int} (ha : 0 < a) (hlh : lo ≤ hi) (h : hi < cup lo a * a) : Wn m a ((0 - hi) % a) ((0 - lo) % a) y ↔ ∃ k, lo + m * y ≤ a * k ∧ a * k ≤ hi + m * y := by
  obtain ⟨h1, h2⟩ := cup_up (t := lo) ha
  have u : (0 - hi) % a = cup lo a * a - hi := by
    have d : (0 - hi) / a = 0 - cup lo a := ediv_is ha (by grind) (by grind)
    have e := Int.emod_add_mul_ediv (0 - hi) a
    rw [d] at e
    grind
  have w : (0 - lo) % a = cup lo a * a - lo := by
    have d : (0 - lo) / a = 0 - cup lo a := ediv_is ha (by grind) (by grind)
    have e := Int.emod_add_mul_ediv (0 - lo) a
    rw [d] at e
    grind
  rw [u, w]
  have e := Int.emod_add_mul_ediv (m * y) a
  generalize cup lo a = c at *
  unfold Wn
  constructor
  · rintro ⟨g1, g2⟩
    exact ⟨m * y / a + c, by grind, by grind⟩
  · rintro ⟨k, g1, g2⟩
    have d : m * y / a = k - c := ediv_is ha (by grind) (by grind)
    rw [d] at e
    constructor <;> grind
/-- the turn -/
theorem FR_turn {a m lo hi : Int} {v : Option Int} (ha : 0 < a) (hm : 0 < m) (hl : 0 < lo) (hlh : lo ≤ hi) (hh : hi < m) (h : hi < cup lo a * a) (f : FR m a ((0 - hi) % a) ((0 - lo) % a) v) : FR a m lo hi (v.map fun y => cup (lo + m * y) a) := by
  have line : ∀ k : Int, 0 ≤ k → Wn a m lo hi k → ∃ y, 0 ≤ y ∧ Wn m a ((0 - hi) % a) ((0 - lo) % a) y ∧ lo + m * y ≤ a * k := by
    intro k k0 w
    obtain ⟨y, h1, h2⟩ := (Wn_line hm hl hh).mp w
    refine ⟨y, ?_, (Wn_turn ha hlh h).mpr ⟨k, h1, h2⟩, h1⟩
    have h3 : 0 ≤ a * k := Int.mul_nonneg (by omega) k0
    have h4 : m * (-1) < m * y := by omega
    have := Int.lt_of_mul_lt_mul_left h4 (by omega)
    omega
  cases v with
  | none =>
    intro k k0 w
    obtain ⟨y, y0, hy, _⟩ := line k k0 w
    exact f y y0 hy
  | some y =>
    obtain ⟨y0, wy, least⟩ := f
    obtain ⟨k', g1, g2⟩ := (Wn_turn ha hlh h).mp wy
    obtain ⟨c1, c2⟩ := cup_up (t := lo + m * y) ha
    have ck := cup_le ha g1
    have c3 : a * cup (lo + m * y) a ≤ a * k' := Int.mul_le_mul_of_nonneg_left ck (by omega)
    have c4 : lo + m * y ≤ a * cup (lo + m * y) a := by rw [Int.mul_comm a]; exact c1
    have my : 0 ≤ m * y := Int.mul_nonneg (by omega) y0
    refine ⟨?_, (Wn_line hm hl hh).mpr ⟨y, c4, show a * cup (lo + m * y) a ≤ hi + m * y by omega⟩, fun j j0 jk w => ?_⟩
    · show 0 ≤ cup (lo + m * y) a
      have h3 : a * 0 < a * cup (lo + m * y) a := by omega
      have := Int.lt_of_mul_lt_mul_left h3 (by omega)
      omega
    · have jk : j < cup (lo + m * y) a := jk
      obtain ⟨y', y0', hy', l'⟩ := line j j0 w
      have : y ≤ y' := by
        by_cases z : y ≤ y'
        · exact z
        · exact (least y' y0' (by omega) hy').elim
      have h5 : m * y ≤ m * y' := Int.mul_le_mul_of_nonneg_left this (by omega)
      have := cup_le (t := lo + m * y) (b := a) (k := j) ha (by omega)
      omega
/-- how many turns there may be -/
def fb : Nat → Nat
  | 0 => 0
  | 1 => 1
  | n + 2 => fb (n + 1) + fb n
def Trn (j : Nat) (a m : Int) : Prop := m < fb (j + 1) ∨ a % m < fb j
theorem Trn_0 {a m : Int} (hm : 0 < m) : ¬ Trn 0 a m := by
  rintro (h | h)
  · have : m < 1 := h
    omega
  · have : a % m < 0 := h
    have := Int.emod_nonneg a (show m ≠ 0 by omega)
    omega
theorem Trn_next {j : Nat} {a m : Int} (hm : 0 < m) (h : Trn (j + 1) a m) (h0 : a % m ≠ 0) : Trn j m (a % m) := by
  have r0 := Int.emod_nonneg a (show m ≠ 0 by omega)
  have r1 := Int.emod_lt_of_pos a hm
  by_cases z : a % m < fb (j + 1)
  · exact .inl z
  · right
    rcases h with h | h
    · have h : m < ((fb (j + 1) + fb j : Nat) : Int) := h
      have e := Int.emod_add_mul_ediv m (a % m)
      have q : 1 ≤ m / (a % m) := (Int.le_ediv_iff_mul_le (by omega)).mpr (by omega)
      have h1 : a % m * 1 ≤ a % m * (m / (a % m)) := Int.mul_le_mul_of_nonneg_left q (by omega)
      omega
    · exact (z h).elim
theorem FR_lt {a m lo hi k : Int} (hm : 0 < m) (h : FR a m lo hi (some k)) : k < m := by
  obtain ⟨k0, w, l⟩ := h
  by_cases z : k < m
  · exact z
  · refine (l (k - m) (by omega) (by omega) ?_).elim
    unfold Wn at w ⊢
    rw [show a * (k - m) = a * k + m * (-a) by grind, Int.add_mul_emod_self_left]
    exact w
theorem turn_bounds {a lo hi : Int} (ha : 0 < a) (hl : 0 < lo) (hlh : lo ≤ hi) (h : hi < cup lo a * a) : (0 - hi) % a ≤ (0 - lo) % a := by
  obtain ⟨h1, h2⟩ := cup_up (t := lo) ha
  have d1 : (0 - hi) / a = 0 - cup lo a := ediv_is ha (by grind) (by grind)
  have d2 : (0 - lo) / a = 0 - cup lo a := ediv_is ha (by grind) (by grind)
  have e1 := Int.emod_add_mul_ediv (0 - hi) a
  have e2 := Int.emod_add_mul_ediv (0 - lo) a
  rw [d1] at e1
  rw [d2] at e2
  omega
theorem cup_b {lo a : Int} (ha : 0 < a) (hl : 0 < lo) : 0 < cup lo a ∧ cup lo a ≤ lo := by
  obtain ⟨h1, h2⟩ := cup_up (t := lo) ha
  constructor
  · have h3 : 0 * a < cup lo a * a := by omega
    exact Int.lt_of_mul_lt_mul_right h3 (by omega)
  · refine cup_le ha ?_
    have : 1 * lo ≤ a * lo := Int.mul_le_mul_of_nonneg_right (by omega) (by omega)
    omega
/-- a hit of bounds -/
def Ht (a b m lo hi k : Int) : Prop := lo ≤ (a * k + b) % m ∧ (a * k + b) % m < hi
def FH (a b m lo hi : Int) : Option Int → Prop
  | none => ∀ k : Int, 0 ≤ k → ¬ Ht a b m lo hi k
  | some k => 0 ≤ k ∧ Ht a b m lo hi k ∧ ∀ j : Int, 0 ≤ j → j < k → ¬ Ht a b m lo hi j
theorem FH_same (a b m lo : Int) : FH a b m lo lo none := by
  intro k _ w
  unfold Ht at w
  omega
theorem FH_0 {a b m lo hi : Int} (h : lo ≤ b % m) (h2 : b % m < hi) : FH a b m lo hi (some 0) := by
  refine ⟨by omega, ?_, fun j _ _ => by omega⟩
  unfold Ht
  rw [Int.mul_zero, Int.zero_add]
  exact ⟨h, h2⟩
theorem sub_mod' (x b m : Int) : (x - b) % m = (x - b % m) % m := by
  have e := Int.emod_add_mul_ediv b m
  rw [show x - b = x - b % m + m * (-(b / m)) by grind, Int.add_mul_emod_self_left]
theorem rest_bounds {b m lo hi : Int} (hm : 0 < m) (l0 : 0 ≤ lo) (lh : lo < hi) (hh : hi ≤ m) (h : ¬ (lo ≤ b % m ∧ b % m < hi)) : 0 < (lo - b) % m ∧ (lo - b) % m ≤ (hi - 1 - b) % m ∧ (hi - 1 - b) % m < m := by
  have s0 := Int.emod_nonneg b (show m ≠ 0 by omega)
  have s1 := Int.emod_lt_of_pos b hm
  rw [sub_mod' lo, sub_mod' (hi - 1)]
  generalize b % m = s at *
  by_cases z : s < lo
  · rw [Int.emod_eq_of_lt (by omega) (by omega), Int.emod_eq_of_lt (by omega) (by omega)]
    omega
  · rw [← Int.add_emod_right, ← Int.add_emod_right (hi - 1 - s), Int.emod_eq_of_lt (by omega) (by omega), Int.emod_eq_of_lt (by omega) (by omega)]
    omega
theorem Ht_iff {a b m lo hi k : Int} (hm : 0 < m) (l0 : 0 ≤ lo) (lh : lo < hi) (hh : hi ≤ m) (h : ¬ (lo ≤ b % m ∧ b % m < hi)) : Ht a b m lo hi k ↔ Wn a m ((lo - b) % m) ((hi - 1 - b) % m) k := by
  have s0 := Int.emod_nonneg b (show m ≠ 0 by omega)
  have s1 := Int.emod_lt_of_pos b hm
  have r0 := Int.emod_nonneg (a * k) (show m ≠ 0 by omega)
  have r1 := Int.emod_lt_of_pos (a * k) hm
  unfold Ht Wn
  rw [sub_mod' lo, sub_mod' (hi - 1), Int.add_emod (a * k) b]
  generalize b % m = s at *
  generalize a * k % m = r at *
  by_cases z : s < lo
  · rw [Int.emod_eq_of_lt (a := lo - s) (by omega) (by omega), Int.emod_eq_of_lt (a := hi - 1 - s) (by omega) (by omega)]
    by_cases y : r + s < m
    · rw [Int.emod_eq_of_lt (by omega) y]
      omega
    · rw [show r + s = r + s - m + m by omega, Int.add_emod_right, Int.emod_eq_of_lt (by omega) (by omega)]
      omega
  · rw [← Int.add_emod_right (lo - s), ← Int.add_emod_right (hi - 1 - s), Int.emod_eq_of_lt (a := lo - s + m) (by omega) (by omega), Int.emod_eq_of_lt (a := hi - 1 - s + m) (by omega) (by omega)]
    by_cases y : r + s < m
    · rw [Int.emod_eq_of_lt (by omega) y]
      omega
    · rw [show r + s = r + s - m + m by omega, Int.add_emod_right, Int.emod_eq_of_lt (by omega) (by omega)]
      omega
theorem FH_of {a b m lo hi : Int} {v : Option Int} (hm : 0 < m) (l0 : 0 ≤ lo) (lh : lo < hi) (hh : hi ≤ m) (h : ¬ (lo ≤ b % m ∧ b % m < hi)) (f : FR a m ((lo - b) % m) ((hi - 1 - b) % m) v) : FH a b m lo hi v := by
  cases v with
  | none => exact fun k k0 w => f k k0 ((Ht_iff hm l0 lh hh h).mp w)
  | some k => exact ⟨f.1, (Ht_iff hm l0 lh hh h).mpr f.2.1, fun j j0 jk w => f.2.2 j j0 jk ((Ht_iff hm l0 lh hh h).mp w)⟩
theorem Ht_period {a b m lo hi k c : Int} : Ht a b m lo hi (k + m * c) ↔ Ht a b m lo hi k := by
  unfold Ht
  rw [show a * (k + m * c) + b = a * k + b + m * (a * c) by grind, Int.add_mul_emod_self_left]
theorem FH_lt {a b m lo hi k : Int} (hm : 0 < m) (h : FH a b m lo hi (some k)) : k < m := by
  obtain ⟨k0, w, l⟩ := h
  by_cases z : k < m
  · exact z
  · refine (l (k - m) (by omega) (by omega) ?_).elim
    have := (Ht_period (a := a) (b := b) (m := m) (lo := lo) (hi := hi) (k := k - m) (c := 1)).mp (by
      rw [show k - m + m * 1 = k by omega]
      exact w)
    exact this
theorem cn_shift (k : Nat) (a b c lo hi : Int) {m : Int} (hm : 0 < m) : cn k a (b + c * m) m lo hi = cn k a b m lo hi := by
  unfold cn
  rw [show b + c * m - lo = b - lo + c * m by omega, show b + c * m - hi = b - hi + c * m by omega, fs_b k a (b - lo) c hm, fs_b k a (b - hi) c hm]
  omega
theorem cn_zero (a b m lo hi : Int) : cn 0 a b m lo hi = 0 := by
  unfold cn
  rw [fs_zero, fs_zero]
  rfl
theorem cn_per {P : Nat} {a b c lo hi m : Int} (hm : 0 < m) (h : a * P = c * m) : ∀ (q r : Nat), cn (q * P + r) a b m lo hi = q * cn P a b m lo hi + cn r a b m lo hi
  | 0, r => by
    rw [Nat.zero_mul, Nat.zero_add]
    omega
  | q + 1, r => by
    rw [show (q + 1) * P + r = P + (q * P + r) by rw [Nat.add_mul]; omega, cn_add, h, Int.add_comm (c * m) b, cn_shift _ _ _ _ _ _ hm, cn_per hm h q r, Int.natCast_add, Int.add_mul]
    omega
theorem cn_step (n : Nat) {a b lo hi m : Int} (hm : 0 < m) (l0 : 0 ≤ lo) (lh : lo ≤ hi) (hh : hi ≤ m) : (Ht a b m lo hi n → cn (n + 1) a b m lo hi = cn n a b m lo hi + 1) ∧ (¬ Ht a b m lo hi n → cn (n + 1) a b m lo hi = cn n a b m lo hi) := by
  have e := Int.emod_add_mul_ediv (a * (n : Int) + b) m
  have r0 := Int.emod_nonneg (a * (n : Int) + b) (show m ≠ 0 by omega)
  have r1 := Int.emod_lt_of_pos (a * (n : Int) + b) hm
  have d : ∀ c : Int, 0 ≤ c → c ≤ m → (a * (n : Int) + (b - c)) / m = (a * (n : Int) + b) / m - (if (a * (n : Int) + b) % m < c then 1 else 0) := by
    intro c c0 c1
    split
    · exact ediv_is hm (by grind) (by grind)
    · exact ediv_is hm (by grind) (by grind)
  unfold cn Ht
  rw [fs_succ, fs_succ, d lo l0 (by omega), d hi (by omega) hh]
  constructor
  · rintro ⟨g1, g2⟩
    rw [if_neg (by omega), if_pos g2]
    omega
  · intro g
    by_cases z : (a * (n : Int) + b) % m < lo
    · rw [if_pos z, if_pos (by omega)]
      omega
    · rw [if_neg z, if_neg (by omega)]
      omega
theorem cn_none {a b lo hi m : Int} (hm : 0 < m) (l0 : 0 ≤ lo) (lh : lo ≤ hi) (hh : hi ≤ m) : ∀ n : Nat, (∀ k : Int, 0 ≤ k → k < n → ¬ Ht a b m lo hi k) → cn n a b m lo hi = 0
  | 0, _ => cn_zero ..
  | n + 1, h => by
    rw [(cn_step n hm l0 lh hh).2 (h n (by omega) (by omega))]
    exact cn_none hm l0 lh hh n fun k k0 k1 => h k k0 (by omega)
theorem cn_mono {a b lo hi m : Int} (hm : 0 < m) (l0 : 0 ≤ lo) (lh : lo ≤ hi) (hh : hi ≤ m) (n : Nat) : ∀ k : Nat, cn n a b m lo hi ≤ cn (n + k) a b m lo hi
  | 0 => Int.le_refl _
  | k + 1 => by
    have := cn_mono (a := a) (b := b) hm l0 lh hh n k
    by_cases z : Ht a b m lo hi ((n + k : Nat) : Int)
    · have := (cn_step (n + k) hm l0 lh hh).1 z
      rw [show n + (k + 1) = n + k + 1 by omega]
      omega
    · have := (cn_step (n + k) hm l0 lh hh).2 z
      rw [show n + (k + 1) = n + k + 1 by omega]
      omega
theorem cn_some {a b lo hi m k : Int} (hm : 0 < m) (l0 : 0 ≤ lo) (lh : lo ≤ hi) (hh : hi ≤ m) (k0 : 0 ≤ k) (w : Ht a b m lo hi k) {n : Nat} (h : k < n) : 0 < cn n a b m lo hi := by
  obtain ⟨K, rfl⟩ : ∃ K : Nat, k = K := ⟨k.toNat, by omega⟩
  have h1 := (cn_step K hm l0 lh hh).1 w
  have h2 := cn_mono (a := a) (b := b) hm l0 lh hh 0 K
  have h3 := cn_mono (a := a) (b := b) hm l0 lh hh (K + 1) (n - (K + 1))
  rw [show K + 1 + (n - (K + 1)) = n by omega] at h3
  rw [cn_zero, Nat.zero_add] at h2
  omega
/-- a period -/
theorem per_eq (a : Int) {m : Int} (hm : 0 < m) : a * (lsM a m) = lsA a m * m := by
  have h1 := lsA_mul a m
  have h2 := lsM_mul a m
  generalize lsA a m = A at *
  generalize lsM a m = M at *
  generalize (Int.gcd a m : Int) = g at *
  subst h1
  subst h2
  grind
theorem Ht_per {a b m lo hi k q : Int} (hm : 0 < m) : Ht a b m lo hi (q * lsM a m + k) ↔ Ht a b m lo hi k := by
  unfold Ht
  have h := per_eq a hm
  rw [show a * (q * lsM a m + k) + b = a * k + b + m * (q * lsA a m) by
    rw [Int.mul_add, show a * (q * lsM a m) = q * (a * lsM a m) by grind, h]
    grind, Int.add_mul_emod_self_left]
/-- the hit by its number -/
theorem hit_at {a b m lo hi n less : Int} (hm : 0 < m) (l0 : 0 ≤ lo) (lh : lo ≤ hi) (hh : hi ≤ m) (n0 : 0 ≤ n) (b0 : 0 ≤ less) (e0 : 0 < cn (lsM a m).toNat a b m lo hi)
    (h1 : cn less.toNat a b m lo hi ≤ n % cn (lsM a m).toNat a b m lo hi) (h2 : n % cn (lsM a m).toNat a b m lo hi < cn (less.toNat + 1) a b m lo hi) :
    0 ≤ n / cn (lsM a m).toNat a b m lo hi * lsM a m + less ∧ Ht a b m lo hi (n / cn (lsM a m).toNat a b m lo hi * lsM a m + less) ∧ cn (n / cn (lsM a m).toNat a b m lo hi * lsM a m + less).toNat a b m lo hi = n := by
  have M0 := lsM_pos (a := a) hm
  have pe := per_eq a hm
  have hp := cn_per (P := (lsM a m).toNat) (a := a) (b := b) (c := lsA a m) (lo := lo) (hi := hi) hm (by rw [show (((lsM a m).toNat : Nat) : Int) = lsM a m by omega]; exact pe)
  have hi1 : Ht a b m lo hi less := by
    by_cases z : Ht a b m lo hi ((less.toNat : Nat) : Int)
    · rw [show ((less.toNat : Nat) : Int) = less by omega] at z
      exact z
    · have := (cn_step less.toNat hm l0 lh hh).2 z
      omega
  have ez := (cn_step (a := a) (b := b) less.toNat hm l0 lh hh).1 (by rw [show ((less.toNat : Nat) : Int) = less by omega]; exact hi1)
  have ed := Int.emod_add_mul_ediv n (cn (lsM a m).toNat a b m lo hi)
  have q0 : 0 ≤ n / cn (lsM a m).toNat a b m lo hi := Int.ediv_nonneg n0 (by omega)
  generalize hE : cn (lsM a m).toNat a b m lo hi = E at *
  generalize n / E = q at *
  have qp : 0 ≤ q * lsM a m := Int.mul_nonneg q0 (by omega)
  refine ⟨by omega, (Ht_per hm).mpr hi1, ?_⟩
  have h3 := hp q.toNat less.toNat
  have e4 : (q * lsM a m + less).toNat = q.toNat * (lsM a m).toNat + less.toNat := by
    have : ((q.toNat * (lsM a m).toNat : Nat) : Int) = q * lsM a m := by
      rw [Int.natCast_mul, show ((q.toNat : Nat) : Int) = q by omega, show (((lsM a m).toNat : Nat) : Int) = lsM a m by omega]
    omega
  rw [e4, h3, show ((q.toNat : Nat) : Int) = q by omega]
  rw [Int.mul_comm E q] at ed
  omega
theorem cn_m {a b m lo hi : Int} (hm : 0 < m) (e : cn (lsM a m).toNat a b m lo hi = 0) : cn m.toNat a b m lo hi = 0 := by
  have M0 := lsM_pos (a := a) hm
  have pe := per_eq a hm
  have hp := cn_per (P := (lsM a m).toNat) (a := a) (b := b) (c := lsA a m) (lo := lo) (hi := hi) hm (by rw [show (((lsM a m).toNat : Nat) : Int) = lsM a m by omega]; exact pe) (Int.gcd a m) 0
  rw [e, cn_zero, Nat.add_zero, Int.mul_zero, Int.add_zero] at hp
  have h2 := lsM_mul a m
  rw [show m.toNat = Int.gcd a m * (lsM a m).toNat by
    have : ((Int.gcd a m * (lsM a m).toNat : Nat) : Int) = lsM a m * (Int.gcd a m : Int) := by
      rw [Int.natCast_mul, show (((lsM a m).toNat : Nat) : Int) = lsM a m by omega, Int.mul_comm]
    omega]
  exact hp
theorem cn_le {a b lo hi m : Int} (hm : 0 < m) (l0 : 0 ≤ lo) (lh : lo ≤ hi) (hh : hi ≤ m) : ∀ n : Nat, cn n a b m lo hi ≤ n
  | 0 => by
    rw [cn_zero]
    omega
  | n + 1 => by
    have := cn_le (a := a) (b := b) hm l0 lh hh n
    by_cases z : Ht a b m lo hi n
    · have := (cn_step n hm l0 lh hh).1 z
      omega
    · have := (cn_step n hm l0 lh hh).2 z
      omega
theorem FH_all {a b m lo hi : Int} (hm : 0 < m) (f : FH a b m lo hi none) (k : Int) : ¬ Ht a b m lo hi k := by
  intro w
  refine f (k + m * (k.natAbs : Int)) ?_ (Ht_period.mpr w)
  have h1 : 1 * (k.natAbs : Int) ≤ m * (k.natAbs : Int) := Int.mul_le_mul_of_nonneg_right (by omega) (by omega)
  omega
theorem Ht_move {a b m lo hi j p : Int} : Ht a (a * p + b) m lo hi j ↔ Ht a b m lo hi (p + j) := by
  unfold Ht
  rw [show a * j + (a * p + b) = a * (p + j) + b by grind]
theorem FH_cn0 {a b m lo hi k : Int} (hm : 0 < m) (l0 : 0 ≤ lo) (lh : lo ≤ hi) (hh : hi ≤ m) (f : FH a b m lo hi (some k)) : cn k.toNat a b m lo hi = 0 :=
  cn_none hm l0 lh hh _ fun j j0 jk => f.2.2 j j0 (by have := f.1; omega)

--@ needs Hit
/-! lows -/
def rst (a b m k : Int) : Int := (a * k + b) % m
theorem rst_b (a b k : Int) {m : Int} (hm : 0 < m) : 0 ≤ rst a b m k ∧ rst a b m k < m :=
  ⟨Int.emod_nonneg _ (by omega), Int.emod_lt_of_pos _ hm⟩
/-- so many places on the rest is less by so much, where it is not less than that -/
theorem rst_on {a b m on down k : Int} (hm : 0 < m) (h : ∃ c, a * on = m * c - down) (g : down ≤ rst a b m k) (d0 : 0 ≤ down) : rst a b m (k + on) = rst a b m k - down := by
  obtain ⟨c, h⟩ := h
  have e := Int.emod_add_mul_ediv (a * k + b) m
  have r1 := Int.emod_lt_of_pos (a * k + b) hm
  unfold rst at g ⊢
  rw [show a * (k + on) + b = ((a * k + b) % m - down) + m * ((a * k + b) / m + c) by
    rw [Int.mul_add, h]
    grind, Int.add_mul_emod_self_left, Int.emod_eq_of_lt (by omega) (by omega)]
/-- a run: its steps, and that no place ahead of a step is so low -/
def Run (a b m place low on down times : Int) : Prop := 1 ≤ on ∧ 1 ≤ down ∧ 1 ≤ times ∧ down * times ≤ low ∧ rst a b m place = low ∧
  ∀ s : Nat, 1 ≤ s → (s : Int) ≤ times → rst a b m (place + on * s) = low - down * s ∧ ∀ k, 0 ≤ k → k < place + on * s → low - down * (s - 1) ≤ rst a b m k
/-- along a run, as long as the low lasts -/
theorem run_goes {a b m place low on down : Int} (hm : 0 < m) (p0 : 0 ≤ place) (on1 : 1 ≤ on) (d1 : 1 ≤ down) (hl : rst a b m place = low) (ht : rst a b m (place + on) = low - down) (hd : down ≤ low)
    (least : ∀ k, 0 ≤ k → k < place + on → low ≤ rst a b m k) : ∀ s : Nat, 1 ≤ s → down * s ≤ low → rst a b m (place + on * s) = low - down * s ∧ ∀ k, 0 ≤ k → k < place + on * s → low - down * (s - 1) ≤ rst a b m k := by
  have hc : ∃ c, a * on = m * c - down := by
    have e1 := Int.emod_add_mul_ediv (a * place + b) m
    have e2 := Int.emod_add_mul_ediv (a * (place + on) + b) m
    unfold rst at hl ht
    exact ⟨(a * (place + on) + b) / m - (a * place + b) / m, by grind⟩
  intro s
  induction s with
  | zero => intro h; omega
  | succ s ih =>
    intro _ hs
    by_cases z : s = 0
    · subst z
      refine ⟨?_, fun k k0 k1 => ?_⟩
      · simp
        exact ht
      · simp at k1 ⊢
        exact least k k0 k1
    · have es : down * ((s + 1 : Nat) : Int) = down * s + down := by
        rw [show ((s + 1 : Nat) : Int) = (s : Int) + 1 from rfl, Int.mul_add, Int.mul_one]
      have eo : on * ((s + 1 : Nat) : Int) = on * s + on := by
        rw [show ((s + 1 : Nat) : Int) = (s : Int) + 1 from rfl, Int.mul_add, Int.mul_one]
      have ed : down * ((s : Int) - 1) = down * s - down := by rw [Int.mul_sub, Int.mul_one]
      have os : on * 1 ≤ on * (s : Int) := Int.mul_le_mul_of_nonneg_left (by omega) (by omega)
      rw [es] at hs
      obtain ⟨i1, i2⟩ := ih (by omega) (by omega)
      rw [ed] at i2
      refine ⟨?_, fun k k0 k1 => ?_⟩
      · rw [eo, es, show place + (on * s + on) = place + on * s + on by omega, rst_on hm hc (by omega) (by omega)]
        omega
      · rw [show (((s + 1 : Nat) : Int) - 1) = (s : Int) by omega]
        by_cases y : k < place + on * s
        · have := i2 k k0 y
          omega
        · have h1 := i2 (k - on) (by omega) (by omega)
          have h3 : down ≤ rst a b m (k - on) := by omega
          have h2 := rst_on (k := k - on) hm hc h3 (by omega)
          rw [show k - on + on = k by omega] at h2
          omega

--@ needs Low
/-! the runs of lows -/
def endOf (b m : Int) (rs : List (List Int)) : Int × Int := match rs.getLast? with
  | some [p, l, on, dn, t] => (p + on * t, l - dn * t)
  | _ => (0, b % m)
def stepOf (rs : List (List Int)) : Int × Int := match rs.getLast? with
  | some [_, _, on, dn, _] => (on, dn)
  | _ => (0, 0)
theorem endOf_nil (b m : Int) : endOf b m [] = (0, b % m) := rfl
theorem stepOf_nil : stepOf [] = (0, 0) := rfl
theorem endOf_snoc (b m : Int) (rs : List (List Int)) (p l on dn t : Int) : endOf b m (rs ++ [[p, l, on, dn, t]]) = (p + on * t, l - dn * t) := by
  unfold endOf
  rw [List.getLast?_concat]
theorem stepOf_snoc (rs : List (List Int)) (p l on dn t : Int) : stepOf (rs ++ [[p, l, on, dn, t]]) = (on, dn) := by
  unfold stepOf
  rw [List.getLast?_concat]
def RunsP (a b m n : Int) (rs : List (List Int)) : Prop := ∀ i r, rs[i]? = some r → ∃ p l on dn t : Int, r = [p, l, on, dn, t] ∧ endOf b m (rs.take i) = (p, l) ∧ Run a b m p l on dn t ∧ 0 ≤ p ∧ p + on * t < n ∧ (on, dn) ≠ stepOf (rs.take i)
theorem RunsP.nil (a b m n : Int) : RunsP a b m n [] := fun i r h => by simp at h
theorem RunsP.snoc {a b m n : Int} {rs : List (List Int)} (h : RunsP a b m n rs) {p l on dn t : Int} (e : endOf b m rs = (p, l)) (r : Run a b m p l on dn t) (p0 : 0 ≤ p) (pn : p + on * t < n) (ne : (on, dn) ≠ stepOf rs) : RunsP a b m n (rs ++ [[p, l, on, dn, t]]) := by
  intro i r' hr
  by_cases hi : i < rs.length
  · rw [List.getElem?_append_left hi] at hr
    have ht : (rs ++ [[p, l, on, dn, t]]).take i = rs.take i := List.take_append_of_le_length (by omega)
    rw [ht]
    exact h i r' hr
  · have hl : i = rs.length := by
      have := (List.getElem?_eq_some_iff.mp hr).1
      rw [List.length_append] at this
      simp at this
      omega
    subst hl
    rw [List.getElem?_append_right (Nat.le_refl _), Nat.sub_self] at hr
    have ht : (rs ++ [[p, l, on, dn, t]]).take rs.length = rs := by
      rw [List.take_append_of_le_length (Nat.le_refl _), List.take_length]
    rw [ht]
    exact ⟨p, l, on, dn, t, (Option.some.inj hr).symm, e, r, p0, pn, ne⟩
/-- the least rest among the first places, and its first place -/
def Least (a b m n low place : Int) : Prop := 0 ≤ place ∧ place < n ∧ rst a b m place = low ∧ (∀ k, 0 ≤ k → k < place → low < rst a b m k) ∧ ∀ k, 0 ≤ k → k < n → low ≤ rst a b m k
theorem Least.uniq {a b m n l p l' p' : Int} (h : Least a b m n l p) (h' : Least a b m n l' p') : l = l' ∧ p = p' := by
  obtain ⟨h1, h2, h3, h4, h5⟩ := h
  obtain ⟨g1, g2, g3, g4, g5⟩ := h'
  have a1 := h5 p' g1 g2
  have a2 := g5 p h1 h2
  have e : l = l' := by omega
  refine ⟨e, ?_⟩
  by_cases z : p < p'
  · have := g4 p h1 z
    omega
  · by_cases y : p' < p
    · have := h4 p' g1 y
      omega
    · omega
/-- what the loop keeps -/
structure Lst (a b m n : Int) (rs : List (List Int)) (place low : Int) : Prop where
  e : endOf b m rs = (place, low)
  p0 : 0 ≤ place
  pn : place < n
  r : rst a b m place = low
  ah : ∀ k, 0 ≤ k → k < place → low < rst a b m k
  R : RunsP a b m n rs
  g : (low * 2 ^ rs.length < 2 ^ 200 ∧ (rs = [] ∨ low < (stepOf rs).2)) ∨ ((∀ k, 0 ≤ k → k < n → low ≤ rst a b m k) ∧ rs.length ≤ 200)
theorem Lst.new {a b m n : Int} (hm : 0 < m) (zm : m < 2 ^ 200) (hn : 0 < n) : Lst a b m n [] 0 (b % m) := by
  have r1 := Int.emod_lt_of_pos b hm
  refine ⟨rfl, by omega, hn, ?_, fun k h1 h2 => by omega, RunsP.nil _ _ _ _, .inl ⟨?_, .inl rfl⟩⟩
  · unfold rst
    rw [Int.mul_zero, Int.zero_add]
  · show b % m * 2 ^ 0 < 2 ^ 200
    omega
theorem Lst.len {a b m n : Int} {rs : List (List Int)} {place low : Int} (h : Lst a b m n rs place low) (hm : 0 < m) : rs.length ≤ 200 ∨ low = 0 := by
  rcases h.g with ⟨g, _⟩ | g
  · by_cases z : low = 0
    · exact .inr z
    · left
      have l0 := (rst_b a b place hm).1
      rw [h.r] at l0
      by_cases y : rs.length ≤ 200
      · exact y
      · have : (2 : Int) ^ 200 ≤ 2 ^ rs.length := by
          have := Nat.pow_le_pow_right (n := 2) (by decide) (show 200 ≤ rs.length by omega)
          exact_mod_cast this
        have h1 : 1 * (2 : Int) ^ rs.length ≤ low * 2 ^ rs.length := Int.mul_le_mul_of_nonneg_right (by omega) (by omega)
        omega
  · exact .inl g.2
/-- no lower one is left -/
theorem Lst.none {a b m n : Int} {rs : List (List Int)} {place low : Int} (h : Lst a b m n rs place low) (hm : 0 < m) (f : ∀ y : Int, 0 ≤ y → place + y < n → ¬ Ht a (a * place + b) m 0 low y) : Least a b m n low place := by
  refine ⟨h.p0, h.pn, h.r, h.ah, fun k k0 kn => ?_⟩
  by_cases z : k < place
  · exact Int.le_of_lt (h.ah k k0 z)
  · have := f (k - place) (by omega) (by omega)
    unfold Ht at this
    unfold rst
    have e : a * (k - place) + (a * place + b) = a * k + b := by grind
    rw [e] at this
    have := Int.emod_nonneg (a * k + b) (show m ≠ 0 by omega)
    omega
/-- a run more -/
theorem Lst.step {a b m n : Int} {rs : List (List Int)} {place low : Int} (h : Lst a b m n rs place low) (hm : 0 < m) {y : Int} (f : FH a (a * place + b) m 0 low (some y)) (hy : place + y < n) :
    rs.length < 200 ∧ 1 ≤ y ∧ 1 ≤ low - rst a b m (place + y) ∧ ∀ dn t : Int, dn = low - rst a b m (place + y) → t = min (low / dn) ((n - 1 - place) / y) →
      1 ≤ t ∧ dn * t ≤ low ∧ place + y * t < n ∧ Lst a b m n (rs ++ [[place, low, y, dn, t]]) (place + y * t) (low - dn * t) := by
  obtain ⟨y0, fy, fl⟩ := f
  have ex : ∀ j : Int, a * j + (a * place + b) = a * (place + j) + b := fun j => by grind
  have y1 : 1 ≤ y := by
    by_cases z : y = 0
    · subst z
      have := h.r
      unfold Ht at fy
      unfold rst at this
      rw [ex, Int.add_zero] at fy
      omega
    · omega
  have lo0 := (rst_b a b place hm).1
  rw [h.r] at lo0
  have ry : 0 ≤ rst a b m (place + y) ∧ rst a b m (place + y) < low := by
    unfold Ht at fy
    unfold rst
    rw [ex] at fy
    exact fy
  have least : ∀ k, 0 ≤ k → k < place + y → low ≤ rst a b m k := fun k k0 k1 => by
    by_cases z : k < place
    · exact Int.le_of_lt (h.ah k k0 z)
    · have := fl (k - place) (by omega) (by omega)
      unfold Ht at this
      rw [ex, show place + (k - place) = k by omega] at this
      have r0 := (rst_b a b k hm).1
      unfold rst at r0 ⊢
      omega
  obtain ⟨g1, g2⟩ : low * 2 ^ rs.length < 2 ^ 200 ∧ (rs = [] ∨ low < (stepOf rs).2) := by
    rcases h.g with g | ⟨g, _⟩
    · exact g
    · have := g (place + y) (by have := h.p0; omega) hy
      omega
  have len : rs.length < 200 := by
    by_cases z : rs.length < 200
    · exact z
    · have : (2 : Int) ^ 200 ≤ 2 ^ rs.length := by
        have := Nat.pow_le_pow_right (n := 2) (by decide) (show 200 ≤ rs.length by omega)
        exact_mod_cast this
      have h1 : 1 * (2 : Int) ^ rs.length ≤ low * 2 ^ rs.length := Int.mul_le_mul_of_nonneg_right (by omega) (by omega)
      omega
  refine ⟨len, y1, by omega, fun dn t ed et => ?_⟩
  have d1 : 1 ≤ dn := by omega
  have dl : dn ≤ low := by omega
  have rg := run_goes (a := a) (b := b) (place := place) (low := low) (on := y) (down := dn) hm h.p0 y1 d1 h.r (by omega) dl least
  have q1 : 1 ≤ low / dn := (Int.le_ediv_iff_mul_le (by omega)).mpr (by omega)
  have q2 : 1 ≤ (n - 1 - place) / y := (Int.le_ediv_iff_mul_le (by omega)).mpr (by omega)
  have t1 : 1 ≤ t := by omega
  have tl : t ≤ low / dn := by omega
  have tn : t ≤ (n - 1 - place) / y := by omega
  have hl : dn * t ≤ low := by
    have := (Int.le_ediv_iff_mul_le (by omega)).mp tl
    rw [Int.mul_comm]
    exact this
  have hn : place + y * t < n := by
    have := (Int.le_ediv_iff_mul_le (by omega)).mp tn
    rw [Int.mul_comm] at this
    omega
  have yt : 0 ≤ y * t := Int.mul_nonneg (by omega) (by omega)
  have p0 := h.p0
  obtain ⟨e1, e2⟩ := rg t.toNat (by omega) (by rw [show ((t.toNat : Nat) : Int) = t by omega]; exact hl)
  rw [show ((t.toNat : Nat) : Int) = t by omega] at e1 e2
  have edt : dn * (t - 1) = dn * t - dn := by rw [Int.mul_sub, Int.mul_one]
  refine ⟨t1, hl, hn, ⟨endOf_snoc .., by omega, hn, e1, fun k k0 k1 => ?_, h.R.snoc h.e ⟨y1, d1, t1, hl, h.r, fun s s1 s2 => ?_⟩ p0 hn ?_, ?_⟩⟩
  · have := e2 k k0 k1
    omega
  · refine rg s s1 ?_
    have : dn * (s : Int) ≤ dn * t := Int.mul_le_mul_of_nonneg_left s2 (by omega)
    omega
  · intro z
    rcases g2 with rfl | g2
    · rw [stepOf_nil] at z
      have := congrArg Prod.fst z
      dsimp at this
      omega
    · have := congrArg Prod.snd z
      dsimp at this
      omega
  · rw [stepOf_snoc, List.length_append]
    show _ ∧ (_ ∨ low - dn * t < dn) ∨ _ ∧ rs.length + 1 ≤ 200
    by_cases ca : t = low / dn
    · left
      have em := Int.emod_add_mul_ediv low dn
      have r1 := Int.emod_lt_of_pos low (show 0 < dn by omega)
      have ll : low - dn * t = low % dn := by
        rw [ca]
        omega
      have dd : dn * 1 ≤ dn * t := Int.mul_le_mul_of_nonneg_left t1 (by omega)
      refine ⟨?_, .inr (by omega)⟩
      rw [show rs.length + [[place, low, y, dn, t]].length = rs.length + 1 from rfl, Int.pow_succ]
      have h2 : (low - dn * t) * 2 * 2 ^ rs.length ≤ low * 2 ^ rs.length := Int.mul_le_mul_of_nonneg_right (by omega) (Int.pow_nonneg (by decide))
      have h3 : (low - dn * t) * (2 ^ rs.length * 2) = (low - dn * t) * 2 * 2 ^ rs.length := by
        rw [Int.mul_comm ((2 : Int) ^ rs.length) 2, Int.mul_assoc]
      omega
    · right
      refine ⟨fun k k0 kn => ?_, by omega⟩
      have tq : t = (n - 1 - place) / y := by omega
      have t2 : t + 1 ≤ low / dn := by omega
      have hl2 : dn * (t + 1) ≤ low := by
        have := (Int.le_ediv_iff_mul_le (by omega)).mp t2
        rw [Int.mul_comm]
        exact this
      have := (rg (t.toNat + 1) (by omega) (by rw [show ((t.toNat + 1 : Nat) : Int) = t + 1 by omega]; exact hl2)).2 k k0 (by
        rw [show ((t.toNat + 1 : Nat) : Int) = t + 1 by omega]
        have em := Int.emod_add_mul_ediv (n - 1 - place) y
        have r1 := Int.emod_lt_of_pos (n - 1 - place) (show 0 < y by omega)
        rw [← tq] at em
        rw [Int.mul_add, Int.mul_one]
        omega)
      rw [show ((t.toNat + 1 : Nat) : Int) - 1 = t by omega] at this
      exact this
theorem rst_turn {a b m : Int} (hm : 0 < m) (k : Int) : rst (0 - a) (m - 1 - b) m k = m - 1 - rst a b m k := by
  have e := Int.emod_add_mul_ediv (a * k + b) m
  have r0 := Int.emod_nonneg (a * k + b) (show m ≠ 0 by omega)
  have r1 := Int.emod_lt_of_pos (a * k + b) hm
  unfold rst
  rw [show (0 - a) * k + (m - 1 - b) = (m - 1 - (a * k + b) % m) + m * (-((a * k + b) / m)) by grind, Int.add_mul_emod_self_left, Int.emod_eq_of_lt (by omega) (by omega)]
/-- the greatest rest, and its first place -/
theorem Least.turn {a b m n h p : Int} (hm : 0 < m) (L : Least (0 - a) (m - 1 - b) m n (m - 1 - h) p) : 0 ≤ p ∧ p < n ∧ rst a b m p = h ∧ (∀ k, 0 ≤ k → k < p → rst a b m k < h) ∧ ∀ k, 0 ≤ k → k < n → rst a b m k ≤ h := by
  obtain ⟨h1, h2, h3, h4, h5⟩ := L
  refine ⟨h1, h2, ?_, fun k k0 k1 => ?_, fun k k0 k1 => ?_⟩
  · rw [rst_turn hm] at h3
    omega
  · have := h4 k k0 k1
    rw [rst_turn hm] at this
    omega
  · have := h5 k k0 k1
    rw [rst_turn hm] at this
    omega

--@ needs Runs
/-! lows one by one, and put to runs -/
def lastR (r : List (List Int)) : Int × Int := match r.getLast? with
  | some [p, l] => (p, l)
  | _ => (0, 0)
theorem lastR_snoc (rs : List (List Int)) (p l : Int) : lastR (rs ++ [[p, l]]) = (p, l) := by
  unfold lastR
  rw [List.getLast?_concat]
def recF (f : Nat → Int) : Nat → List (List Int)
  | 0 => []
  | n + 1 => if recF f n = [] ∨ f n < (lastR (recF f n)).2 then recF f n ++ [[(n : Int), f n]] else recF f n
def addR (rs : List (List Int)) (p l p' l' : Int) : List (List Int) :=
  if rs ≠ [] ∧ stepOf rs = (p' - p, l - l') then rs.dropLast ++ [[(rs.getLastD []).getD 0 0, (rs.getLastD []).getD 1 0, p' - p, l - l', (rs.getLastD []).getD 4 0 + 1]] else rs ++ [[p, l, p' - p, l - l', 1]]
def grpN (ss : List (List Int)) : Nat → List (List Int)
  | 0 => []
  | i + 1 => addR (grpN ss i) ((ss.getD i []).getD 0 0) ((ss.getD i []).getD 1 0) ((ss.getD (i + 1) []).getD 0 0) ((ss.getD (i + 1) []).getD 1 0)
theorem grpN_app (ss ts : List (List Int)) : ∀ i, i < ss.length → grpN (ss ++ ts) i = grpN ss i
  | 0, _ => rfl
  | i + 1, h => by
    have e : ∀ j, j < ss.length → (ss ++ ts).getD j [] = ss.getD j [] := fun j hj => by
      rw [List.getD_eq_getElem?_getD, List.getD_eq_getElem?_getD, List.getElem?_append_left hj]
    unfold grpN
    rw [grpN_app ss ts i (by omega), e i (by omega), e (i + 1) h]
theorem addR_more (rs : List (List Int)) (p l on dn t p' l' p2 l2 : Int) (h1 : p2 - p' = on) (h2 : l' - l2 = dn) : addR (rs ++ [[p, l, on, dn, t]]) p' l' p2 l2 = rs ++ [[p, l, on, dn, t + 1]] := by
  unfold addR
  rw [if_pos ⟨by simp, by rw [stepOf_snoc, h1, h2]⟩, h1, h2]
  simp
theorem addR_new (rs : List (List Int)) (p l p' l' : Int) (h : rs = [] ∨ stepOf rs ≠ (p' - p, l - l')) : addR rs p l p' l' = rs ++ [[p, l, p' - p, l - l', 1]] := by
  unfold addR
  rw [if_neg]
  rintro ⟨h1, h2⟩
  rcases h with h | h
  · exact h1 h
  · exact h h2
/-- behind so many places: the last low, and the runs up to it -/
def Fus (f : Nat → Int) (k : Nat) (rs : List (List Int)) (p l : Int) : Prop := recF f k ≠ [] ∧ lastR (recF f k) = (p, l) ∧ (recF f k).getD ((recF f k).length - 1) [] = [p, l] ∧ grpN (recF f k) ((recF f k).length - 1) = rs
theorem Fus.one (f : Nat → Int) : Fus f 1 [] 0 (f 0) := by
  have e : recF f 1 = [[0, f 0]] := by
    show (if recF f 0 = [] ∨ f 0 < (lastR (recF f 0)).2 then recF f 0 ++ [[((0 : Nat) : Int), f 0]] else recF f 0) = _
    rw [if_pos (.inl rfl)]
    rfl
  unfold Fus
  rw [e]
  exact ⟨by simp, rfl, rfl, rfl⟩
theorem Fus.stay {f : Nat → Int} {k : Nat} {rs : List (List Int)} {p l : Int} (h : Fus f k rs p l) (hl : l ≤ f k) : Fus f (k + 1) rs p l := by
  have e : recF f (k + 1) = recF f k := by
    show (if recF f k = [] ∨ f k < (lastR (recF f k)).2 then recF f k ++ [[(k : Int), f k]] else recF f k) = _
    rw [if_neg]
    rintro (z | z)
    · exact h.1 z
    · rw [h.2.1] at z
      have z : f k < l := z
      omega
  unfold Fus
  rw [e]
  exact h
theorem Fus.stays {f : Nat → Int} {k : Nat} {rs : List (List Int)} {p l : Int} (h : Fus f k rs p l) : ∀ j : Nat, (∀ i, k ≤ i → i < k + j → l ≤ f i) → Fus f (k + j) rs p l
  | 0, _ => h
  | j + 1, hl => (h.stays j fun i h1 h2 => hl i h1 (by omega)).stay (hl (k + j) (by omega) (by omega))
theorem Fus.down {f : Nat → Int} {k : Nat} {rs : List (List Int)} {p l : Int} (h : Fus f k rs p l) (hl : f k < l) : Fus f (k + 1) (addR rs p l k (f k)) k (f k) := by
  obtain ⟨h1, h2, h3, h4⟩ := h
  have e : recF f (k + 1) = recF f k ++ [[(k : Int), f k]] := by
    show (if recF f k = [] ∨ f k < (lastR (recF f k)).2 then recF f k ++ [[(k : Int), f k]] else recF f k) = _
    rw [if_pos]
    right
    rw [h2]
    exact hl
  unfold Fus
  rw [e]
  generalize recF f k = ss at *
  have l0 : 0 < ss.length := List.length_pos_iff.mpr h1
  have e1 : (ss ++ [[(k : Int), f k]]).length - 1 = ss.length := by
    rw [List.length_append]
    rfl
  have e2 : (ss ++ [[(k : Int), f k]]).getD ss.length [] = [(k : Int), f k] := by
    rw [List.getD_eq_getElem?_getD, List.getElem?_append_right (Nat.le_refl _), Nat.sub_self]
    rfl
  refine ⟨by simp, lastR_snoc .., by rw [e1, e2], ?_⟩
  rw [e1]
  obtain ⟨j, hj⟩ : ∃ j, ss.length = j + 1 := ⟨ss.length - 1, by omega⟩
  rw [hj] at h3 h4 e2 ⊢
  simp only [Nat.add_sub_cancel] at h3 h4
  show addR (grpN (ss ++ [[(k : Int), f k]]) j) _ _ _ _ = _
  have e3 : (ss ++ [[(k : Int), f k]]).getD j [] = ss.getD j [] := by
    rw [List.getD_eq_getElem?_getD, List.getD_eq_getElem?_getD, List.getElem?_append_left (by omega)]
  rw [grpN_app _ _ _ (by omega), h4, e2, e3, h3]
  rfl
/-- along one run -/
theorem Fus.run {a b m n : Int} {rs : List (List Int)} {p l on dn t : Int} (p0 : 0 ≤ p) (pn : p + on * t < n) (h : Fus (fun i => rst a b m i) (p + 1).toNat rs p l) (r : Run a b m p l on dn t) (ne : (on, dn) ≠ stepOf rs) : ∀ s : Nat, 1 ≤ s → (s : Int) ≤ t →
    Fus (fun i => rst a b m i) (p + on * s + 1).toNat (rs ++ [[p, l, on, dn, (s : Int)]]) (p + on * s) (l - dn * s) := by
  obtain ⟨o1, d1, t1, dl, r0, hs⟩ := r
  intro s
  induction s with
  | zero => intro h; omega
  | succ s ih =>
    intro _ hst
    obtain ⟨g1, g2⟩ := hs (s + 1) (by omega) hst
    have eo : on * ((s + 1 : Nat) : Int) = on * s + on := by
      rw [show ((s + 1 : Nat) : Int) = (s : Int) + 1 from rfl, Int.mul_add, Int.mul_one]
    have ed : dn * ((s + 1 : Nat) : Int) = dn * s + dn := by
      rw [show ((s + 1 : Nat) : Int) = (s : Int) + 1 from rfl, Int.mul_add, Int.mul_one]
    rw [eo, ed] at g1
    rw [eo, show ((s + 1 : Nat) : Int) - 1 = (s : Int) by omega] at g2
    have os : 0 ≤ on * (s : Int) := Int.mul_nonneg (by omega) (by omega)
    have prev : Fus (fun i => rst a b m i) (p + on * s + 1).toNat (if s = 0 then rs else rs ++ [[p, l, on, dn, (s : Int)]]) (p + on * s) (l - dn * s) := by
      by_cases z : s = 0
      · subst z
        rw [if_pos rfl]
        simp
        exact h
      · rw [if_neg z]
        exact ih (by omega) (by omega)
    have st := prev.stays (on - 1).toNat (fun i h1 h2 => g2 i (by omega) (by omega))
    rw [show (p + on * s + 1).toNat + (on - 1).toNat = (p + (on * s + on)).toNat by omega] at st
    have ek : (((p + (on * s + on)).toNat : Nat) : Int) = p + (on * s + on) := by omega
    have dw := st.down (by
      show rst a b m (((p + (on * s + on)).toNat : Nat) : Int) < _
      rw [ek, g1]
      omega)
    rw [show (p + (on * s + on)).toNat + 1 = (p + (on * s + on) + 1).toNat by omega] at dw
    rw [eo, ed]
    have dw : Fus (fun i => rst a b m i) (p + (on * s + on) + 1).toNat (addR (if s = 0 then rs else rs ++ [[p, l, on, dn, (s : Int)]]) (p + on * s) (l - dn * s) (p + (on * s + on)) (l - (dn * s + dn))) (p + (on * s + on)) (l - (dn * s + dn)) := by
      have := dw
      simp only [ek, g1] at this
      exact this
    by_cases z : s = 0
    · subst z
      rw [if_pos rfl] at dw
      rw [addR_new] at dw
      · simp at dw ⊢
        rw [show p + on - p = on by omega, show l - (l - dn) = dn by omega] at dw
        exact dw
      · right
        intro y
        apply ne
        rw [y]
        simp
        omega
    · rw [if_neg z, addR_more _ _ _ _ _ _ _ _ _ _ (by omega) (by omega)] at dw
      exact dw
/-- the runs are those of the lows, gone through one by one -/
theorem runs_one {a b m n : Int} (hn : 0 < n) {rs : List (List Int)} (P : RunsP a b m n rs) {place low : Int} (e : endOf b m rs = (place, low)) (L : Least a b m n low place) : grpN (recF (fun i => rst a b m i) n.toNat) ((recF (fun i => rst a b m i) n.toNat).length - 1) = rs := by
  have all : ∀ j : Nat, j ≤ rs.length → ∀ p l, endOf b m (rs.take j) = (p, l) → 0 ≤ p ∧ Fus (fun i => rst a b m i) (p + 1).toNat (rs.take j) p l := by
    intro j
    induction j with
    | zero =>
      intro _ p l h
      rw [List.take_zero, endOf_nil] at h
      cases h
      have := Fus.one (fun i => rst a b m i)
      refine ⟨by decide, ?_⟩
      have e0 : rst a b m ((0 : Nat) : Int) = b % m := by
        unfold rst
        simp
      rw [e0] at this
      exact this
    | succ j ih =>
      intro hj p l h
      have hr : rs[j]? = some rs[j] := List.getElem?_eq_getElem (by omega)
      obtain ⟨p', l', on, dn, t, er, ee, rn, p0, pn, ne⟩ := P j _ hr
      have tk : rs.take (j + 1) = rs.take j ++ [[p', l', on, dn, t]] := by
        rw [List.take_add_one, hr, er]
        rfl
      obtain ⟨_, fu⟩ := ih (by omega) p' l' ee
      have t1 := rn.2.2.1
      have o1 := rn.1
      have := Fus.run p0 pn fu rn ne t.toNat (by omega) (by omega)
      rw [show ((t.toNat : Nat) : Int) = t by omega] at this
      rw [tk, endOf_snoc] at h
      cases h
      have ot : 0 ≤ on * t := Int.mul_nonneg (by omega) (by omega)
      refine ⟨by omega, ?_⟩
      rw [tk]
      exact this
  obtain ⟨p0, fu⟩ := all rs.length (Nat.le_refl _) place low (by rw [List.take_length]; exact e)
  rw [List.take_length] at fu
  obtain ⟨l0, l1, l2, l3, l4⟩ := L
  have := fu.stays (n - place - 1).toNat (fun i h1 h2 => l4 i (by omega) (by omega))
  rw [show (place + 1).toNat + (n - place - 1).toNat = n.toNat by omega] at this
  exact this.2.2.2

--@ needs Runs
theorem at_last {xs : List V} {v : V} (h : xs[xs.length - 1]? = some v) : atI xs (-1) = some v := by
  have hl : xs.length - 1 < xs.length := (List.getElem?_eq_some_iff.mp h).1
  unfold atI ixN
  rw [if_neg (by decide), if_pos (by omega)]
  show xs[((-1 : Int) + xs.length).toNat]? = some v
  rw [show ((-1 : Int) + xs.length).toNat = xs.length - 1 by omega]
  exact h
theorem RunsP.last {a b m n : Int} {rs : List (List Int)} (h : RunsP a b m n rs) (ne : rs ≠ []) : ∃ p l on dn t : Int, rs[rs.length - 1]? = some [p, l, on, dn, t] ∧ endOf b m rs = (p + on * t, l - dn * t) ∧ Run a b m p l on dn t ∧ 0 ≤ p ∧ p + on * t < n := by
  obtain h0 | ⟨is, r, h0⟩ := List.eq_nil_or_concat rs
  · exact absurd h0 ne
  · rw [List.concat_eq_append] at h0
    subst h0
    have hi : (is ++ [r])[is.length]? = some r := by
      rw [List.getElem?_append_right (Nat.le_refl _), Nat.sub_self]
      rfl
    obtain ⟨p, l, on, dn, t, rfl, e, R, p0, pn, _⟩ := h _ _ hi
    refine ⟨p, l, on, dn, t, ?_, endOf_snoc .., R, p0, pn⟩
    rw [List.length_append, show is.length + [[p, l, on, dn, t]].length - 1 = is.length from rfl]
    exact hi
theorem Run.sz {a b m n p l on dn t : Int} (r : Run a b m p l on dn t) (hm : 0 < m) (p0 : 0 ≤ p) (pn : p + on * t < n) : 0 ≤ l ∧ l < m ∧ on < n ∧ dn < m ∧ t < n ∧ p < n ∧ 1 ≤ on ∧ 1 ≤ dn ∧ 1 ≤ t := by
  obtain ⟨h1, h2, h3, h4, h5, _⟩ := r
  have b1 := rst_b a b p hm
  rw [h5] at b1
  have x1 : on * 1 ≤ on * t := Int.mul_le_mul_of_nonneg_left h3 (by omega)
  have x2 : 1 * t ≤ on * t := Int.mul_le_mul_of_nonneg_right h1 (by omega)
  have x3 : dn * 1 ≤ dn * t := Int.mul_le_mul_of_nonneg_left h3 (by omega)
  omega
theorem r_neT2 {K : PySem.W.Frag} {H : Hp} {Q : VK} {p q : Addr} {a b a' b' : Int} (h : H p = some (.tup [.int a, .int b])) (h' : H q = some (.tup [.int a', .int b'])) (k : Q (.bl (!decide ([a, b] = [a', b']))) H) : rNeD K (.ref p) (.ref q) H Q :=
  r_neD (.tup (SqT.of h) (dp_ints [a, b])) (.tup (SqT.of h') (dp_ints [a', b'])) (shp_tup _) (shp_tup _) (by rw [eqvT]; exact k)
theorem r_eqT2 {K : PySem.W.Frag} {H : Hp} {Q : VK} {p q : Addr} {a b a' b' : Int} (h : H p = some (.tup [.int a, .int b])) (h' : H q = some (.tup [.int a', .int b'])) (k : Q (.bl (decide ([a, b] = [a', b']))) H) : rEqD K (.ref p) (.ref q) H Q :=
  r_eqD (.tup (SqT.of h) (dp_ints [a, b])) (.tup (SqT.of h') (dp_ints [a', b'])) (shp_tup _) (shp_tup _) (by rw [eqvT]; exact k)
theorem take_up {α : Type} {l : List α} {i : Nat} {x : α} (h : l[i]? = some x) : l.take (i + 1) = l.take i ++ [x] := by
  rw [List.take_add_one, h]
  rfl

--@ needs LowsL
--@ needs RunsV
theorem r_iEnum {K : PySem.W.Frag} {ta : TA} {σ : L2.St} {H : Hp} {R : It → Hp → Prop} (k : ta σ H fun vs H1 => ∃ a xs, vs = [.ref a] ∧ SqL K H1 a xs ∧ R (Ite K a) H1) : iEnum K ta σ H R := k
theorem for_enum {K : PySem.W.Frag} {a : Addr} {xs : List V} {g : TG} {tb : TS} {D : Ends} {σ : L2.St} {H : Hp} (Pv : Nat → L2.St → Hp → Prop) (h0 : Pv 0 σ H) (hq : ∀ i σ H, Pv i σ H → SqL K H a xs)
    (hs : ∀ (i : Nat) (x : V) (T : Addr) (σ : L2.St) (H : Hp), xs[i]? = some x → Pv i σ H → H T = none → g (.ref T) σ (upd H T (.tup [.int (i : Nat), x])) fun σ2 H2 => tb { D with nx := Pv (i + 1), ct := Pv (i + 1), bk := D.nx } σ2 H2) (hd : ∀ σ H, Pv xs.length σ H → D.nx σ H) :
    ForB (Ite K a) g tb D σ H := by
  refine ⟨fun i m σ H => m = xs.length - i ∧ i ≤ xs.length ∧ Pv i σ H, ⟨xs.length, rfl, Nat.zero_le _, h0⟩, ?_⟩
  rintro i m σ H ⟨rfl, hi, p⟩
  have qx := hq i σ H p
  by_cases hlt : i < xs.length
  · have hx : xs[i]? = some xs[i] := List.getElem?_eq_getElem hlt
    refine .inr ⟨⟨xs, _, qx, hx⟩, Pv (i + 1), fun σ' H' p' => ⟨xs.length - (i + 1), by omega, rfl, hlt, p'⟩, fun v H' y => ?_⟩
    obtain ⟨T, x', rfl, hT, rfl, f1⟩ := y
    exact hs i x' T σ H (f1 xs qx) p hT
  · have e : i = xs.length := by omega
    subst e
    exact .inl ⟨⟨xs, qx, Nat.le_refl _⟩, hd σ H p⟩
theorem for_zipM {K : PySem.W.Frag} {a b : Addr} {xs ys : List V} {g : TG} {tb : TS} {D : Ends} {σ : L2.St} {H : Hp} {n : Nat} (hl : n = min xs.length ys.length) (Pv : Nat → L2.St → Hp → Prop) (h0 : Pv 0 σ H) (hq : ∀ i σ H, Pv i σ H → SqL K H a xs ∧ SqL K H b ys)
    (hs : ∀ (i : Nat) (x y : V) (T : Addr) (σ : L2.St) (H : Hp), i < n → xs[i]? = some x → ys[i]? = some y → Pv i σ H → H T = none → g (.ref T) σ (upd H T (.tup [x, y])) fun σ2 H2 => tb { D with nx := Pv (i + 1), ct := Pv (i + 1), bk := D.nx } σ2 H2) (hd : ∀ σ H, Pv n σ H → D.nx σ H) :
    ForB (Itz K a b) g tb D σ H := by
  refine ⟨fun i m σ H => m = n - i ∧ i ≤ n ∧ Pv i σ H, ⟨n, rfl, Nat.zero_le _, h0⟩, ?_⟩
  rintro i m σ H ⟨rfl, hi, p⟩
  obtain ⟨qx, qy⟩ := hq i σ H p
  by_cases hlt : i < n
  · have hx : xs[i]? = some xs[i] := List.getElem?_eq_getElem (by omega)
    have hy : ys[i]? = some ys[i] := List.getElem?_eq_getElem (by omega)
    refine .inr ⟨⟨xs, ys, _, _, qx, qy, hx, hy⟩, Pv (i + 1), fun σ' H' p' => ⟨n - (i + 1), by omega, rfl, hlt, p'⟩, fun v H' y => ?_⟩
    obtain ⟨T, x', y', rfl, hT, rfl, f1, f2⟩ := y
    exact hs i x' y' T σ H hlt (f1 xs qx) (f2 ys qy) p hT
  · have e : i = n := by omega
    subst e
    exact .inl ⟨⟨xs, ys, qx, qy, by omega⟩, hd σ H p⟩
/-- the last row of a list of rows -/
theorem RowsA.lastG {H : Hp} {vs : List V} {rs : List (List Int)} {r : List Int} (R : RowsA H vs rs) (h : rs.getLast? = some r) : ∃ t, atI vs (-1) = some (.ref t) ∧ H t = some (.tup (r.map V.int)) := by
  rw [List.getLast?_eq_getElem?, ← R.len] at h
  have hv : vs.length - 1 < vs.length := by
    have := (List.getElem?_eq_some_iff.mp h).1
    rw [← R.len] at this
    exact this
  obtain ⟨t, r', ev, er, ht⟩ := R.get (List.getElem?_eq_getElem hv)
  rw [h] at er
  cases er
  exact ⟨t, at_last ((List.getElem?_eq_getElem hv).trans (congrArg some ev)), ht⟩
/-- rows of two numbers, the last one's -/
theorem recF_row (f : Nat → Int) : ∀ n : Nat, (∀ r ∈ recF f n, ∃ k : Nat, k < n ∧ r = [(k : Int), f k]) ∧ (recF f n).length ≤ n
  | 0 => ⟨fun r h => (by cases h), Nat.le_refl _⟩
  | n + 1 => by
    obtain ⟨h, hl⟩ := recF_row f n
    unfold recF
    split
    · refine ⟨fun r hr => ?_, by rw [List.length_append]; simp; omega⟩
      rcases List.mem_append.mp hr with hr | hr
      · obtain ⟨k, hk, e⟩ := h r hr
        exact ⟨k, by omega, e⟩
      · exact ⟨n, by omega, List.mem_singleton.mp hr⟩
    · refine ⟨fun r hr => ?_, by omega⟩
      obtain ⟨k, hk, e⟩ := h r hr
      exact ⟨k, by omega, e⟩
theorem recF_last (f : Nat → Int) {n : Nat} (h : recF f n ≠ []) : ∃ k : Nat, (recF f n).getLast? = some [(k : Int), f k] ∧ lastR (recF f n) = ((k : Int), f k) := by
  have hm := List.getLast_mem h
  obtain ⟨k, _, e⟩ := (recF_row f n).1 _ hm
  have hg : (recF f n).getLast? = some [(k : Int), f k] := by rw [List.getLast?_eq_some_getLast h, e]
  refine ⟨k, hg, ?_⟩
  unfold lastR
  rw [hg]
theorem RowsA.setLast {H : Hp} {t : Addr} {r r' : List Int} (ht : H t = some (.tup (r'.map V.int))) : ∀ {us : List V} {rs : List (List Int)}, RowsA H us (rs ++ [r]) → RowsA H (us.set (us.length - 1) (.ref t)) (rs ++ [r'])
  | [_], [], _ => ⟨⟨t, rfl, ht⟩, trivial⟩
  | [], [], h => h.elim
  | _ :: _ :: _, [], h => h.2.elim
  | [], _ :: _, h => h.elim
  | [_], _ :: [], h => h.2.elim
  | [_], _ :: _ :: _, h => h.2.elim
  | u :: v :: us, _ :: rs, ⟨h, g⟩ => ⟨h, RowsA.setLast (us := v :: us) (rs := rs) ht g⟩
theorem addR_row {rs : List (List Int)} (h : ∀ r ∈ rs, ∃ a b c d e : Int, r = [a, b, c, d, e]) (p l p' l' : Int) : ∀ r ∈ addR rs p l p' l', ∃ a b c d e : Int, r = [a, b, c, d, e] := by
  intro r hr
  unfold addR at hr
  split at hr
  · rcases List.mem_append.mp hr with hr | hr
    · exact h r (List.dropLast_subset _ hr)
    · rw [List.mem_singleton.mp hr]
      exact ⟨_, _, _, _, _, rfl⟩
  · rcases List.mem_append.mp hr with hr | hr
    · exact h r hr
    · rw [List.mem_singleton.mp hr]
      exact ⟨_, _, _, _, _, rfl⟩
theorem addR_len (rs : List (List Int)) (p l p' l' : Int) : (addR rs p l p' l').length ≤ rs.length + 1 := by
  unfold addR
  split
  · rw [List.length_append, List.length_dropLast]
    show rs.length - 1 + 1 ≤ _
    omega
  · rw [List.length_append]
    simp
theorem grpN_row (ss : List (List Int)) : ∀ i, (∀ r ∈ grpN ss i, ∃ a b c d e : Int, r = [a, b, c, d, e]) ∧ (grpN ss i).length ≤ i
  | 0 => ⟨fun r h => (by cases h), Nat.le_refl _⟩
  | i + 1 => by
    obtain ⟨h, l⟩ := grpN_row ss i
    unfold grpN
    refine ⟨addR_row h _ _ _ _, ?_⟩
    have := addR_len (grpN ss i) ((ss.getD i []).getD 0 0) ((ss.getD i []).getD 1 0) ((ss.getD (i + 1) []).getD 0 0) ((ss.getD (i + 1) []).getD 1 0)
    omega
theorem grpN_up {ss : List (List Int)} {i : Nat} {x y x' y' : Int} (h : ss[i]? = some [x, y]) (h' : ss[i + 1]? = some [x', y']) : grpN ss (i + 1) = addR (grpN ss i) x y x' y' := by
  have e1 : ss.getD i [] = [x, y] := by
    rw [List.getD_eq_getElem?_getD, h]
    rfl
  have e2 : ss.getD (i + 1) [] = [x', y'] := by
    rw [List.getD_eq_getElem?_getD, h']
    rfl
  show addR (grpN ss i) ((ss.getD i []).getD 0 0) ((ss.getD i []).getD 1 0) ((ss.getD (i + 1) []).getD 0 0) ((ss.getD (i + 1) []).getD 1 0) = _
  rw [e1, e2]
  rfl
theorem ixN_last {n : Nat} (h : 0 < n) : ixN n (-1) = some (n - 1) := by
  unfold ixN
  rw [if_neg (by decide), if_pos (by omega)]
  exact congrArg some (by omega)
theorem recF_ne {f : Nat → Int} : ∀ {n : Nat}, 0 < n → recF f n ≠ []
  | 0, h => absurd h (by decide)
  | n + 1, _ => by
    unfold recF
    split
    · simp
    · rename_i h
      exact fun z => h (.inl z)
theorem min_is {f : Nat → Int} {N j : Nat} {low mn : Int} (hj : j < N) (fj : f j = low) (all : ∀ k, k < N → low ≤ f k) (hm : mn ∈ (List.range N).map f) (hall : ∀ y, y ∈ (List.range N).map f → mn ≤ y) : mn = low := by
  obtain ⟨k, hk, rfl⟩ := List.mem_map.mp hm
  have h1 := all k (List.mem_range.mp hk)
  have h2 := hall (f j) (List.mem_map.mpr ⟨j, List.mem_range.mpr hj, rfl⟩)
  omega
theorem max_is {f : Nat → Int} {N j : Nat} {high mx : Int} (hj : j < N) (fj : f j = high) (all : ∀ k, k < N → f k ≤ high) (hm : mx ∈ (List.range N).map f) (hall : ∀ y, y ∈ (List.range N).map f → y ≤ mx) : mx = high := by
  obtain ⟨k, hk, rfl⟩ := List.mem_map.mp hm
  have h1 := all k (List.mem_range.mp hk)
  have h2 := hall (f j) (List.mem_map.mpr ⟨j, List.mem_range.mpr hj, rfl⟩)
  omega
theorem r_idx {K : PySem.W.Frag} {H : Hp} {Q : VK} {p : Addr} {f : Nat → Int} {N j : Nat} {x : Int} (h : SqL K H p (((List.range N).map f).map V.int)) (hj : j < N) (fj : f j = x) (no : ∀ m, m < j → f m ≠ x) (q : Q (.int (j : Nat)) H) : rIndex K (.ref p) [.int x] H Q := by
  have at_ : ∀ m, m < N → (((List.range N).map f).map V.int)[m]? = some (.int (f m)) := fun m hm => by
    rw [List.getElem?_map, List.getElem?_map, List.getElem?_range hm]
    rfl
  refine ⟨p, _, .int x, j, .int (f j), rfl, rfl, h, rfl, all_flatI _, at_ j hj, ?_, fun m z' hm hz => ?_, q⟩
  · rw [fj]
    exact beq_self_eq_true x
  · rw [at_ m (by omega)] at hz
    cases hz
    exact beq_eq_false_iff_ne.mpr (no m hm)

def sp_law_lows (K : PySem.W.Frag) : Sp := fun vs H Q _ => ∃ (p : Addr) (f : Nat → Int) (n : Nat), vs = [.ref p] ∧ SqL K H p (((List.range n).map f).map V.int) ∧ n ≤ 2000 ∧ ∀ l H', H l = none → Ex H H' → RwL H' l (recF f n) → Q (.ref l) H'
theorem use_law_lows {K : PySem.W.Frag} {H : Hp} {Q : VK} {E : XK} {p : Addr} {f : Nat → Int} {n : Nat} (h : SqL K H p (((List.range n).map f).map V.int)) (hn : n ≤ 2000) (q : ∀ l H', H l = none → Ex H H' → RwL H' l (recF f n) → Q (.ref l) H') : sp_law_lows K [.ref p] H Q E := ⟨p, f, n, rfl, h, hn, q⟩
abbrev s_law_lows : Stmt := topS 28
abbrev nm_law_lows : List Str := ["left", "found", "place", "low"]
theorem sc_law_lows : FnScope nm_law_lows ["left"] (defScope s_law_lows) := ⟨rfl, rfl, rfl, by decide +kernel, rfl, by decide +kernel, by decide +kernel⟩
theorem st_law_lows {v0 : V} : start nm_law_lows [v0] = [some v0, none, none, none] := rfl
section
variable {P : Program} {w : World} {K : PySem.W.Frag} {mg : Str → Option Value} {base : Heap}
theorem ok_law_lows (D : DefAt K mg "_law_lows" s_law_lows ["left"]) (B_enumerate : mg "enumerate" = none) : Has P w K mg base CX0 2 "_law_lows" ["left"] (sp_law_lows K) := by
  refine D.ok sc_law_lows (by rintro _ _ _ _ ⟨_, _, _, rfl, _⟩; rfl) (fun f cdv A outer s H vs Q E hr h => ?_)
  obtain ⟨p, f, n, rfl, h, hn, q⟩ := h
  refine ⟨_, (pss_cons (ps_set (i := 1) sc_law_lows.nd rfl (Or.inl rfl) (pe_lst pa_nil))
      (pss_cons (ps_for PassesOwn.never rfl (pi_enum (by rfl) B_enumerate (pa_cons (pv 0) pa_nil)) (pg_tup (by rfl) (pgs_cons (pg_name (i := 2) sc_law_lows.nd rfl (Or.inl rfl)) (pgs_cons (pg_name (i := 3) sc_law_lows.nd rfl (Or.inl rfl)) pgs_nil)))
        (pss_one (ps_if (PW.pt (pw_or (pt_cmpR (op_eqD hr.units) (pv 1) (pe_lst pa_nil) (nomark _)) (pw_or1 (pt_cmpR op_lt (pv 3) (pe_ix ix_tup (pe_ix ix_list (pv 1) (pe_un un_neg pe_int) (fun _ _ => rfl)) pe_int (fun _ _ => rfl)) (nomark _))))) (pss_one (ps_expr (pe_bm PySem.F.plainAttrs_list PySem.F.slot_list_append PySem.F.type_list_append mt_append (pv 1) (pa_cons (pe_tup (pa_cons (pv 2) (pa_cons (pv 3) pa_nil))) pa_nil)))) pss_nil)))
      (pss_one (ps_ret (pv 1))))), ?_⟩
  rw [st_law_lows]
  try dsimp only [Cx.nox, Cx.wish, Cx.blk, cx_K]
  walk_at "go"
  rename_i l H1 nl e1 h1
  refine r_iEnum ?_
  walk_at "go"
  refine ⟨p, _, rfl, sql_up e1 h, ?_⟩
  refine for_enum (xs := ((List.range n).map f).map V.int) (fun i σ H' => Ex H H' ∧ ∃ (vs : List V) (o2 o3 : Option V), σ = [some (.ref p), some (.ref l), o2, o3] ∧ H' l = some (.lst vs) ∧ RowsA H' vs (recF f i)) ⟨e1, [], _, _, rfl, h1, trivial⟩ (fun i σ H' hq => sql_up hq.1 h) ?_ ?_
  · rintro i x T σ H2 hx ⟨e2, vs, o2, o3, rfl, hl, R⟩ hT
    have hi : i < n := by
      have := (List.getElem?_eq_some_iff.mp hx).1
      rw [List.length_map, List.length_map, List.length_range] at this
      exact this
    obtain rfl : x = .int (f i) := by
      rw [List.getElem?_map, List.getElem?_map, List.getElem?_range hi] at hx
      exact (Option.some.inj hx).symm
    have e3 : Ex H2 (upd H2 T (.tup [.int (i : Nat), .int (f i)])) := Ex.new hT
    have h3 : upd H2 T (.tup [.int (i : Nat), .int (f i)]) T = some (.tup [.int (i : Nat), .int (f i)]) := upd_same
    generalize upd H2 T (.tup [.int (i : Nat), .int (f i)]) = H3 at *
    have hl3 := e3.at hl
    have R3 := R.ex e3
    obtain ⟨rw1, rw2⟩ := recF_row f i
    have add : ∀ H4, Ex H3 H4 → (recF f i = [] ∨ f i < (lastR (recF f i)).2) → ∀ t5 H5, Ex H4 H5 → H4 t5 = none → H5 t5 = some (.tup [.int (i : Nat), .int (f i)]) → ∀ H6, Kp l H5 H6 → H6 l = some (.lst (vs ++ [.ref t5])) → Ex H H6 ∧ ∃ (vs : List V), H6 l = some (.lst vs) ∧ RowsA H6 vs (recF f (i + 1)) := by
      intro H4 e4 c t5 H5 e5 _ h5 H6 k6 h6
      have e45 := e3.trans (e4.trans e5)
      refine ⟨(e2.trans e45).kpd nl k6, _, h6, ?_⟩
      have : recF f (i + 1) = recF f i ++ [[(i : Int), f i]] := by
        show (if recF f i = [] ∨ f i < (lastR (recF f i)).2 then recF f i ++ [[(i : Int), f i]] else recF f i) = _
        rw [if_pos c]
      rw [this]
      exact RowsA.app (r := [(i : Int), f i]) (k6.tupL (e45.at hl) h5) ((R.ex e45).kpL k6 (e45.at hl))
    walk_at "go"
    rename_i l4 H4 nl4 e4 h4
    refine r_eqR (ys := []) ⟨vs, e4.at hl3, R3.ex e4⟩ ⟨[], h4, trivial⟩ ?_
    walk_at "go"
    refine if_2 (fun hc => ?_) (fun hc => ?_)
    · have hc := of_decide_eq_true hc
      walk_at "go"
      rename_i t5 H5 n5 e5 h5
      refine r_app (e5.at (e4.at hl3)) (by rw [R3.len]; omega) fun H6 k6 h6 => ?_
      walk_at "go"
      obtain ⟨g1, g2, g3, g4⟩ := add H4 e4 (.inl hc) t5 H5 e5 n5 h5 H6 k6 h6
      exact ⟨g1, g2, _, _, rfl, g3, g4⟩
    · have hc := of_decide_eq_false hc
      obtain ⟨k, hg, hk⟩ := recF_last f hc
      obtain ⟨t, ht, ht'⟩ := R3.lastG hg
      have ht4 : H4 t = some (.tup [.int (k : Nat), .int (f k)]) := e4.at ht'
      walk_at "go"
      refine r_ixL (SqL.of (e4.at hl3)) ht ?_
      walk_at "go"
      refine if_2 (fun hd => ?_) (fun hd => ?_)
      · have hd := of_decide_eq_true hd
        walk_at "go"
        rename_i t5 H5 n5 e5 h5
        refine r_app (e5.at (e4.at hl3)) (by rw [R3.len]; omega) fun H6 k6 h6 => ?_
        walk_at "go"
        obtain ⟨g1, g2, g3, g4⟩ := add H4 e4 (.inr (by rw [hk]; exact hd)) t5 H5 e5 n5 h5 H6 k6 h6
        exact ⟨g1, g2, _, _, rfl, g3, g4⟩
      · have hd := of_decide_eq_false hd
        walk_at "go"
        have er : recF f (i + 1) = recF f i := by
          show (if recF f i = [] ∨ f i < (lastR (recF f i)).2 then recF f i ++ [[(i : Int), f i]] else recF f i) = _
          rw [if_neg]
          rintro (z | z)
          · exact hc z
          · rw [hk] at z
            exact hd z
        exact ⟨(e2.trans e3).trans e4, vs, _, _, rfl, e4.at hl3, by rw [er]; exact R3.ex e4⟩
  · rintro σ H2 ⟨e2, vs, o2, o3, rfl, hl, R⟩
    walk_at "go"
    rw [List.length_map, List.length_map, List.length_range] at R
    exact q l _ nl e2 ⟨vs, hl, R⟩

end
def sp_law_runs (K : PySem.W.Frag) : Sp := fun vs H Q _ => ∃ (p : Addr) (ss : List (List Int)), vs = [.ref p] ∧ RwL H p ss ∧ ss ≠ [] ∧ ss.length ≤ 2000 ∧ (∀ r ∈ ss, ∃ x y : Int, r = [x, y]) ∧ ∀ l H', H l = none → Ex H H' → RwL H' l (grpN ss (ss.length - 1)) → Q (.ref l) H'
theorem use_law_runs {K : PySem.W.Frag} {H : Hp} {Q : VK} {E : XK} {p : Addr} {ss : List (List Int)} (h : RwL H p ss) (h0 : ss ≠ []) (hn : ss.length ≤ 2000) (hr : ∀ r ∈ ss, ∃ x y : Int, r = [x, y]) (q : ∀ l H', H l = none → Ex H H' → RwL H' l (grpN ss (ss.length - 1)) → Q (.ref l) H') : sp_law_runs K [.ref p] H Q E := ⟨p, ss, rfl, h, h0, hn, hr, q⟩
abbrev s_law_runs : Stmt := topS 29
abbrev nm_law_runs : List Str := ["some", "runs", "one", "other", "on", "down"]
theorem sc_law_runs : FnScope nm_law_runs ["some"] (defScope s_law_runs) := ⟨rfl, rfl, rfl, by decide +kernel, rfl, by decide +kernel, by decide +kernel⟩
theorem st_law_runs {v0 : V} : start nm_law_runs [v0] = [some v0, none, none, none, none, none] := rfl
section
variable {P : Program} {w : World} {K : PySem.W.Frag} {mg : Str → Option Value} {base : Heap}
theorem ok_law_runs (D : DefAt K mg "_law_runs" s_law_runs ["some"]) (B_zip : mg "zip" = none) : Has P w K mg base CX0 2 "_law_runs" ["some"] (sp_law_runs K) := by
  refine D.ok sc_law_runs (by rintro _ _ _ _ ⟨_, _, rfl, _⟩; rfl) (fun f cdv A outer s H vs Q E hr h => ?_)
  obtain ⟨p, ss, rfl, ⟨ws, hw, W⟩, h0, hn, hr5, q⟩ := h
  have lw := W.len
  have l0 : 0 < ss.length := List.length_pos_iff.mpr h0
  refine ⟨_, (pss_cons (ps_set (i := 1) sc_law_runs.nd rfl (Or.inl rfl) (pe_lst pa_nil))
      (pss_cons (ps_for PassesOwn.never rfl (pi_zip (by rfl) B_zip (pa_cons (pv 0) (pa_cons (pe_slice sl_list (pv 0) (po_some pe_int) po_none) pa_nil))) (pg_tup (by rfl) (pgs_cons (pg_name (i := 2) sc_law_runs.nd rfl (Or.inl rfl)) (pgs_cons (pg_name (i := 3) sc_law_runs.nd rfl (Or.inl rfl)) pgs_nil)))
        (pss_cons (ps_par (i := 4) (j := 5) (by rfl) sc_law_runs.nd rfl rfl (by decide) rfl rfl (pa_cons (pe_op op_sub (pe_ix ix_tup (pv 3) pe_int (fun _ _ => rfl)) (pe_ix ix_tup (pv 2) pe_int (fun _ _ => rfl))) (pa_cons (pe_op op_sub (pe_ix ix_tup (pv 2) pe_int (fun _ _ => rfl)) (pe_ix ix_tup (pv 3) pe_int (fun _ _ => rfl))) pa_nil)) (by rfl))
        (pss_one (ps_if (PW.pt (pw_and (pt_cmpR (op_neD hr.units) (pv 1) (pe_lst pa_nil) (nomark _)) (pw_and1 (pt_cmpR (op_eqD hr.units) (pe_slice sl_tupA (pe_ix ix_list (pv 1) (pe_un un_neg pe_int) (fun _ _ => rfl)) (po_some pe_int) (po_some pe_int)) (pe_tup (pa_cons (pv 4) (pa_cons (pv 5) pa_nil))) (nomark _))))) (pss_one (ps_asg (pe_op op_catA (pe_slice sl_tupA (pe_ix ix_list (pv 1) (pe_un un_neg pe_int) (fun _ _ => rfl)) po_none (po_some pe_int)) (pe_tup (pa_cons (pe_op op_add (pe_ix ix_tup (pe_ix ix_list (pv 1) (pe_un un_neg pe_int) (fun _ _ => rfl)) pe_int (fun _ _ => rfl)) pe_int) pa_nil))) (pg_sub (pv 1) (pe_un un_neg pe_int) set_list))) (pss_one (ps_expr (pe_bm PySem.F.plainAttrs_list PySem.F.slot_list_append PySem.F.type_list_append mt_append (pv 1) (pa_cons (pe_tup (pa_cons (pe_ix ix_tup (pv 2) pe_int (fun _ _ => rfl)) (pa_cons (pe_ix ix_tup (pv 2) pe_int (fun _ _ => rfl)) (pa_cons (pv 4) (pa_cons (pv 5) (pa_cons pe_int pa_nil)))))) pa_nil))))))))
      (pss_one (ps_ret (pv 1))))), ?_⟩
  rw [st_law_runs]
  try dsimp only [Cx.nox, Cx.wish, Cx.blk, cx_K]
  walk_at "go"
  rename_i l H1 nl e1 h1
  refine r_slL (e1.at hw) fun z H2 nz e2 hz => ?_
  rw [cut_1 _ (by omega)] at hz
  have e12 := e1.trans e2
  have hw2 := e12.at hw
  have W2 := W.ex e12
  walk_at "go"
  refine ⟨p, z, _, _, rfl, SqL.of hw2, SqL.of hz, ?_⟩
  refine for_zipM (xs := ws) (ys := ws.drop 1) (n := ss.length - 1) (by rw [List.length_drop]; omega) (fun i σ H' => Ex H H' ∧ H' p = some (.lst ws) ∧ H' z = some (.lst (ws.drop 1)) ∧ RowsA H' ws ss ∧ ∃ (us : List V) (o2 o3 o4 o5 : Option V), σ = [some (.ref p), some (.ref l), o2, o3, o4, o5] ∧ H' l = some (.lst us) ∧ RowsA H' us (grpN ss i)) ⟨e12, hw2, hz, W2, [], _, _, _, _, rfl, e2.at h1, trivial⟩ (fun i σ H' hq => ⟨SqL.of hq.2.1, SqL.of hq.2.2.1⟩) ?_ ?_
  · rintro i x y T σ H3 hi hx hy ⟨e3, hw3, hz3, W3, us, o2, o3, o4, o5, rfl, hl, R⟩ hT
    obtain ⟨t1, r1, rfl, s1, ht1⟩ := W3.get hx
    rw [List.getElem?_drop, Nat.add_comm] at hy
    obtain ⟨t2, r2, rfl, s2, ht2⟩ := W3.get hy
    obtain ⟨x1, y1, rfl⟩ := hr5 _ (List.mem_of_getElem? s1)
    obtain ⟨x2, y2, rfl⟩ := hr5 _ (List.mem_of_getElem? s2)
    have up := grpN_up s1 s2
    obtain ⟨g5, gl⟩ := grpN_row ss i
    generalize grpN ss i = rs at *
    rw [up]
    have e4 : Ex H3 (upd H3 T (.tup [.ref t1, .ref t2])) := Ex.new hT
    have h4 : upd H3 T (.tup [.ref t1, .ref t2]) T = some (.tup [.ref t1, .ref t2]) := upd_same
    generalize upd H3 T (.tup [.ref t1, .ref t2]) = H4 at *
    have ht1 : H4 t1 = some (.tup [.int x1, .int y1]) := e4.at ht1
    have ht2 : H4 t2 = some (.tup [.int x2, .int y2]) := e4.at ht2
    have hl4 := e4.at hl
    have R4 := R.ex e4
    have W4 := W3.ex e4
    have hw4 := e4.at hw3
    have hz4 := e4.at hz3
    have e34 := e3.trans e4
    have npl : p ≠ l := fun z => by
      rw [z, nl] at hw
      cases hw
    have nzl : z ≠ l := fun y => by
      rw [y, h1] at nz
      cases nz
    clear e4 hT hl R W3 hw3 hz3 e3 hx hy s1 s2
    walk_at "go"
    rename_i l5 H5 nl5 e5 h5
    have add : ∀ H6, Ex H5 H6 → (rs = [] ∨ stepOf rs ≠ (x2 - x1, y1 - y2)) → ∀ t7 H7, Ex H6 H7 → H7 t7 = some (.tup [.int x1, .int y1, .int (x2 - x1), .int (y1 - y2), .int 1]) → ∀ H8, Kp l H7 H8 → H8 l = some (.lst (us ++ [.ref t7])) → Ex H H8 ∧ H8 p = some (.lst ws) ∧ H8 z = some (.lst (ws.drop 1)) ∧ RowsA H8 ws ss ∧ ∃ (us : List V), H8 l = some (.lst us) ∧ RowsA H8 us (addR rs x1 y1 x2 y2) := by
      intro H6 e6 c t7 H7 e7 h7 H8 k8 h8
      have e57 := e5.trans (e6.trans e7)
      have hl7 := e57.at hl4
      refine ⟨(e34.trans e57).kpd nl k8, k8 _ _ npl (e57.at hw4), k8 _ _ nzl (e57.at hz4), (W4.ex e57).kpL k8 hl7, _, h8, ?_⟩
      rw [addR_new _ _ _ _ _ c]
      exact RowsA.app (r := [x1, y1, x2 - x1, y1 - y2, 1]) (k8.tupL hl7 h7) ((R4.ex e57).kpL k8 hl7)
    refine r_neR (ys := []) ⟨us, e5.at hl4, R4.ex e5⟩ ⟨[], h5, trivial⟩ ?_
    walk_at "go"
    refine if_2 (fun hc => ?_) (fun hc => ?_)
    · have hc : rs ≠ [] := fun y => by
        rw [y] at hc
        cases hc
      obtain rfl | ⟨is, r, rfl⟩ := List.eq_nil_or_concat rs
      · exact absurd rfl hc
      rw [List.concat_eq_append] at *
      obtain ⟨a, b, c, dd, ee, rfl⟩ := g5 r (List.mem_append.mpr (.inr (List.mem_singleton.mpr rfl)))
      obtain ⟨t, ht, ht'⟩ := R4.lastG (List.getLast?_concat ..)
      have ht' : H4 t = some (.tup [.int a, .int b, .int c, .int dd, .int ee]) := ht'
      have hl5 := e5.at hl4
      have ht5 := e5.at ht'
      walk_at "go"
      refine r_ixL (SqL.of hl5) ht ?_
      walk_at "go"
      refine r_slA ht5 fun q6 H6 e6 h6 => ?_
      have h6 : H6 q6 = some (.tup [.int c, .int dd]) := h6
      walk_at "go"
      rename_i t7 H7 nt7 e7 h7
      refine r_eqT2 (e7.at h6) h7 ?_
      have e67 := e6.trans e7
      clear e6 e7 h6 h7 nt7
      walk_at "go"
      refine if_2 (fun hd => ?_) (fun hd => ?_)
      · have hd := of_decide_eq_true hd
        have hd1 : c = x2 - x1 := (List.cons.inj hd).1
        have hd2 : dd = y1 - y2 := (List.cons.inj (List.cons.inj hd).2).1
        clear hd
        subst hd1 hd2
        have hl7 := e67.at hl5
        have ht7 := e67.at ht5
        walk_at "go"
        refine r_ixL (SqL.of hl7) ht ?_
        walk_at "go"
        rename_i q8 H8 n8 e8 h8
        have hl8 := e8.at hl7
        have ht8 := e8.at ht7
        walk_at "go"
        have ht8 := e8.at ht7
        refine r_ixL (SqL.of hl8) ht ?_
        walk_at "go"
        rename_i t9 H9 n9 e9 h9 t10 H10 n10 e10 h10
        have e410 := e5.trans (e67.trans (e8.trans (e9.trans e10)))
        have hl10 := e410.at hl4
        have lu : 0 < us.length := by
          rw [R4.len, List.length_append]
          exact Nat.succ_pos _
        refine r_setL (k0 := us.length - 1) hl10 (ixN_last lu) ?_
        walk_at "go"
        have R10 : RowsA H10 (us.set (us.length - 1) (.ref t10)) (is ++ [[a, b, x2 - x1, y1 - y2, ee + 1]]) := RowsA.setLast (r' := [a, b, x2 - x1, y1 - y2, ee + 1]) h10 (R4.ex e410)
        have kk : Kp l H10 (upd H10 l (.lst (us.set (us.length - 1) (.ref t10)))) := Kp.upd
        refine ⟨(e34.trans e410).kpd nl kk, kk _ _ npl (e410.at hw4), kk _ _ nzl (e410.at hz4), (W4.ex e410).kpL kk hl10, _, _, _, _, _, rfl, upd_same, ?_⟩
        rw [addR_more _ _ _ _ _ _ _ _ _ _ rfl rfl]
        exact R10.kpL kk hl10
      · have hd := of_decide_eq_false hd
        walk_at "go"
        rename_i t8 H8 nt8 e8 h8
        refine r_app (e8.at (e67.at hl5)) (by rw [R4.len]; omega) fun H9 k9 h9 => ?_
        walk_at "go"
        obtain ⟨f1, f2, f3, f4, us', f5, f6⟩ := add _ e67 (.inr (fun y => hd (by
          rw [stepOf_snoc] at y
          cases y
          rfl))) t8 H8 e8 h8 H9 k9 h9
        exact ⟨f1, f2, f3, f4, us', _, _, _, _, rfl, f5, f6⟩
    · have hc : rs = [] := by
        by_cases y : rs = []
        · exact y
        · rw [decide_eq_false y] at hc
          cases hc
      walk_at "go"
      rename_i t7 H7 nt7 e7 h7
      refine r_app (e7.at (e5.at hl4)) (by rw [R4.len]; omega) fun H8 k8 h8 => ?_
      walk_at "go"
      obtain ⟨f1, f2, f3, f4, us', f5, f6⟩ := add H5 Ex.refl (.inl hc) t7 H7 e7 h7 H8 k8 h8
      exact ⟨f1, f2, f3, f4, us', _, _, _, _, rfl, f5, f6⟩
  · rintro σ H2 ⟨e2, _, _, _, us, o2, o3, o4, o5, rfl, hl, R⟩
    walk_at "go"
    exact q l _ nl e2 ⟨us, hl, R⟩

end
def sp_is_whole (_ : PySem.W.Frag) : Sp := fun vs H Q _ => ∃ i : Int, vs = [.int i] ∧ Q (.bl true) H
theorem use_is_whole {K : PySem.W.Frag} {H : Hp} {Q : VK} {E : XK} {i : Int} (k : Q (.bl true) H) : sp_is_whole K [.int i] H Q E := ⟨i, rfl, k⟩
abbrev s_is_whole : Stmt := topS 5
abbrev nm_is_whole : List Str := ["thing"]
theorem sc_is_whole : FnScope nm_is_whole ["thing"] (defScope s_is_whole) := ⟨rfl, rfl, rfl, by decide +kernel, rfl, by decide +kernel, by decide +kernel⟩
theorem st_is_whole {v0 : V} : start nm_is_whole [v0] = [some v0] := rfl
section
variable {P : Program} {w : World} {K : PySem.W.Frag} {mg : Str → Option Value} {base : Heap}
theorem ok_is_whole (D : DefAt K mg "is_whole" s_is_whole ["thing"]) (B_isinstance : mg "isinstance" = none) (B_int : mg "int" = none) (B_bool : mg "bool" = none) : Has P w K mg base CX0 2 "is_whole" ["thing"] (sp_is_whole K) := by
  refine D.ok sc_is_whole (by rintro _ _ _ _ ⟨_, rfl, _⟩; rfl) (fun f cdv A outer s H vs Q E hr h => ?_)
  obtain ⟨i, rfl, k⟩ := h
  refine ⟨_, (pss_one (ps_ret (pe_and (pe_callB call_isi (by rfl) B_isinstance (by decide +kernel) (pa_cons (pv 0) (pa_cons (pe_bltn (v := .ty "int") (by rfl) B_int (by decide +kernel) rfl) pa_nil))) (pe_one (pe_not (pe_callB call_isi (by rfl) B_isinstance (by decide +kernel) (pa_cons (pv 0) (pa_cons (pe_bltn (v := .ty "bool") (by rfl) B_bool (by decide +kernel) rfl) pa_nil)))))))), ?_⟩
  rw [st_is_whole]
  try dsimp only [Cx.nox, Cx.wish, Cx.blk, cx_K]
  walk_at "go"
  exact k

end
/-- at p stands the stair (a, b, m) -/
def StAt (H : Hp) (p : Addr) (a b m : Int) : Prop := H p = some (.tup [.int a, .int b, .int m])
def sp_is_stair (_ : PySem.W.Frag) : Sp := fun vs H Q _ => ∃ (p : Addr) (a b m : Int), vs = [.ref p] ∧ H p = some (.tup [.int a, .int b, .int m]) ∧ 0 < m ∧ ∀ H', Ex H H' → Q (.bl true) H'
theorem use_is_stair {K : PySem.W.Frag} {H : Hp} {Q : VK} {E : XK} {p : Addr} {a b m : Int} (h : H p = some (.tup [.int a, .int b, .int m])) (hm : 0 < m) (k : ∀ H', Ex H H' → Q (.bl true) H') : sp_is_stair K [.ref p] H Q E := ⟨p, a, b, m, rfl, h, hm, k⟩
abbrev s_is_stair : Stmt := topS 6
abbrev nm_is_stair : List Str := ["thing", "number"]
theorem sc_is_stair : FnScope nm_is_stair ["thing"] (defScope s_is_stair) := ⟨rfl, rfl, rfl, by decide +kernel, rfl, by decide +kernel, by decide +kernel⟩
theorem st_is_stair {v0 : V} : start nm_is_stair [v0] = [some v0, none] := rfl
section
variable {P : Program} {w : World} {K : PySem.W.Frag} {mg : Str → Option Value} {base : Heap}
theorem ok_is_stair (D : DefAt K mg "is_stair" s_is_stair ["thing"]) (B_len : mg "len" = none) (B_isinstance : mg "isinstance" = none) (B_tuple : mg "tuple" = none) (B_all : mg "all" = none) (G_is_whole : Has P w K mg base CX0 2 "is_whole" ["thing"] (sp_is_whole K)) : Has P w K mg base CX0 3 "is_stair" ["thing"] (sp_is_stair K) := by
  refine D.ok sc_is_stair (by rintro _ _ _ _ ⟨_, _, _, _, rfl, _⟩; rfl) (fun f cdv A outer s H vs Q E hr h => ?_)
  obtain ⟨p, a, b, m, rfl, hp, hm, k⟩ := h
  refine ⟨_, (pss_cons (ps_if (PW.pt (pw_or (pt_not (pt_val (pe_callB call_isi (by rfl) B_isinstance (by decide +kernel) (pa_cons (pv 0) (pa_cons (pe_bltn (v := .ty "tuple") (by rfl) B_tuple (by decide +kernel) rfl) pa_nil))))) (pw_or1 (pt_cmpR op_ne (pe_callB cl_len (by rfl) B_len (by decide +kernel) (pa_cons (pv 0) pa_nil)) pe_int (nomark _))))) (pss_one (ps_ret pe_bl)) pss_nil)
      (pss_one (ps_ret (pe_and (pe_callB (cr_all rfl) (by rfl) B_all (by decide +kernel) (pa_cons (pe_lc rfl sc_is_stair.nd (pi_tup (pv 0)) (blkOk_by (own := [("number", 1)]) (N := nm_is_stair) (sc := defScope s_is_stair) (by decide +kernel)) (fun _ _ _ _ _ => (pg_name (i := 1) sc_is_stair.nd rfl (Or.inl rfl))) (fun _ _ _ _ _ => pts_nil) (fun _ _ _ _ _ => (pcall G_is_whole (hr.mono (by decide)) (pa_cons (pv 1) pa_nil)))) pa_nil)) (pe_one (pe_cmpR op_ge (pe_ix ix_tup (pv 0) pe_int (fun _ _ => rfl)) pe_int (nomark _))))))), ?_⟩
  rw [st_is_stair]
  try dsimp only [Cx.nox, Cx.wish, Cx.blk, cx_K]
  walk_at "go"
  refine lc_tupP (fun _ => .bl true) (SqT.of hp) (show 3 ≤ 100000 by decide) (fun _ => rfl) (fun i x hx H1 e1 QE kE => ?_) (fun l H1 nl e1 hl => ?_)
  · obtain ⟨z, rfl⟩ : ∃ z, x = V.int z := by
      match i, hx with
      | 0, hx => exact ⟨_, (Option.some.inj hx).symm⟩
      | 1, hx => exact ⟨_, (Option.some.inj hx).symm⟩
      | 2, hx => exact ⟨_, (Option.some.inj hx).symm⟩
      | _ + 3, hx => simp at hx
    walk_at "go"
    exact use_is_whole (kE _ Ex.refl)
  · walk_at "go"
    refine r_all (bs := [true, true, true]) (SqL.of hl) ?_
    walk_at "go"
    refine if_T rfl ?_
    walk_at "go"
    have q : decide (1 ≤ m) = true := decide_eq_true (by omega)
    rw [q]
    exact k _ e1

end
def sp_need_stair (_ : PySem.W.Frag) : Sp := fun vs H Q _ => ∃ (p : Addr) (a b m : Int), vs = [.ref p] ∧ H p = some (.tup [.int a, .int b, .int m]) ∧ 0 < m ∧ ∀ H', Ex H H' → Q .non H'
theorem use_need_stair {K : PySem.W.Frag} {H : Hp} {Q : VK} {E : XK} {p : Addr} {a b m : Int} (h : H p = some (.tup [.int a, .int b, .int m])) (hm : 0 < m) (k : ∀ H', Ex H H' → Q .non H') : sp_need_stair K [.ref p] H Q E := ⟨p, a, b, m, rfl, h, hm, k⟩
abbrev s_need_stair : Stmt := topS 7
abbrev nm_need_stair : List Str := ["thing"]
theorem sc_need_stair : FnScope nm_need_stair ["thing"] (defScope s_need_stair) := ⟨rfl, rfl, rfl, by decide +kernel, rfl, by decide +kernel, by decide +kernel⟩
theorem st_need_stair {v0 : V} : start nm_need_stair [v0] = [some v0] := rfl
section
variable {P : Program} {w : World} {K : PySem.W.Frag} {mg : Str → Option Value} {base : Heap}
theorem ok_need_stair (D : DefAt K mg "need_stair" s_need_stair ["thing"]) (G_is_stair : Has P w K mg base CX0 3 "is_stair" ["thing"] (sp_is_stair K)) : Has P w K mg base CX0 4 "need_stair" ["thing"] (sp_need_stair K) := by
  refine D.ok sc_need_stair (by rintro _ _ _ _ ⟨_, _, _, _, rfl, _⟩; rfl) (fun f cdv A outer s H vs Q E hr h => ?_)
  obtain ⟨p, a, b, m, rfl, hp, hm, k⟩ := h
  refine ⟨_, (pss_one (ps_if (pt_not (pt_val (pcall G_is_stair (hr.mono (by decide)) (pa_cons (pv 0) pa_nil)))) (pss_one ps_never) pss_nil)), ?_⟩
  rw [st_need_stair]
  try dsimp only [Cx.nox, Cx.wish, Cx.blk, cx_K]
  walk_at "go"
  refine use_is_stair hp hm fun H1 e1 => ?_
  walk_at "go"
  exact k _ e1

end
abbrev COUNTS_BELOW_val : Int := 1000000000000000000000000000000
def sp_need_count (_ : PySem.W.Frag) : Sp := fun vs H Q _ => ∃ (n : Int), vs = [.int n] ∧ 0 ≤ n ∧ n < 1000000000000000000000000000000 ∧ Q .non H
theorem use_need_count {K : PySem.W.Frag} {H : Hp} {Q : VK} {E : XK} {n : Int} (h0 : 0 ≤ n) (h1 : n < 1000000000000000000000000000000) (q : Q .non H) : sp_need_count K [.int n] H Q E := ⟨n, rfl, h0, h1, q⟩
abbrev s_need_count : Stmt := topS 10
abbrev nm_need_count : List Str := ["n"]
theorem sc_need_count : FnScope nm_need_count ["n"] (defScope s_need_count) := ⟨rfl, rfl, rfl, by decide +kernel, rfl, by decide +kernel, by decide +kernel⟩
theorem st_need_count {v0 : V} : start nm_need_count [v0] = [some v0] := rfl
section
variable {P : Program} {w : World} {K : PySem.W.Frag} {mg : Str → Option Value} {base : Heap}
theorem ok_need_count (D : DefAt K mg "need_count" s_need_count ["n"]) (T_COUNTS_BELOW : ∃ t, mg "COUNTS_BELOW" = some (.int COUNTS_BELOW_val t)) : Has P w K mg base CX0 2 "need_count" ["n"] (sp_need_count K) := by
  refine D.ok sc_need_count (by rintro _ _ _ _ ⟨_, rfl, _⟩; rfl) (fun f cdv A outer s H vs Q E hr h => ?_)
  obtain ⟨_, T_COUNTS_BELOW⟩ := T_COUNTS_BELOW
  obtain ⟨n, rfl, h0, h1, q⟩ := h
  refine ⟨_, (pss_one (ps_if (PW.pt (pw_or (pt_cmpR op_lt (pv 0) pe_int (nomark _)) (pw_or1 (pt_cmpR op_ge (pv 0) (pe_glob (v := .int (1000000000000000000000000000000)) rfl T_COUNTS_BELOW ⟨_, rfl⟩) (nomark _))))) (pss_one ps_never) pss_nil)), ?_⟩
  rw [st_need_count]
  try dsimp only [Cx.nox, Cx.wish, Cx.blk, cx_K]
  walk_at "go"
  exact q

end
def sp_need_some (_ : PySem.W.Frag) : Sp := fun vs H Q _ => ∃ (n : Int), vs = [.int n] ∧ 0 < n ∧ n < 1000000000000000000000000000000 ∧ Q .non H
theorem use_need_some {K : PySem.W.Frag} {H : Hp} {Q : VK} {E : XK} {n : Int} (h0 : 0 < n) (h1 : n < 1000000000000000000000000000000) (q : Q .non H) : sp_need_some K [.int n] H Q E := ⟨n, rfl, h0, h1, q⟩
abbrev s_need_some : Stmt := topS 17
abbrev nm_need_some : List Str := ["n"]
theorem sc_need_some : FnScope nm_need_some ["n"] (defScope s_need_some) := ⟨rfl, rfl, rfl, by decide +kernel, rfl, by decide +kernel, by decide +kernel⟩
theorem st_need_some {v0 : V} : start nm_need_some [v0] = [some v0] := rfl
section
variable {P : Program} {w : World} {K : PySem.W.Frag} {mg : Str → Option Value} {base : Heap}
theorem ok_need_some (D : DefAt K mg "need_some" s_need_some ["n"]) (G_need_count : Has P w K mg base CX0 2 "need_count" ["n"] (sp_need_count K)) : Has P w K mg base CX0 3 "need_some" ["n"] (sp_need_some K) := by
  refine D.ok sc_need_some (by rintro _ _ _ _ ⟨_, rfl, _⟩; rfl) (fun f cdv A outer s H vs Q E hr h => ?_)
  obtain ⟨n, rfl, h0, h1, q⟩ := h
  refine ⟨_, (pss_cons (ps_expr (pcall G_need_count (hr.mono (by decide)) (pa_cons (pv 0) pa_nil)))
      (pss_one (ps_if (pt_cmpR op_eq (pv 0) pe_int (nomark _)) (pss_one ps_never) pss_nil))), ?_⟩
  rw [st_need_some]
  try dsimp only [Cx.nox, Cx.wish, Cx.blk, cx_K]
  walk_at "go"
  refine use_need_count (by omega) h1 ?_
  walk_at "go"
  exact q

end
def sp_over_up (_ : PySem.W.Frag) : Sp := fun vs H Q _ => ∃ (t b : Int), vs = [.int t, .int b] ∧ 0 < b ∧ Sz 3000 b ∧ Q (.int (cup t b)) H
theorem use_over_up {K : PySem.W.Frag} {H : Hp} {Q : VK} {E : XK} {t b : Int} (hb : 0 < b) (zb : Sz 3000 b) (q : Q (.int (cup t b)) H) : sp_over_up K [.int t, .int b] H Q E := ⟨t, b, rfl, hb, zb, q⟩
abbrev s_over_up : Stmt := topS 12
abbrev nm_over_up : List Str := ["top", "bottom"]
theorem sc_over_up : FnScope nm_over_up ["top", "bottom"] (defScope s_over_up) := ⟨rfl, rfl, rfl, by decide +kernel, rfl, by decide +kernel, by decide +kernel⟩
theorem st_over_up {v0 v1 : V} : start nm_over_up [v0, v1] = [some v0, some v1] := rfl
section
variable {P : Program} {w : World} {K : PySem.W.Frag} {mg : Str → Option Value} {base : Heap}
theorem ok_over_up (D : DefAt K mg "over_up" s_over_up ["top", "bottom"]) : Has P w K mg base CX0 2 "over_up" ["top", "bottom"] (sp_over_up K) := by
  refine D.ok sc_over_up (by rintro _ _ _ _ ⟨_, _, rfl, _⟩; rfl) (fun f cdv A outer s H vs Q E hr h => ?_)
  obtain ⟨t, b, rfl, hb, zb, q⟩ := h
  refine ⟨_, (pss_one (ps_ret (pe_op op_sub pe_int (pe_op op_fdivW (pe_op op_sub pe_int (pv 0)) (pv 1))))), ?_⟩
  rw [st_over_up]
  try dsimp only [Cx.nox, Cx.wish, Cx.blk, cx_K]
  walk_at "go"
  exact q

end
--@ needs Hit
/-- none or a number -/
def vO : Option Int → V
  | none => .non
  | some k => .int k
theorem vO_some {v : Option Int} {k : Int} (h : v = some k) : vO v = .int k := by rw [h]; rfl

def spF_first_rest (_ : PySem.W.Frag) (j : Nat) : Sp := fun vs H Q _ => ∃ (a m lo hi : Int), vs = [.int a, .int m, .int lo, .int hi] ∧ 0 < m ∧ Sz 2000 m ∧ 0 ≤ lo ∧ lo ≤ hi ∧ hi < m ∧ Trn j a m ∧ ∀ v, FR a m lo hi v → Q (vO v) H
abbrev sp_first_rest (K : PySem.W.Frag) : Sp := spF_first_rest K 290
theorem fb_290 : 1606938044258990275541962092341162602522202993782792835301376 ≤ fb 291 := by
  have h : ∀ k j : Nat, (fun x => x) (fb (j + k)) = fb (j + k) := fun _ _ => rfl
  have e : ∀ k x y : Nat, ∀ j, fb j = x → fb (j + 1) = y → fb (j + k) = (Nat.rec (motive := fun _ => Nat → Nat → Nat) (fun x _ => x) (fun _ ih x y => ih y (x + y)) k : Nat → Nat → Nat) x y := by
    intro k
    induction k with
    | zero => intro x y j h1 _; exact h1
    | succ k ih =>
      intro x y j h1 h2
      have := ih y (x + y) (j + 1) h2 (by
        show fb (j + 1) + fb j = x + y
        omega)
      rw [show j + (k + 1) = j + 1 + k by omega]
      exact this
  have e2 := e 291 0 1 0 rfl rfl
  rw [Nat.zero_add] at e2
  rw [e2]
  decide +kernel
theorem trn_290 {a m : Int} (z : Sz 200 m) : Trn 290 a m := by
  refine .inl ?_
  have h : m.natAbs < 2 ^ 200 := z
  have := fb_290
  show m < ((fb 291 : Nat) : Int)
  omega
theorem use_first_rest {K : PySem.W.Frag} {H : Hp} {Q : VK} {E : XK} {a m lo hi : Int} (hm : 0 < m) (zm : Sz 200 m) (l0 : 0 ≤ lo) (lh : lo ≤ hi) (hh : hi < m) (q : ∀ v, FR a m lo hi v → Q (vO v) H) : sp_first_rest K [.int a, .int m, .int lo, .int hi] H Q E :=
  ⟨a, m, lo, hi, rfl, hm, zm.mono (by decide), l0, lh, hh, trn_290 zm, q⟩
abbrev s_first_rest : Stmt := topS 13
abbrev nm_first_rest : List Str := ["a", "m", "low", "high", "k", "y"]
theorem sc_first_rest : FnScope nm_first_rest ["a", "m", "low", "high"] (defScope s_first_rest) := ⟨rfl, rfl, rfl, by decide +kernel, rfl, by decide +kernel, by decide +kernel⟩
theorem st_first_rest {v0 v1 v2 v3 : V} : start nm_first_rest [v0, v1, v2, v3] = [some v0, some v1, some v2, some v3, none, none] := rfl
section
variable {P : Program} {w : World} {K : PySem.W.Frag} {mg : Str → Option Value} {base : Heap}
theorem step_first_rest {j : Nat} (D : DefAt K mg "first_rest" s_first_rest ["a", "m", "low", "high"]) (G_over_up : Has P w K mg base CX0 2 "over_up" ["top", "bottom"] (sp_over_up K)) (G_self : HasD P w K mg base j "first_rest" ["a", "m", "low", "high"] (spF_first_rest K j)) : HasD P w K mg base (j + 1) "first_rest" ["a", "m", "low", "high"] (spF_first_rest K (j + 1)) := by
  refine D.okD sc_first_rest (by rintro _ _ _ _ ⟨_, _, _, _, rfl, _⟩; rfl) (fun f cdv A outer s H vs Q E hD h => ?_)
  have hr := hD.room
  obtain ⟨a, m, lo, hi, rfl, hm, zm, l0, lh, hh, tr, q⟩ := h
  refine ⟨_, (pss_cons (ps_if (pt_cmpR op_eq (pv 2) pe_int (nomark _)) (pss_one (ps_ret pe_int)) pss_nil)
      (pss_cons (ps_set (i := 0) sc_first_rest.nd rfl (Or.inl rfl) (pe_op op_mod (pv 0) (pv 1)))
      (pss_cons (ps_if (pt_cmpR op_eq (pv 0) pe_int (nomark _)) (pss_one (ps_ret pe_non)) pss_nil)
      (pss_cons (ps_set (i := 4) sc_first_rest.nd rfl (Or.inl rfl) (pcall G_over_up (hr.mono (by decide)) (pa_cons (pv 2) (pa_cons (pv 0) pa_nil))))
      (pss_cons (ps_if (pt_cmpR op_le (pe_op op_mulX (pv 4) (pv 0)) (pv 3) (nomark _)) (pss_one (ps_ret (pv 4))) pss_nil)
      (pss_cons (ps_set (i := 5) sc_first_rest.nd rfl (Or.inl rfl) (pcallD G_self hD (pa_cons (pv 1) (pa_cons (pv 0) (pa_cons (pe_op op_mod (pe_op op_sub pe_int (pv 3)) (pv 0)) (pa_cons (pe_op op_mod (pe_op op_sub pe_int (pv 2)) (pv 0)) pa_nil))))))
      (pss_cons (ps_if (pt_cmpR op_isNn (pv 5) pe_non (nomark _)) (pss_one (ps_ret pe_non)) pss_nil)
      (pss_one (ps_ret (pcall G_over_up (hr.mono (by decide)) (pa_cons (pe_op op_add (pv 2) (pe_op op_mulX (pv 1) (pv 5))) (pa_cons (pv 0) pa_nil)))))))))))), ?_⟩
  rw [st_first_rest]
  try dsimp only [Cx.nox, Cx.wish, Cx.blk, cx_K]
  walk_at "go"
  have zlo : Sz 2000 lo := zm.le (by omega) (by omega)
  refine if_2 (fun h0 => ?_) (fun h0 => ?_)
  · have h0 := of_decide_eq_true h0
    subst h0
    walk_at "go"
    exact q _ (FR_0 (by omega))
  · have h0 := of_decide_eq_false h0
    walk_at "go"
    have r0 := Int.emod_nonneg a (show m ≠ 0 by omega)
    have r1 := Int.emod_lt_of_pos a hm
    refine if_2 (fun h1 => ?_) (fun h1 => ?_)
    · have h1 := of_decide_eq_true h1
      walk_at "go"
      have f := FR_no (m := m) (lo := lo) (hi := hi) (by omega)
      rw [← h1] at f
      exact q _ (FR_mod f)
    · have h1 := of_decide_eq_false h1
      have nx := Trn_next hm tr h1
      generalize hA : a % m = A at *
      have A0 : 0 < A := by omega
      have zA : Sz 2000 A := zm.lt (by omega) r1
      have q' : ∀ v, FR A m lo hi v → Q (vO v) H := fun v f => q v (FR_mod (by rw [hA]; exact f))
      clear q hA tr
      walk_at "go"
      refine use_over_up A0 (zA.mono (by decide)) ?_
      obtain ⟨c0, c1⟩ := cup_b A0 (show 0 < lo by omega)
      have zc : Sz 2000 (cup lo A) := zlo.le (by omega) (by omega)
      walk_at "go"
      refine if_2 (fun h2 => ?_) (fun h2 => ?_)
      · have h2 := of_decide_eq_true h2
        walk_at "go"
        exact q' _ (FR_one A0 (by omega) hh h2)
      · have h2 := of_decide_eq_false h2
        walk_at "go"
        have b0 := Int.emod_nonneg (0 - hi) (show A ≠ 0 by omega)
        have b1 := Int.emod_lt_of_pos (0 - lo) A0
        have bb := turn_bounds A0 (show 0 < lo by omega) lh (show hi < cup lo A * A by omega)
        refine ⟨m, A, _, _, rfl, A0, zA, b0, bb, b1, nx, fun v f => ?_⟩
        have f' := FR_turn A0 hm (show 0 < lo by omega) lh hh (by omega) f
        cases v with
        | none =>
          dsimp only [vO]
          walk_at "go"
          exact q' _ f'
        | some y =>
          have yl := FR_lt A0 f
          have y0 := f.1
          have zy : Sz 2000 y := zA.lt y0 yl
          dsimp only [vO]
          walk_at "go"
          refine use_over_up A0 (zA.mono (by decide)) ?_
          walk_at "go"
          exact q' _ f'

theorem ok_first_rest (D : DefAt K mg "first_rest" s_first_rest ["a", "m", "low", "high"]) (G_over_up : Has P w K mg base CX0 2 "over_up" ["top", "bottom"] (sp_over_up K)) : Has P w K mg base CX0 111 "first_rest" ["a", "m", "low", "high"] (sp_first_rest K) := by
  have all : ∀ j, HasD P w K mg base j "first_rest" ["a", "m", "low", "high"] (spF_first_rest K j) := by
    intro j
    induction j with
    | zero => exact D.none (by
        rintro _ _ _ _ ⟨a, m, lo, hi, _, hm, _, _, _, _, t, _⟩
        exact Trn_0 hm t)
    | succ j ih => exact step_first_rest D G_over_up ih
  exact (all 290).has (by decide)
end
def sp_first_of (_ : PySem.W.Frag) : Sp := fun vs H Q _ => ∃ (p : Addr) (a b m lo hi : Int), vs = [.ref p, .int lo, .int hi] ∧ H p = some (.tup [.int a, .int b, .int m]) ∧ 0 < m ∧ Sz 200 m ∧ 0 ≤ lo ∧ lo ≤ hi ∧ hi ≤ m ∧ ∀ v, FH a b m lo hi v → Q (vO v) H
theorem use_first_of {K : PySem.W.Frag} {H : Hp} {Q : VK} {E : XK} {p : Addr} {a b m lo hi : Int} (hp : H p = some (.tup [.int a, .int b, .int m])) (hm : 0 < m) (zm : Sz 200 m) (l0 : 0 ≤ lo) (lh : lo ≤ hi) (hh : hi ≤ m) (q : ∀ v, FH a b m lo hi v → Q (vO v) H) : sp_first_of K [.ref p, .int lo, .int hi] H Q E :=
  ⟨p, a, b, m, lo, hi, rfl, hp, hm, zm, l0, lh, hh, q⟩
abbrev s_first_of : Stmt := topS 14
abbrev nm_first_of : List Str := ["stair", "low", "high", "a", "b", "m"]
theorem sc_first_of : FnScope nm_first_of ["stair", "low", "high"] (defScope s_first_of) := ⟨rfl, rfl, rfl, by decide +kernel, rfl, by decide +kernel, by decide +kernel⟩
theorem st_first_of {v0 v1 v2 : V} : start nm_first_of [v0, v1, v2] = [some v0, some v1, some v2, none, none, none] := rfl
section
variable {P : Program} {w : World} {K : PySem.W.Frag} {mg : Str → Option Value} {base : Heap}
theorem ok_first_of (D : DefAt K mg "first_of" s_first_of ["stair", "low", "high"]) (G_first_rest : Has P w K mg base CX0 111 "first_rest" ["a", "m", "low", "high"] (sp_first_rest K)) : Has P w K mg base CX0 112 "first_of" ["stair", "low", "high"] (sp_first_of K) := by
  refine D.ok sc_first_of (by rintro _ _ _ _ ⟨_, _, _, _, _, _, rfl, _⟩; rfl) (fun f cdv A outer s H vs Q E hr h => ?_)
  obtain ⟨p, a, b, m, lo, hi, rfl, hp, hm, zm, l0, lh, hh, q⟩ := h
  refine ⟨_, (pss_cons (ps_asg (pv 0) (pg_tup (by rfl) (pgs_cons (pg_name (i := 3) sc_first_of.nd rfl (Or.inl rfl)) (pgs_cons (pg_name (i := 4) sc_first_of.nd rfl (Or.inl rfl)) (pgs_cons (pg_name (i := 5) sc_first_of.nd rfl (Or.inl rfl)) pgs_nil)))))
      (pss_cons (ps_if (pt_cmpR op_eq (pv 1) (pv 2) (nomark _)) (pss_one (ps_ret pe_non)) pss_nil)
      (pss_cons (ps_if (pt_chain op_le op_lt (pv 1) (pe_op op_mod (pv 4) (pv 5)) (pv 2)) (pss_one (ps_ret pe_int)) pss_nil)
      (pss_one (ps_ret (pcall G_first_rest (hr.mono (by decide)) (pa_cons (pv 3) (pa_cons (pv 5) (pa_cons (pe_op op_mod (pe_op op_sub (pv 1) (pv 4)) (pv 5)) (pa_cons (pe_op op_mod (pe_op op_sub (pe_op op_sub (pv 2) pe_int) (pv 4)) (pv 5)) pa_nil)))))))))), ?_⟩
  rw [st_first_of]
  try dsimp only [Cx.nox, Cx.wish, Cx.blk, cx_K]
  walk_at "go"
  refine if_2 (fun h0 => ?_) (fun h0 => ?_)
  · have h0 := of_decide_eq_true h0
    subst h0
    walk_at "go"
    exact q none (FH_same a b m lo)
  · have h0 := of_decide_eq_false h0
    walk_at "go"
    by_cases hin : lo ≤ b % m ∧ b % m < hi
    · rw [decide_eq_true hin.1]
      refine if_T rfl ?_
      walk_at "go"
      exact q (some 0) (FH_0 hin.1 hin.2)
    · have tail : ∀ v, FR a m ((lo - b) % m) ((hi - 1 - b) % m) v → Q (vO v) H := fun v f => q v (FH_of hm l0 (by omega) hh hin f)
      obtain ⟨g1, g2, g3⟩ := rest_bounds hm l0 (show lo < hi by omega) hh hin
      refine if_2 (fun h1 => ?_) (fun h1 => ?_)
      · have h1 := of_decide_eq_true h1
        walk_at "go"
        refine use_first_rest hm zm (by omega) g2 g3 fun v f => ?_
        exact tail v f
      · walk_at "go"
        refine use_first_rest hm zm (by omega) g2 g3 fun v f => ?_
        exact tail v f

end
def sp_next_of (_ : PySem.W.Frag) : Sp := fun vs H Q _ => ∃ (p : Addr) (a b m lo hi k : Int), vs = [.ref p, .int lo, .int hi, .int k] ∧ H p = some (.tup [.int a, .int b, .int m]) ∧ 0 < m ∧ Sz 3000 a ∧ Sz 3000 k ∧ Sz 200 m ∧ 0 ≤ lo ∧ lo ≤ hi ∧ hi ≤ m ∧ ∀ v H', Ex H H' → FH a (a * k + b) m lo hi v → Q (vO (v.map (k + ·))) H'
theorem use_next_of {K : PySem.W.Frag} {H : Hp} {Q : VK} {E : XK} {p : Addr} {a b m lo hi k : Int} (hp : H p = some (.tup [.int a, .int b, .int m])) (hm : 0 < m) (za : Sz 3000 a) (zk : Sz 3000 k) (zm : Sz 200 m) (l0 : 0 ≤ lo) (lh : lo ≤ hi) (hh : hi ≤ m) (q : ∀ v H', Ex H H' → FH a (a * k + b) m lo hi v → Q (vO (v.map (k + ·))) H') : sp_next_of K [.ref p, .int lo, .int hi, .int k] H Q E :=
  ⟨p, a, b, m, lo, hi, k, rfl, hp, hm, za, zk, zm, l0, lh, hh, q⟩
abbrev s_next_of : Stmt := topS 15
abbrev nm_next_of : List Str := ["stair", "low", "high", "k", "a", "b", "m", "found"]
theorem sc_next_of : FnScope nm_next_of ["stair", "low", "high", "k"] (defScope s_next_of) := ⟨rfl, rfl, rfl, by decide +kernel, rfl, by decide +kernel, by decide +kernel⟩
theorem st_next_of {v0 v1 v2 v3 : V} : start nm_next_of [v0, v1, v2, v3] = [some v0, some v1, some v2, some v3, none, none, none, none] := rfl
section
variable {P : Program} {w : World} {K : PySem.W.Frag} {mg : Str → Option Value} {base : Heap}
theorem ok_next_of (D : DefAt K mg "next_of" s_next_of ["stair", "low", "high", "k"]) (G_first_of : Has P w K mg base CX0 112 "first_of" ["stair", "low", "high"] (sp_first_of K)) : Has P w K mg base CX0 113 "next_of" ["stair", "low", "high", "k"] (sp_next_of K) := by
  refine D.ok sc_next_of (by rintro _ _ _ _ ⟨_, _, _, _, _, _, _, rfl, _⟩; rfl) (fun f cdv A outer s H vs Q E hr h => ?_)
  obtain ⟨p, a, b, m, lo, hi, k, rfl, hp, hm, za, zk, zm, l0, lh, hh, q⟩ := h
  refine ⟨_, (pss_cons (ps_asg (pv 0) (pg_tup (by rfl) (pgs_cons (pg_name (i := 4) sc_next_of.nd rfl (Or.inl rfl)) (pgs_cons (pg_name (i := 5) sc_next_of.nd rfl (Or.inl rfl)) (pgs_cons (pg_name (i := 6) sc_next_of.nd rfl (Or.inl rfl)) pgs_nil)))))
      (pss_cons (ps_set (i := 7) sc_next_of.nd rfl (Or.inl rfl) (pcall G_first_of (hr.mono (by decide)) (pa_cons (pe_tup (pa_cons (pv 4) (pa_cons (pe_op op_add (pe_op op_mulX (pv 4) (pv 3)) (pv 5)) (pa_cons (pv 6) pa_nil)))) (pa_cons (pv 1) (pa_cons (pv 2) pa_nil)))))
      (pss_cons (ps_if (pt_cmpR op_isNn (pv 7) pe_non (nomark _)) (pss_one (ps_ret pe_non)) pss_nil)
      (pss_one (ps_ret (pe_op op_add (pv 3) (pv 7))))))), ?_⟩
  rw [st_next_of]
  try dsimp only [Cx.nox, Cx.wish, Cx.blk, cx_K]
  walk_at "go"
  rename_i t1 H1 n1 e1 h1
  refine use_first_of h1 hm zm l0 lh hh fun v f => ?_
  have q' := q v H1 e1 f
  cases v with
  | none =>
    dsimp only [vO]
    walk_at "go"
    exact q'
  | some y =>
    dsimp only [vO]
    walk_at "go"
    exact q'

end
def sp_runs_of (_ : PySem.W.Frag) : Sp := fun vs H Q _ => ∃ (p : Addr) (a b m n : Int), vs = [.ref p, .int n] ∧ H p = some (.tup [.int a, .int b, .int m]) ∧ 0 < m ∧ Sz 3000 a ∧ Sz 2500 b ∧ Sz 200 m ∧ 0 < n ∧ n < 1000000000000000000000000000000 ∧
  ∀ l rs place low H', H l = none → Ex H H' → RwL H' l rs → RunsP a b m n rs → endOf b m rs = (place, low) → Least a b m n low place → rs.length ≤ 200 → Q (.ref l) H'
theorem use_runs_of {K : PySem.W.Frag} {H : Hp} {Q : VK} {E : XK} {p : Addr} {a b m n : Int} (hp : H p = some (.tup [.int a, .int b, .int m])) (hm : 0 < m) (za : Sz 3000 a) (zb : Sz 2500 b) (zm : Sz 200 m) (n0 : 0 < n) (n1 : n < 1000000000000000000000000000000)
  (q : ∀ l rs place low H', H l = none → Ex H H' → RwL H' l rs → RunsP a b m n rs → endOf b m rs = (place, low) → Least a b m n low place → rs.length ≤ 200 → Q (.ref l) H') : sp_runs_of K [.ref p, .int n] H Q E := ⟨p, a, b, m, n, rfl, hp, hm, za, zb, zm, n0, n1, q⟩
abbrev s_runs_of : Stmt := topS 18
abbrev nm_runs_of : List Str := ["stair", "n", "a", "b", "m", "found", "place", "low", "there", "on", "down", "times"]
theorem sc_runs_of : FnScope nm_runs_of ["stair", "n"] (defScope s_runs_of) := ⟨rfl, rfl, rfl, by decide +kernel, rfl, by decide +kernel, by decide +kernel⟩
theorem st_runs_of {v0 v1 : V} : start nm_runs_of [v0, v1] = [some v0, some v1, none, none, none, none, none, none, none, none, none, none] := rfl
section
variable {P : Program} {w : World} {K : PySem.W.Frag} {mg : Str → Option Value} {base : Heap}
theorem ok_runs_of (D : DefAt K mg "runs_of" s_runs_of ["stair", "n"]) (B_min : mg "min" = none) (G_next_of : Has P w K mg base CX0 113 "next_of" ["stair", "low", "high", "k"] (sp_next_of K)) : Has P w K mg base CX0 114 "runs_of" ["stair", "n"] (sp_runs_of K) := by
  refine D.ok sc_runs_of (by rintro _ _ _ _ ⟨_, _, _, _, _, rfl, _⟩; rfl) (fun f cdv A outer s H vs Q E hr h => ?_)
  obtain ⟨p, a, b, m, n, rfl, hp, hm, za, zb, zm, n0, n1, q⟩ := h
  have zn : Sz 200 n := by
    show n.natAbs < 2 ^ 200
    omega
  have m2 : m < 2 ^ 200 := by
    have h : m.natAbs < 2 ^ 200 := zm
    omega
  have b0 := Int.emod_nonneg b (show m ≠ 0 by omega)
  have b1 := Int.emod_lt_of_pos b hm
  refine ⟨_, (pss_cons (ps_asg (pv 0) (pg_tup (by rfl) (pgs_cons (pg_name (i := 2) sc_runs_of.nd rfl (Or.inl rfl)) (pgs_cons (pg_name (i := 3) sc_runs_of.nd rfl (Or.inl rfl)) (pgs_cons (pg_name (i := 4) sc_runs_of.nd rfl (Or.inl rfl)) pgs_nil)))))
      (pss_cons (ps_set (i := 5) sc_runs_of.nd rfl (Or.inl rfl) (pe_lst pa_nil))
      (pss_cons (ps_set (i := 6) sc_runs_of.nd rfl (Or.inl rfl) pe_int)
      (pss_cons (ps_set (i := 7) sc_runs_of.nd rfl (Or.inl rfl) (pe_op op_mod (pv 3) (pv 4)))
      (pss_cons (ps_set (i := 8) sc_runs_of.nd rfl (Or.inl rfl) (pcall G_next_of (hr.mono (by decide)) (pa_cons (pv 0) (pa_cons pe_int (pa_cons (pv 7) (pa_cons pe_int pa_nil))))))
      (pss_cons (ps_while PassesOwn.never (PW.pt (pw_and (pt_cmpR op_notNn (pv 8) pe_non (nomark _)) (pw_and1 (pt_cmpR op_lt (pv 8) (pv 1) (nomark _))))) (pss_cons (ps_set (i := 9) sc_runs_of.nd rfl (Or.inl rfl) (pe_op op_sub (pv 8) (pv 6)))
        (pss_cons (ps_set (i := 10) sc_runs_of.nd rfl (Or.inl rfl) (pe_op op_sub (pv 7) (pe_op op_mod (pe_op op_add (pe_op op_mulX (pv 2) (pv 8)) (pv 3)) (pv 4))))
        (pss_cons (ps_set (i := 11) sc_runs_of.nd rfl (Or.inl rfl) (pe_callB (cl_min2 rfl) (by rfl) B_min (by decide +kernel) (pa_cons (pe_op op_fdivW (pv 7) (pv 10)) (pa_cons (pe_op op_fdivW (pe_op op_sub (pe_op op_sub (pv 1) pe_int) (pv 6)) (pv 9)) pa_nil))))
        (pss_cons (ps_expr (pe_bm PySem.F.plainAttrs_list PySem.F.slot_list_append PySem.F.type_list_append mt_append (pv 5) (pa_cons (pe_tup (pa_cons (pv 6) (pa_cons (pv 7) (pa_cons (pv 9) (pa_cons (pv 10) (pa_cons (pv 11) pa_nil)))))) pa_nil)))
        (pss_cons (ps_aug (i := 6) sc_runs_of.nd rfl (Or.inl rfl) (pe_op op_mulX (pv 9) (pv 11)) ip_add)
        (pss_cons (ps_aug (i := 7) sc_runs_of.nd rfl (Or.inl rfl) (pe_op op_mulX (pv 10) (pv 11)) ip_sub)
        (pss_one (ps_set (i := 8) sc_runs_of.nd rfl (Or.inl rfl) (pcall G_next_of (hr.mono (by decide)) (pa_cons (pv 0) (pa_cons pe_int (pa_cons (pv 7) (pa_cons (pv 6) pa_nil))))))))))))))
      (pss_one (ps_ret (pv 5))))))))), ?_⟩
  rw [st_runs_of]
  try dsimp only [Cx.nox, Cx.wish, Cx.blk, cx_K]
  walk_at "go"
  rename_i l H1 nl e1 h1
  refine use_next_of (e1.at hp) hm za (Sz.mono (n := 200) Sz.lit (by decide)) zm (by decide) b0 (by omega) fun v H2 e2 f => ?_
  walk_at "go"
  refine while_m (fun μ σ H' => Ex H H' ∧ ∃ (vs : List V) (rs : List (List Int)) (place low : Int) (v : Option Int) (o9 o10 o11 : Option V), σ = [some (.ref p), some (.int n), some (.int a), some (.int b), some (.int m), some (.ref l), some (.int place), some (.int low), some (vO (v.map (place + ·))), o9, o10, o11] ∧ H' l = some (.lst vs) ∧ RowsA H' vs rs ∧
    Lst a b m n rs place low ∧ FH a (a * place + b) m 0 low v ∧ rs.length ≤ 200 ∧ μ = 200 - rs.length)
    200 ⟨e1.trans e2, [], [], 0, b % m, v, _, _, _, rfl, e2.at h1, trivial, Lst.new hm m2 n0, f, by decide, rfl⟩ ?_
  rintro μ σ H4 ⟨e4, vs, rs, place, low, v, o9, o10, o11, rfl, hl4, R4, L, f, len, rfl⟩
  cases v with
  | none =>
    rw [show vO (Option.map (fun x => place + x) none) = V.non from rfl]
    walk_at "go"
    exact q l rs place low _ nl e4 ⟨vs, hl4, R4⟩ L.R L.e (L.none hm fun y y0 _ => f y y0) len
  | some y =>
    rw [show vO (Option.map (fun x => place + x) (some y)) = V.int (place + y) from rfl]
    walk_at "go"
    refine if_2 (fun ht => ?_) (fun ht => ?_)
    · have ht := of_decide_eq_true ht
      obtain ⟨len2, y1, dn1, st⟩ := L.step hm f ht
      have st := st _ _ rfl rfl
      generalize hd : low - rst a b m (place + y) = dn at *
      generalize htm : min (low / dn) ((n - 1 - place) / y) = tm at *
      obtain ⟨t1, dl, pn, L'⟩ := st
      have p0 := L.p0
      have lo0 := (rst_b a b place hm).1
      have lo1 := (rst_b a b place hm).2
      rw [L.r] at lo0 lo1
      have ry0 := (rst_b a b (place + y) hm).1
      have zp : Sz 200 place := zn.le (by omega) (by omega)
      have zlow : Sz 200 low := zm.le (by omega) (by omega)
      have zy : Sz 200 y := zn.le (by omega) (by omega)
      have zdn : Sz 200 dn := zm.le (by omega) (by omega)
      have ztm : Sz 200 tm := by
        have h1 : low / dn ≤ low := Int.ediv_le_self _ lo0
        exact zm.le (by omega) (by omega)
      have eq1 : place + y - place = y := by omega
      have eq2 : low - (a * (place + y) + b) % m = dn := hd
      refine r_body (fun σ H' => Ex H H' ∧ ∃ (vs : List V) (rs' : List (List Int)) (place low : Int) (v : Option Int) (o9 o10 o11 : Option V), σ = [some (.ref p), some (.int n), some (.int a), some (.int b), some (.int m), some (.ref l), some (.int place), some (.int low), some (vO (v.map (place + ·))), o9, o10, o11] ∧ H' l = some (.lst vs) ∧ RowsA H' vs rs' ∧
        Lst a b m n rs' place low ∧ FH a (a * place + b) m 0 low v ∧ rs'.length = rs.length + 1) ?_ ?_
      · rintro σ' H' ⟨e, vs, rs', place, low, v, o9, o10, o11, rfl, g1, g2, g3, g4, g5⟩
        exact ⟨200 - rs'.length, by omega, e, vs, rs', place, low, v, o9, o10, o11, rfl, g1, g2, g3, g4, by omega, rfl⟩
      walk_at "go"
      rw [eq1]
      walk_at "go"
      rw [eq2]
      walk_at "go"
      rw [htm]
      walk_at "go"
      rename_i t6 H6 n6 e6 h6
      rw [eq1, eq2, htm] at h6
      have hl6 := e6 _ _ hl4
      have R6 := R4.ex e6
      refine r_app hl6 (by rw [R6.len]; omega) fun H7 k7 h7 => ?_
      have R7 : RowsA H7 (vs ++ [.ref t6]) (rs ++ [[place, low, y, dn, tm]]) := RowsA.app (r := [place, low, y, dn, tm]) (k7.tupL hl6 h6) (R6.kpL k7 hl6)
      have e7 : Ex H H7 := (e4.trans e6).kpd nl k7
      clear e6 R6 hl6 h6 k7 n6
      walk_at "go"
      have zp2 : Sz 200 (place + y * tm) := by
        have := Int.mul_nonneg (show 0 ≤ y by omega) (show 0 ≤ tm by omega)
        exact zn.le (by omega) (by omega)
      have l2 : 0 ≤ low - dn * tm := by omega
      have l3 : low - dn * tm ≤ low := by
        have := Int.mul_nonneg (show 0 ≤ dn by omega) (show 0 ≤ tm by omega)
        omega
      walk_at "go"
      refine use_next_of (e7.at hp) hm za (zp2.mono (by decide)) zm (by decide) l2 (by omega) fun v H8 e8 f8 => ?_
      walk_at "go"
      exact ⟨e7.trans e8, _, _, _, _, v, _, _, _, rfl, e8 _ _ h7, R7.ex e8, L', f8, by rw [List.length_append]; rfl⟩
    · have ht := of_decide_eq_false ht
      walk_at "go"
      exact q l rs place low _ nl e4 ⟨vs, hl4, R4⟩ L.R L.e (L.none hm fun j j0 jn => f.2.2 j j0 (by omega)) len

end
def sp_lows (_ : PySem.W.Frag) : Sp := fun vs H Q _ => ∃ (p : Addr) (a b m n : Int), vs = [.ref p, .int n] ∧ H p = some (.tup [.int a, .int b, .int m]) ∧ 0 < m ∧ Sz 3000 a ∧ Sz 2500 b ∧ Sz 200 m ∧ 0 < n ∧ n < 1000000000000000000000000000000 ∧
  ∀ l rs place low H', H l = none → Ex H H' → RwL H' l rs → RunsP a b m n rs → endOf b m rs = (place, low) → Least a b m n low place → rs.length ≤ 200 → Q (.ref l) H'
theorem use_lows {K : PySem.W.Frag} {H : Hp} {Q : VK} {E : XK} {p : Addr} {a b m n : Int} (hp : H p = some (.tup [.int a, .int b, .int m])) (hm : 0 < m) (za : Sz 3000 a) (zb : Sz 2500 b) (zm : Sz 200 m) (n0 : 0 < n) (n1 : n < 1000000000000000000000000000000)
  (q : ∀ l rs place low H', H l = none → Ex H H' → RwL H' l rs → RunsP a b m n rs → endOf b m rs = (place, low) → Least a b m n low place → rs.length ≤ 200 → Q (.ref l) H') : sp_lows K [.ref p, .int n] H Q E := ⟨p, a, b, m, n, rfl, hp, hm, za, zb, zm, n0, n1, q⟩
abbrev s_lows : Stmt := topS 19
abbrev nm_lows : List Str := ["stair", "n"]
theorem sc_lows : FnScope nm_lows ["stair", "n"] (defScope s_lows) := ⟨rfl, rfl, rfl, by decide +kernel, rfl, by decide +kernel, by decide +kernel⟩
theorem st_lows {v0 v1 : V} : start nm_lows [v0, v1] = [some v0, some v1] := rfl
section
variable {P : Program} {w : World} {K : PySem.W.Frag} {mg : Str → Option Value} {base : Heap}
theorem ok_lows (D : DefAt K mg "lows" s_lows ["stair", "n"]) (G_need_stair : Has P w K mg base CX0 4 "need_stair" ["thing"] (sp_need_stair K)) (G_need_some : Has P w K mg base CX0 3 "need_some" ["n"] (sp_need_some K)) (G_runs_of : Has P w K mg base CX0 114 "runs_of" ["stair", "n"] (sp_runs_of K)) : Has P w K mg base CX0 115 "lows" ["stair", "n"] (sp_lows K) := by
  refine D.ok sc_lows (by rintro _ _ _ _ ⟨_, _, _, _, _, rfl, _⟩; rfl) (fun f cdv A outer s H vs Q E hr h => ?_)
  obtain ⟨p, a, b, m, n, rfl, hp, hm, za, zb, zm, n0, n1, q⟩ := h
  refine ⟨_, (pss_cons (ps_expr (pcall G_need_stair (hr.mono (by decide)) (pa_cons (pv 0) pa_nil)))
      (pss_cons (ps_expr (pcall G_need_some (hr.mono (by decide)) (pa_cons (pv 1) pa_nil)))
      (pss_one (ps_ret (pcall G_runs_of (hr.mono (by decide)) (pa_cons (pv 0) (pa_cons (pv 1) pa_nil))))))), ?_⟩
  rw [st_lows]
  try dsimp only [Cx.nox, Cx.wish, Cx.blk, cx_K]
  walk_at "go"
  refine use_need_stair hp hm fun H1 e1 => ?_
  walk_at "go"
  refine use_need_some n0 n1 ?_
  walk_at "go"
  refine use_runs_of (e1.at hp) hm za zb zm n0 n1 fun l rs place low H2 nl e2 R P e L len => ?_
  walk_at "go"
  exact q l rs place low H2 (free_back e1 nl) (e1.trans e2) R P e L len

end
def sp_law_whole (_ : PySem.W.Frag) : Sp := fun vs H Q _ => ∃ i : Int, vs = [.int i] ∧ Q (.bl true) H
theorem use_law_whole {K : PySem.W.Frag} {H : Hp} {Q : VK} {E : XK} {i : Int} (k : Q (.bl true) H) : sp_law_whole K [.int i] H Q E := ⟨i, rfl, k⟩
abbrev s_law_whole : Stmt := topS 27
abbrev nm_law_whole : List Str := ["thing"]
theorem sc_law_whole : FnScope nm_law_whole ["thing"] (defScope s_law_whole) := ⟨rfl, rfl, rfl, by decide +kernel, rfl, by decide +kernel, by decide +kernel⟩
theorem st_law_whole {v0 : V} : start nm_law_whole [v0] = [some v0] := rfl
section
variable {P : Program} {w : World} {K : PySem.W.Frag} {mg : Str → Option Value} {base : Heap}
theorem ok_law_whole (D : DefAt K mg "_law_whole" s_law_whole ["thing"]) (B_isinstance : mg "isinstance" = none) (B_int : mg "int" = none) (B_bool : mg "bool" = none) : Has P w K mg base CX0 2 "_law_whole" ["thing"] (sp_law_whole K) := by
  refine D.ok sc_law_whole (by rintro _ _ _ _ ⟨_, rfl, _⟩; rfl) (fun f cdv A outer s H vs Q E hr h => ?_)
  obtain ⟨i, rfl, k⟩ := h
  refine ⟨_, (pss_one (ps_ret (pe_and (pe_callB call_isi (by rfl) B_isinstance (by decide +kernel) (pa_cons (pv 0) (pa_cons (pe_bltn (v := .ty "int") (by rfl) B_int (by decide +kernel) rfl) pa_nil))) (pe_one (pe_not (pe_callB call_isi (by rfl) B_isinstance (by decide +kernel) (pa_cons (pv 0) (pa_cons (pe_bltn (v := .ty "bool") (by rfl) B_bool (by decide +kernel) rfl) pa_nil)))))))), ?_⟩
  rw [st_law_whole]
  try dsimp only [Cx.nox, Cx.wish, Cx.blk, cx_K]
  walk_at "go"
  exact k

end
def sp_lowest (_ : PySem.W.Frag) : Sp := fun vs H Q _ => ∃ (p : Addr) (a b m n : Int), vs = [.ref p, .int n] ∧ H p = some (.tup [.int a, .int b, .int m]) ∧ 0 < m ∧ Sz 3000 a ∧ Sz 2500 b ∧ Sz 200 m ∧ 0 < n ∧ n < 1000000000000000000000000000000 ∧
  ∀ t place low H', Ex H H' → H' t = some (.tup [.int low, .int place]) → Least a b m n low place → Q (.ref t) H'
theorem use_lowest {K : PySem.W.Frag} {H : Hp} {Q : VK} {E : XK} {p : Addr} {a b m n : Int} (hp : H p = some (.tup [.int a, .int b, .int m])) (hm : 0 < m) (za : Sz 3000 a) (zb : Sz 2500 b) (zm : Sz 200 m) (n0 : 0 < n) (n1 : n < 1000000000000000000000000000000)
  (q : ∀ t place low H', Ex H H' → H' t = some (.tup [.int low, .int place]) → Least a b m n low place → Q (.ref t) H') : sp_lowest K [.ref p, .int n] H Q E := ⟨p, a, b, m, n, rfl, hp, hm, za, zb, zm, n0, n1, q⟩
abbrev s_lowest : Stmt := topS 20
abbrev nm_lowest : List Str := ["stair", "n", "found", "place", "low", "on", "down", "times"]
theorem sc_lowest : FnScope nm_lowest ["stair", "n"] (defScope s_lowest) := ⟨rfl, rfl, rfl, by decide +kernel, rfl, by decide +kernel, by decide +kernel⟩
theorem st_lowest {v0 v1 : V} : start nm_lowest [v0, v1] = [some v0, some v1, none, none, none, none, none, none] := rfl
section
variable {P : Program} {w : World} {K : PySem.W.Frag} {mg : Str → Option Value} {base : Heap}
theorem ok_lowest (D : DefAt K mg "lowest" s_lowest ["stair", "n"]) (G_need_stair : Has P w K mg base CX0 4 "need_stair" ["thing"] (sp_need_stair K)) (G_need_some : Has P w K mg base CX0 3 "need_some" ["n"] (sp_need_some K)) (G_runs_of : Has P w K mg base CX0 114 "runs_of" ["stair", "n"] (sp_runs_of K)) : Has P w K mg base CX0 115 "lowest" ["stair", "n"] (sp_lowest K) := by
  refine D.ok sc_lowest (by rintro _ _ _ _ ⟨_, _, _, _, _, rfl, _⟩; rfl) (fun f cdv A outer s H vs Q E hr h => ?_)
  obtain ⟨p, a, b, m, n, rfl, hp, hm, za, zb, zm, n0, n1, q⟩ := h
  refine ⟨_, (pss_cons (ps_expr (pcall G_need_stair (hr.mono (by decide)) (pa_cons (pv 0) pa_nil)))
      (pss_cons (ps_expr (pcall G_need_some (hr.mono (by decide)) (pa_cons (pv 1) pa_nil)))
      (pss_cons (ps_set (i := 2) sc_lowest.nd rfl (Or.inl rfl) (pcall G_runs_of (hr.mono (by decide)) (pa_cons (pv 0) (pa_cons (pv 1) pa_nil))))
      (pss_cons (ps_if (pt_cmpR (op_eqD hr.units) (pv 2) (pe_lst pa_nil) (nomark _)) (pss_one (ps_ret (pe_tup (pa_cons (pe_op op_mod (pe_ix ix_tup (pv 0) pe_int (fun _ _ => rfl)) (pe_ix ix_tup (pv 0) pe_int (fun _ _ => rfl))) (pa_cons pe_int pa_nil))))) pss_nil)
      (pss_cons (ps_asg (pe_ix ix_list (pv 2) (pe_un un_neg pe_int) (fun _ _ => rfl)) (pg_tup (by rfl) (pgs_cons (pg_name (i := 3) sc_lowest.nd rfl (Or.inl rfl)) (pgs_cons (pg_name (i := 4) sc_lowest.nd rfl (Or.inl rfl)) (pgs_cons (pg_name (i := 5) sc_lowest.nd rfl (Or.inl rfl)) (pgs_cons (pg_name (i := 6) sc_lowest.nd rfl (Or.inl rfl)) (pgs_cons (pg_name (i := 7) sc_lowest.nd rfl (Or.inl rfl)) pgs_nil)))))))
      (pss_one (ps_ret (pe_tup (pa_cons (pe_op op_sub (pv 4) (pe_op op_mulX (pv 6) (pv 7))) (pa_cons (pe_op op_add (pv 3) (pe_op op_mulX (pv 5) (pv 7))) pa_nil)))))))))), ?_⟩
  rw [st_lowest]
  try dsimp only [Cx.nox, Cx.wish, Cx.blk, cx_K]
  walk_at "go"
  refine use_need_stair hp hm fun H1 e1 => ?_
  walk_at "go"
  refine use_need_some n0 n1 ?_
  walk_at "go"
  refine use_runs_of (e1.at hp) hm za zb zm n0 n1 fun l rs place low H2 nl e2 R P e L len => ?_
  have hp2 := (e1.trans e2).at hp
  obtain ⟨vs, hl, R⟩ := R
  walk_at "go"
  rename_i l3 H3 nl3 e3 h3
  refine r_eqR (ys := []) ⟨vs, e3.at hl, R.ex e3⟩ ⟨[], h3, trivial⟩ ?_
  walk_at "go"
  have hp3 := e3.at hp2
  have zn : Sz 110 n := by
    show n.natAbs < 2 ^ 110
    omega
  refine if_2 (fun hn => ?_) (fun hn => ?_)
  · have hn := of_decide_eq_true hn
    subst hn
    cases e
    walk_at "go"
    rename_i t4 H4 nt4 e4 h4
    exact q t4 0 (b % m) H4 (((e1.trans e2).trans e3).trans e4) h4 L
  · have hn := of_decide_eq_false hn
    obtain ⟨p5, l5, on, dn, tm, hr, he, r5, p50, p5n⟩ := P.last hn
    obtain ⟨z1, z2, z3, z4, z5, z6, z7, z8, z9⟩ := r5.sz hm p50 p5n
    rw [he] at e
    cases e
    rw [← R.len] at hr
    have hv : vs.length - 1 < vs.length := by
      have : rs.length ≠ 0 := fun z => hn (List.length_eq_zero_iff.mp z)
      have := R.len
      omega
    obtain ⟨t5, r', ev, er, ht5⟩ := R.get (List.getElem?_eq_getElem hv)
    rw [hr] at er
    cases er
    have zp : Sz 110 p5 := zn.le (by omega) (by omega)
    have zl : Sz 200 l5 := zm.le (by omega) (by omega)
    have zon : Sz 110 on := zn.le (by omega) (by omega)
    have zdn : Sz 200 dn := zm.le (by omega) (by omega)
    have ztm : Sz 110 tm := zn.le (by omega) (by omega)
    walk_at "go"
    refine r_ixL (SqL.of (e3.at hl)) (at_last ((List.getElem?_eq_getElem hv).trans (congrArg some ev))) ?_
    have ht5' : H3 t5 = some (.tup [.int p5, .int l5, .int on, .int dn, .int tm]) := e3.at ht5
    walk_at "go"
    rename_i t6 H6 nt6 e6 h6
    exact q t6 _ _ H6 (((e1.trans e2).trans e3).trans e6) h6 L

end
def sp_highest (_ : PySem.W.Frag) : Sp := fun vs H Q _ => ∃ (p : Addr) (a b m n : Int), vs = [.ref p, .int n] ∧ H p = some (.tup [.int a, .int b, .int m]) ∧ 0 < m ∧ Sz 2700 a ∧ Sz 2000 b ∧ Sz 200 m ∧ 0 < n ∧ n < 1000000000000000000000000000000 ∧
  ∀ t place high H', Ex H H' → H' t = some (.tup [.int high, .int place]) → Least (0 - a) (m - 1 - b) m n (m - 1 - high) place → Q (.ref t) H'
theorem use_highest {K : PySem.W.Frag} {H : Hp} {Q : VK} {E : XK} {p : Addr} {a b m n : Int} (hp : H p = some (.tup [.int a, .int b, .int m])) (hm : 0 < m) (za : Sz 2700 a) (zb : Sz 2000 b) (zm : Sz 200 m) (n0 : 0 < n) (n1 : n < 1000000000000000000000000000000)
  (q : ∀ t place high H', Ex H H' → H' t = some (.tup [.int high, .int place]) → Least (0 - a) (m - 1 - b) m n (m - 1 - high) place → Q (.ref t) H') : sp_highest K [.ref p, .int n] H Q E := ⟨p, a, b, m, n, rfl, hp, hm, za, zb, zm, n0, n1, q⟩
abbrev s_highest : Stmt := topS 21
abbrev nm_highest : List Str := ["stair", "n", "a", "b", "m", "low", "place"]
theorem sc_highest : FnScope nm_highest ["stair", "n"] (defScope s_highest) := ⟨rfl, rfl, rfl, by decide +kernel, rfl, by decide +kernel, by decide +kernel⟩
theorem st_highest {v0 v1 : V} : start nm_highest [v0, v1] = [some v0, some v1, none, none, none, none, none] := rfl
section
variable {P : Program} {w : World} {K : PySem.W.Frag} {mg : Str → Option Value} {base : Heap}
theorem ok_highest (D : DefAt K mg "highest" s_highest ["stair", "n"]) (G_need_stair : Has P w K mg base CX0 4 "need_stair" ["thing"] (sp_need_stair K)) (G_need_some : Has P w K mg base CX0 3 "need_some" ["n"] (sp_need_some K)) (G_lowest : Has P w K mg base CX0 115 "lowest" ["stair", "n"] (sp_lowest K)) : Has P w K mg base CX0 116 "highest" ["stair", "n"] (sp_highest K) := by
  refine D.ok sc_highest (by rintro _ _ _ _ ⟨_, _, _, _, _, rfl, _⟩; rfl) (fun f cdv A outer s H vs Q E hr h => ?_)
  obtain ⟨p, a, b, m, n, rfl, hp, hm, za, zb, zm, n0, n1, q⟩ := h
  refine ⟨_, (pss_cons (ps_expr (pcall G_need_stair (hr.mono (by decide)) (pa_cons (pv 0) pa_nil)))
      (pss_cons (ps_expr (pcall G_need_some (hr.mono (by decide)) (pa_cons (pv 1) pa_nil)))
      (pss_cons (ps_asg (pv 0) (pg_tup (by rfl) (pgs_cons (pg_name (i := 2) sc_highest.nd rfl (Or.inl rfl)) (pgs_cons (pg_name (i := 3) sc_highest.nd rfl (Or.inl rfl)) (pgs_cons (pg_name (i := 4) sc_highest.nd rfl (Or.inl rfl)) pgs_nil)))))
      (pss_cons (ps_asg (pcall G_lowest (hr.mono (by decide)) (pa_cons (pe_tup (pa_cons (pe_op op_sub pe_int (pv 2)) (pa_cons (pe_op op_sub (pe_op op_sub (pv 4) pe_int) (pv 3)) (pa_cons (pv 4) pa_nil)))) (pa_cons (pv 1) pa_nil))) (pg_tup (by rfl) (pgs_cons (pg_name (i := 5) sc_highest.nd rfl (Or.inl rfl)) (pgs_cons (pg_name (i := 6) sc_highest.nd rfl (Or.inl rfl)) pgs_nil))))
      (pss_one (ps_ret (pe_tup (pa_cons (pe_op op_sub (pe_op op_sub (pv 4) pe_int) (pv 5)) (pa_cons (pv 6) pa_nil))))))))), ?_⟩
  rw [st_highest]
  try dsimp only [Cx.nox, Cx.wish, Cx.blk, cx_K]
  walk_at "go"
  refine use_need_stair hp hm fun H1 e1 => ?_
  walk_at "go"
  refine use_need_some n0 n1 ?_
  have hp1 := e1.at hp
  walk_at "go"
  rename_i t2 H2 n2 e2 h2
  refine use_lowest h2 hm (by walk_at "szm") (by walk_at "szm") zm n0 n1 fun t place low H3 e3 h3 L => ?_
  walk_at "go"
  rename_i t4 H4 n4 e4 h4
  exact q t4 place (m - 1 - low) H4 (((e1.trans e2).trans e3).trans e4) h4 (by rw [show m - 1 - (m - 1 - low) = low by omega]; exact L)

end
def sp_law (K : PySem.W.Frag) : Sp := fun vs H Q _ => ∃ (a : Addr) (ns : List Int), vs = [.ref a] ∧ SqL K H a (ns.map V.int) ∧ ns.length ≤ 63 ∧ ∀ H', Q (.bl true) H'
abbrev s_law : Stmt := topS 30
abbrev nm_law : List Str := ["script", "k", "draws", "m", "stair", "n", "left", "due", "found", "one", "part"]
theorem sc_law : FnScope nm_law ["script"] (defScope s_law) := ⟨rfl, rfl, rfl, by decide +kernel, rfl, by decide +kernel, by decide +kernel⟩
theorem st_law {v0 : V} : start nm_law [v0] = [some v0, none, none, none, none, none, none, none, none, none, none] := rfl
section
variable {P : Program} {w : World} {K : PySem.W.Frag} {mg : Str → Option Value} {base : Heap}
theorem ok_law {f : Addr} {fd : FuncData} (F : Fun K "law" "law" s_law f fd) (B_range : mg "range" = none) (B_max : mg "max" = none) (B_min : mg "min" = none) (B_len : mg "len" = none) (B_isinstance : mg "isinstance" = none) (B_list : mg "list" = none) (B_tuple : mg "tuple" = none) (G__law_draws : Has P w K mg base CX0 2 "_law_draws" ["script", "k"] (sp_law_draws K)) (G__law_draw : Has P w K mg base CX0 2 "_law_draw" ["draws", "many"] (sp_law_draw K)) (G__law_small_stair : Has P w K mg base CX0 3 "_law_small_stair" ["draws"] (sp_law_small_stair K)) (G__law_rests : Has P w K mg base CX0 2 "_law_rests" ["stair", "n"] (sp_law_rests K)) (G__law_lows : Has P w K mg base CX0 2 "_law_lows" ["left"] (sp_law_lows K)) (G__law_runs : Has P w K mg base CX0 2 "_law_runs" ["some"] (sp_law_runs K)) (G_lows : Has P w K mg base CX0 115 "lows" ["stair", "n"] (sp_lows K)) (G__law_whole : Has P w K mg base CX0 2 "_law_whole" ["thing"] (sp_law_whole K)) (G_lowest : Has P w K mg base CX0 115 "lowest" ["stair", "n"] (sp_lowest K)) (G_highest : Has P w K mg base CX0 116 "highest" ["stair", "n"] (sp_highest K)) : FnOk P w K mg base CX0 117 f fd ["script"] (sp_law K) := by
  refine F.ok sc_law (by rintro _ _ _ _ ⟨_, _, rfl, _⟩; rfl) (fun cdv A outer s H vs Q E hr h => ?_)
  obtain ⟨a, ns, rfl, hS, hlen, q⟩ := h
  refine ⟨_, (pss_cons (ps_for PassesOwn.never rfl (pi_range1 rfl B_range (pa_cons (pe_callB (cl_max2 rfl) (by rfl) B_max (by decide +kernel) (pa_cons pe_int (pa_cons (pe_callB (cl_min2 rfl) (by rfl) B_min (by decide +kernel) (pa_cons pe_int (pa_cons (pe_callB cl_len (by rfl) B_len (by decide +kernel) (pa_cons (pv 0) pa_nil)) pa_nil))) pa_nil))) pa_nil)) (pg_name (i := 1) sc_law.nd rfl (Or.inl rfl))
        (pss_cons (ps_set (i := 2) sc_law.nd rfl (Or.inl rfl) (pcall G__law_draws (hr.mono (by decide)) (pa_cons (pv 0) (pa_cons (pv 1) pa_nil))))
        (pss_cons (ps_set (i := 3) sc_law.nd rfl (Or.inl rfl) (pe_op op_add pe_int (pcall G__law_draw (hr.mono (by decide)) (pa_cons (pv 2) (pa_cons pe_int pa_nil)))))
        (pss_cons (ps_set (i := 4) sc_law.nd rfl (Or.inl rfl) (pe_ix ix_list (pe_lst (pa_cons (pcall G__law_small_stair (hr.mono (by decide)) (pa_cons (pv 2) pa_nil)) (pa_cons (pe_tup (pa_cons (pcall G__law_draw (hr.mono (by decide)) (pa_cons (pv 2) (pa_cons (pv 3) pa_nil))) (pa_cons (pcall G__law_draw (hr.mono (by decide)) (pa_cons (pv 2) (pa_cons (pv 3) pa_nil))) (pa_cons (pv 3) pa_nil)))) pa_nil))) (pcall G__law_draw (hr.mono (by decide)) (pa_cons (pv 2) (pa_cons pe_int pa_nil))) (fun _ _ => rfl)))
        (pss_cons (ps_set (i := 5) sc_law.nd rfl (Or.inl rfl) (pe_op op_add pe_int (pe_ix ix_list (pe_lst (pa_cons (pcall G__law_draw (hr.mono (by decide)) (pa_cons (pv 2) (pa_cons pe_int pa_nil))) (pa_cons (pcall G__law_draw (hr.mono (by decide)) (pa_cons (pv 2) (pa_cons pe_int pa_nil))) pa_nil))) (pcall G__law_draw (hr.mono (by decide)) (pa_cons (pv 2) (pa_cons pe_int pa_nil))) (fun _ _ => rfl))))
        (pss_cons (ps_set (i := 6) sc_law.nd rfl (Or.inl rfl) (pcall G__law_rests (hr.mono (by decide)) (pa_cons (pv 4) (pa_cons (pv 5) pa_nil))))
        (pss_cons (ps_set (i := 7) sc_law.nd rfl (Or.inl rfl) (pcall G__law_runs (hr.mono (by decide)) (pa_cons (pcall G__law_lows (hr.mono (by decide)) (pa_cons (pv 6) pa_nil)) pa_nil)))
        (pss_cons (ps_set (i := 8) sc_law.nd rfl (Or.inl rfl) (pcall G_lows (hr.mono (by decide)) (pa_cons (pv 4) (pa_cons (pv 5) pa_nil))))
        (pss_cons (ps_if (PW.pt (pw_or (pt_not (pt_val (pe_callB call_isi (by rfl) B_isinstance (by decide +kernel) (pa_cons (pv 8) (pa_cons (pe_bltn (v := .ty "list") (by rfl) B_list (by decide +kernel) rfl) pa_nil))))) (pw_or1 (pt_cmpR (op_neD hr.units) (pv 8) (pv 7) (nomark _))))) (pss_one (ps_ret pe_bl)) pss_nil)
        (pss_cons (ps_for PassesOwn.never rfl (pi_list (pv 8)) (pg_name (i := 9) sc_law.nd rfl (Or.inl rfl))
          (pss_one (ps_if (PW.pt (pw_or (pt_not (pt_val (pe_callB call_isi (by rfl) B_isinstance (by decide +kernel) (pa_cons (pv 9) (pa_cons (pe_bltn (v := .ty "tuple") (by rfl) B_tuple (by decide +kernel) rfl) pa_nil))))) (pw_or1 (pt_cmpR (op_neD hr.units) (pe_lc rfl sc_law.nd (pi_tup (pv 9)) (blkOk_by (own := [("part", 10)]) (N := nm_law) (sc := defScope s_law) (by decide +kernel)) (fun _ _ _ _ _ => (pg_name (i := 10) sc_law.nd rfl (Or.inl rfl))) (fun _ _ _ _ _ => pts_one (pt_not (pt_val (pcall G__law_whole (hr.mono (by decide)) (pa_cons (pv 10) pa_nil))))) (fun _ _ _ _ _ => (pv 10))) (pe_lst pa_nil) (nomark _))))) (pss_one (ps_ret pe_bl)) pss_nil)))
        (pss_cons (ps_expr (pe_bm PySem.F.plainAttrs_list PySem.F.slot_list_append PySem.F.type_list_append mt_append (pv 8) (pa_cons pe_int pa_nil)))
        (pss_cons (ps_if (PW.pt (pw_or (pt_cmpR (op_neD hr.units) (pcall G_lows (hr.mono (by decide)) (pa_cons (pv 4) (pa_cons (pv 5) pa_nil))) (pv 7) (nomark _)) (pw_or1 (pt_cmpR (op_neD hr.units) (pcall G_lowest (hr.mono (by decide)) (pa_cons (pv 4) (pa_cons (pv 5) pa_nil))) (pe_tup (pa_cons (pe_callB (cr_min rfl) (by rfl) B_min (by decide +kernel) (pa_cons (pv 6) pa_nil)) (pa_cons (pe_bm PySem.F.plainAttrs_list PySem.F.slot_list_index PySem.F.type_list_index mt_index (pv 6) (pa_cons (pe_callB (cr_min rfl) (by rfl) B_min (by decide +kernel) (pa_cons (pv 6) pa_nil)) pa_nil)) pa_nil))) (nomark _))))) (pss_one (ps_ret pe_bl)) pss_nil)
        (pss_one (ps_if (pt_cmpR (op_neD hr.units) (pcall G_highest (hr.mono (by decide)) (pa_cons (pv 4) (pa_cons (pv 5) pa_nil))) (pe_tup (pa_cons (pe_callB (cr_max rfl) (by rfl) B_max (by decide +kernel) (pa_cons (pv 6) pa_nil)) (pa_cons (pe_bm PySem.F.plainAttrs_list PySem.F.slot_list_index PySem.F.type_list_index mt_index (pv 6) (pa_cons (pe_callB (cr_max rfl) (by rfl) B_max (by decide +kernel) (pa_cons (pv 6) pa_nil)) pa_nil)) pa_nil))) (nomark _)) (pss_one (ps_ret pe_bl)) pss_nil))))))))))))))
      (pss_one (ps_ret pe_bl))), ?_⟩
  rw [st_law]
  try dsimp only [Cx.nox, Cx.wish, Cx.blk, cx_K]
  walk_at "go"
  rw [List.length_map]
  refine r_rng1 (by omega) (by omega) ?_
  refine for_rng (fun i σ H' => ∃ o1 o2 o3 o4 o5 o6 o7 o8 o9 o10 : Option V, σ = [some (.ref a), o1, o2, o3, o4, o5, o6, o7, o8, o9, o10] ∧ Ex H H') ⟨_, _, _, _, _, _, _, _, _, _, rfl, Ex.refl⟩ ?_ ?_
  · rintro i σ H0 hi ⟨o1, o2, o3, o4, o5, o6, o7, o8, o9, o10, rfl, e0⟩
    walk_at "go"
    refine use_law_draws (sql_up e0 hS) (by omega) (by omega) fun d H1 nd e1 D1 => ?_
    have w1 : Lw H0 d H1 := ⟨e1, nd, D1⟩
    clear e1 nd
    walk_at "go"
    refine use_law_draw D1 (by decide) (by walk_at "szm") fun m1 H2 m10 m11 k2 D2 => ?_
    have w2 := w1.kp k2 D2
    clear k2 w1 D1
    walk_at "go"
    generalize hm : 1 + m1 = m
    have mm0 : 0 < m := by omega
    have mm1 : m ≤ 3000 := by omega
    have zmm : Sz 200 m := Sz.small (by omega)
    clear hm m10 m11
    refine use_law_small_stair D2 fun p2 a2 b2 m2 H3 S2 np2 k3 D3 hp2 => ?_
    have w3 := w2.kp k3 D3
    clear k3 w2 D2
    walk_at "go"
    refine use_law_draw D3 (by omega) (zmm.mono (by decide)) fun a3 H4 a30 a31 k4 D4 => ?_
    have w4 := w3.kp k4 D4
    have hp4 := k4.tup D3 hp2
    clear k4 w3 D3 hp2 np2
    walk_at "go"
    refine use_law_draw D4 (by omega) (zmm.mono (by decide)) fun b3 H5 b30 b31 k5 D5 => ?_
    have w5 := w4.kp k5 D5
    have hp5 := k5.tup D4 hp4
    clear k5 w4 D4 hp4
    walk_at "go"
    rename_i t6 H6 nt6 e6 h6 l7 H7 nl7 e7 h7
    refine use_law_draw ((D5.up e6).up e7) (by decide) (by walk_at "szm") fun v8 H8 c8 d8 k8 D8 => ?_
    have h8 := k8 _ _ ((D5.up e6).free nl7) h7
    have ht8 := k8.tup ((D5.up e6).up e7) (e7.at h6)
    have hp8 := k8.tup ((D5.up e6).up e7) (e7.at (e6.at hp5))
    have w8 := ((w5.ex e6).ex e7).kp k8 D8
    clear k8 e6 e7 w5 D5 hp5 h6 h7 nt6 nl7
    walk_at "go"
    obtain ⟨v, hv, hv'⟩ := at_2 (x := .ref p2) (y := .ref t6) c8 d8
    refine r_ixL (SqL.of h8) hv ?_
    obtain ⟨p, a', b', m', rfl, S, hp⟩ : ∃ p a b m, v = .ref p ∧ StB a b m ∧ H8 p = some (.tup [.int a, .int b, .int m]) := by
      rcases hv' with rfl | rfl
      · exact ⟨p2, a2, b2, m2, rfl, S2.toB, hp8⟩
      · exact ⟨t6, a3, b3, m, rfl, ⟨mm0, by omega, (Sz.small (by omega) : Sz 200 a3).mono (by decide), (Sz.small (by omega) : Sz 200 b3).mono (by decide)⟩, ht8⟩
    clear hv hv' hp8 ht8 h8 S2
    have m0 := S.m0
    have m1' := S.m1
    have za := S.za
    have zb := S.zb
    have zm : Sz 200 m' := by
      show m'.natAbs < 2 ^ 200
      omega
    walk_at "go"
    refine use_law_draw D8 (by decide) (by walk_at "szm") fun n1 H9 n10 n11 k9 D9 => ?_
    walk_at "go"
    refine use_law_draw D9 (by decide) (by walk_at "szm") fun n2 H10 n20 n21 k10 D10 => ?_
    walk_at "go"
    rename_i l11 H11 nl11 e11 h11
    refine use_law_draw (D10.up e11) (by decide) (by walk_at "szm") fun v12 H12 c12 d12 k12 D12 => ?_
    have h12 := k12 _ _ (D10.free nl11) h11
    have w12 := (((w8.kp k9 D9).kp k10 D10).ex e11).kp k12 D12
    have hp12 := k12.tup (D10.up e11) (e11.at (k10.tup D9 (k9.tup D8 hp)))
    clear k9 k10 k12 e11 D8 D9 D10 w8 hp h11 nl11
    walk_at "go"
    obtain ⟨v, hv, hv'⟩ := at_2 (x := .int n1) (y := .int n2) c12 d12
    refine r_ixL (SqL.of h12) hv ?_
    obtain ⟨n0, rfl, n00, n01⟩ : ∃ n : Int, v = .int n ∧ 0 ≤ n ∧ n < 700 := by
      rcases hv' with rfl | rfl
      · exact ⟨_, rfl, n10, by omega⟩
      · exact ⟨_, rfl, n20, n21⟩
    clear hv hv' h12
    walk_at "go"
    generalize hn : 1 + n0 = n
    have nn0 : 0 < n := by omega
    have nn1 : n ≤ 700 := by omega
    clear hn n00 n01 n10 n11 n20 n21
    refine use_law_rests hp12 m0 (za.mono (by decide)) (zm.mono (by decide)) (by omega) (by omega) fun l13 H13 nl13 e13 h13 => ?_
    have w13 := w12.ex e13
    have hp13 := e13.at hp12
    have lf13 : H0 l13 = none := free_back w12.e nl13
    clear e13 w12 hp12 D12
    have h13 : H13 l13 = some (.lst (((List.range n.toNat).map fun (i : Nat) => rst a' b' m' (i : Int)).map V.int)) := h13
    walk_at "go"
    refine use_law_lows (f := fun (i : Nat) => rst a' b' m' (i : Int)) (n := n.toNat) (SqL.of h13) (by omega) fun l14 H14 nl14 e14 R14 => ?_
    have w14 := w13.ex e14
    have hp14 := e14.at hp13
    have h13a := e14.at h13
    clear e14 w13 hp13 h13
    walk_at "go"
    have rows := recF_row (fun (i : Nat) => rst a' b' m' (i : Int)) n.toNat
    have rne : recF (fun (i : Nat) => rst a' b' m' (i : Int)) n.toNat ≠ [] := recF_ne (by omega)
    refine use_law_runs R14 rne (by omega) (fun r hr => by
      obtain ⟨k, _, e⟩ := rows.1 r hr
      exact ⟨_, _, e⟩) fun l15 H15 nl15 e15 R15 => ?_
    have w15 := w14.ex e15
    have hp15 := e15.at hp14
    have h13b := e15.at h13a
    clear e15 w14 hp14 h13a R14 rows rne
    walk_at "go"
    refine use_lows hp15 m0 (za.mono (by decide)) (zb.mono (by decide)) zm nn0 (by omega) fun l16 rs place low H16 nl16 e16 R16 P e L len => ?_
    have key := runs_one nn0 P e L
    rw [key] at R15
    obtain ⟨us, hu0, U0⟩ := R15
    have hu := e16.at hu0
    have U := U0.ex e16
    have w16 := w15.ex e16
    have hp16 := e16.at hp15
    have h13c := e16.at h13b
    have lf16 : H0 l16 = none := free_back w15.e nl16
    have ld16 : l16 ≠ d := w15.D.free nl16
    have l1316 : l13 ≠ l16 := fun z => by
      rw [z, nl16] at h13b
      cases h13b
    have l1516 : l15 ≠ l16 := fun z => by
      rw [z, nl16] at hu0
      cases hu0
    obtain ⟨vs, hl16, R16⟩ := R16
    clear e16 w15 hp15 h13b hu0 U0 nl16
    walk_at "go"
    refine r_neR ⟨vs, hl16, R16⟩ ⟨us, hu, U⟩ ?_
    rw [decide_eq_true rfl]
    walk_at "go"
    refine for_lst (xs := vs) (fun j σ H' => Ex H16 H' ∧ ∃ o9 o10 : Option V, σ = [some (.ref a), some (.int (0 + i)), some (.ref d), some (.int m), some (.ref p), some (.int n), some (.ref l13), some (.ref l15), some (.ref l16), o9, o10]) ⟨Ex.refl, _, _, rfl⟩ (fun j σ H' _ h => SqL.of (h.1.at hl16)) ?_ ?_
    · rintro j x σ H17 hx ⟨e17, o9, o10, rfl⟩
      obtain ⟨t, r, rfl, hr', ht⟩ := (R16.ex e17).get hx
      obtain ⟨pl, lw, on, dn, tm, rfl, _⟩ := P _ _ hr'
      have ht : H17 t = some (.tup [.int pl, .int lw, .int on, .int dn, .int tm]) := ht
      walk_at "go"
      refine lc_tupN (SqT.of ht) (fun _ => rfl) (fun i2 x hx2 H18 e18 QT kT => ?_) (fun l18 H18 nl18 e18 h18 => ?_)
      · obtain ⟨z, rfl⟩ : ∃ z : Int, x = .int z := by
          have := List.mem_of_getElem? hx2
          simp only [List.mem_cons, List.not_mem_nil, or_false] at this
          rcases this with rfl | rfl | rfl | rfl | rfl <;> exact ⟨_, rfl⟩
        walk_at "go"
        refine use_law_whole ?_
        walk_at "go"
        exact kT _ Ex.refl
      · walk_at "go"
        rename_i l19 H19 nl19 e19 h19
        refine r_neL (xs := []) (ys := []) (SqL.of (e19.at h18)) (SqL.of h19) ?_
        rw [decide_eq_true rfl]
        walk_at "go"
        exact ⟨e17.trans (e18.trans e19), _, _, rfl⟩
    · rintro σ H17 ⟨e17, o9, o10, rfl⟩
      have w17 := w16.ex e17
      have lv := R16.len
      have hp17 := e17.at hp16
      have h13d := e17.at h13c
      have hl17 := e17.at hl16
      have hu17 := e17.at hu
      have U17 := U.ex e17
      clear e17 w16 hp16 h13c hl16 hu U R16
      walk_at "go"
      refine r_app hl17 (by omega) fun H18 k18 h18 => ?_
      have w18 := w17.own lf16 ld16 k18
      have hp18 := k18.tupL hl17 hp17
      have h13e := k18 _ _ l1316 h13d
      have hu18 := k18 _ _ l1516 hu17
      have U18 := U17.kpL k18 hl17
      clear k18 h18 w17 hp17 h13d hu17 U17 hl17
      walk_at "go"
      refine use_lows hp18 m0 (za.mono (by decide)) (zb.mono (by decide)) zm nn0 (by omega) fun l19 rs2 place2 low2 H19 nl19 e19 R19 P2 e2 L2 len2 => ?_
      have same : rs2 = rs := by rw [← runs_one nn0 P2 e2 L2, key]
      subst same
      have w19 := w18.ex e19
      have hp19 := e19.at hp18
      have h13f := e19.at h13e
      walk_at "go"
      refine r_neR R19 ⟨us, e19.at hu18, U18.ex e19⟩ ?_
      rw [decide_eq_true rfl]
      clear e19 w18 hp18 h13e hu18 U18 R19 L2 P2 e2 len2 nl19
      walk_at "go"
      refine use_lowest hp19 m0 (za.mono (by decide)) (zb.mono (by decide)) zm nn0 (by omega) fun t20 pl3 lw3 H20 e20 h20 L3 => ?_
      have w20 := w19.ex e20
      have hp20 := e20.at hp19
      have h13g := e20.at h13f
      clear e20 w19 hp19 h13f
      walk_at "go"
      obtain ⟨L1, L2, L3, L4, L5⟩ := L3
      have np : ((pl3.toNat : Nat) : Int) = pl3 := by omega
      refine ⟨l13, _, rfl, SqL.of h13g, by rw [List.length_map, List.length_range]; omega, fun mn hmn hall => ?_⟩
      obtain rfl := min_is (j := pl3.toNat) (by omega) (by rw [np]; exact L3) (fun k hk => L5 k (by omega) (by omega)) hmn hall
      walk_at "go"
      refine ⟨l13, _, rfl, SqL.of h13g, by rw [List.length_map, List.length_range]; omega, fun mn2 hmn2 hall2 => ?_⟩
      obtain rfl := min_is (j := pl3.toNat) (by omega) (by rw [np]; exact L3) (fun k hk => L5 k (by omega) (by omega)) hmn2 hall2
      walk_at "go"
      refine r_idx (j := pl3.toNat) (SqL.of h13g) (by omega) (by rw [np]; exact L3) (fun k hk => by
        have := L4 k (by omega) (by omega)
        omega) ?_
      rw [np]
      walk_at "go"
      rename_i t21 H21 nt21 e21 h21
      refine r_neT2 (e21.at h20) h21 ?_
      rw [decide_eq_true rfl]
      have w21 := w20.ex e21
      have hp21 := e21.at hp20
      have h13h := e21.at h13g
      clear e21 h20 h21 nt21 w20 hp20 h13g L1 L2 L3 L4 L5 np hmn hall hmn2 hall2
      walk_at "go"
      refine use_highest hp21 m0 (za.mono (by decide)) (zb.mono (by decide)) zm nn0 (by omega) fun t22 pl4 high H22 e22 h22 T => ?_
      obtain ⟨T1, T2, T3, T4, T5⟩ := T.turn m0
      have w22 := w21.ex e22
      have h13i := e22.at h13h
      have np : ((pl4.toNat : Nat) : Int) = pl4 := by omega
      clear e22 w21 h13h
      walk_at "go"
      refine ⟨l13, _, rfl, SqL.of h13i, by rw [List.length_map, List.length_range]; omega, fun mn hmn hall => ?_⟩
      obtain rfl := max_is (j := pl4.toNat) (by omega) (by rw [np]; exact T3) (fun k hk => T5 k (by omega) (by omega)) hmn hall
      walk_at "go"
      refine ⟨l13, _, rfl, SqL.of h13i, by rw [List.length_map, List.length_range]; omega, fun mn2 hmn2 hall2 => ?_⟩
      obtain rfl := max_is (j := pl4.toNat) (by omega) (by rw [np]; exact T3) (fun k hk => T5 k (by omega) (by omega)) hmn2 hall2
      walk_at "go"
      refine r_idx (j := pl4.toNat) (SqL.of h13i) (by omega) (by rw [np]; exact T3) (fun k hk => by
        have := T4 k (by omega) (by omega)
        omega) ?_
      rw [np]
      walk_at "go"
      rename_i t23 H23 nt23 e23 h23
      refine r_neT2 (e23.at h22) h23 ?_
      rw [decide_eq_true rfl]
      walk_at "go"
      exact ⟨_, _, _, _, _, _, _, _, _, _, rfl, e0.trans (w22.ex e23).e⟩
  · rintro σ H' ⟨o1, o2, o3, o4, o5, o6, o7, o8, o9, o10, rfl, e0⟩
    walk_at "go"
    exact q _

end
end Sd
namespace Sd
open PySem PySem.Spec PyProof.Rows L2
theorem all_mk {l : PySem.W.OpenLaw} {w : World} {K : PySem.W.Frag} {h : Heap} {mg : Str → Option Value} {fa : Addr} (X : K.In h) (G : h.Ns mainGlobals mg) (hfa : mg "law" = some (.ref fa))
    {f0 f1 f2 f3 f4 f5 f6 f7 f8 f9 f10 f11 f12 f13 f14 f15 f16 f17 f18 f19 f20 : Addr}
    {od0 an0 od1 an1 od2 an2 od3 an3 od4 an4 od5 an5 od6 an6 od7 an7 od8 an8 od9 an9 od10 an10 od11 an11 od12 an12 od13 an13 od14 an14 od15 an15 od16 an16 od17 an17 od18 an18 od19 an19 od20 an20 : Option Addr}
    {sl0 sl1 sl2 sl3 sl4 sl5 sl6 sl7 sl8 sl9 sl10 sl11 sl12 sl13 sl14 sl15 sl16 sl17 sl18 sl19 sl20 : Array (Option Value)}
    {oc0 kV0 dc0 pm0 cd0 ct0 oc1 kV1 dc1 pm1 cd1 ct1 oc2 kV2 dc2 pm2 cd2 ct2 oc3 kV3 dc3 pm3 cd3 ct3 oc4 kV4 dc4 pm4 cd4 ct4 oc5 kV5 dc5 pm5 cd5 ct5 oc6 kV6 dc6 pm6 cd6 ct6 oc7 kV7 dc7 pm7 cd7 ct7 oc8 kV8 dc8 pm8 cd8 ct8 oc9 kV9 dc9 pm9 cd9 ct9 oc10 kV10 dc10 pm10 cd10 ct10 oc11 kV11 dc11 pm11 cd11 ct11 oc12 kV12 dc12 pm12 cd12 ct12 oc13 kV13 dc13 pm13 cd13 ct13 oc14 kV14 dc14 pm14 cd14 ct14 oc15 kV15 dc15 pm15 cd15 ct15 oc16 kV16 dc16 pm16 cd16 ct16 oc17 kV17 dc17 pm17 cd17 ct17 oc18 kV18 dc18 pm18 cd18 ct18 oc19 kV19 dc19 pm19 cd19 ct19 oc20 kV20 dc20 pm20 cd20 ct20 : Value}
    {tk_COUNTS_BELOW : Tok}
    (a0 : PySem.W.nsIn K mainGlobals "_law_draws" = some (some (.ref f0))) (l0 : K.lookup f0 = some ⟨oc0, od0, .func (PySem.W.fnOf "_law_draws" "_law_draws" (defArgs s_law_draws) (defBody s_law_draws) (defScope s_law_draws) .none kV0 dc0 pm0 an0 cd0 ct0), sl0⟩) (c0 : PySem.W.codeIn K cd0 "_law_draws" = true) (k0 : PySem.W.keepIn K (.ref f0) = true)
    (a1 : PySem.W.nsIn K mainGlobals "_law_draw" = some (some (.ref f1))) (l1 : K.lookup f1 = some ⟨oc1, od1, .func (PySem.W.fnOf "_law_draw" "_law_draw" (defArgs s_law_draw) (defBody s_law_draw) (defScope s_law_draw) .none kV1 dc1 pm1 an1 cd1 ct1), sl1⟩) (c1 : PySem.W.codeIn K cd1 "_law_draw" = true) (k1 : PySem.W.keepIn K (.ref f1) = true)
    (a2 : PySem.W.nsIn K mainGlobals "_law_small_stair" = some (some (.ref f2))) (l2 : K.lookup f2 = some ⟨oc2, od2, .func (PySem.W.fnOf "_law_small_stair" "_law_small_stair" (defArgs s_law_small_stair) (defBody s_law_small_stair) (defScope s_law_small_stair) .none kV2 dc2 pm2 an2 cd2 ct2), sl2⟩) (c2 : PySem.W.codeIn K cd2 "_law_small_stair" = true) (k2 : PySem.W.keepIn K (.ref f2) = true)
    (a3 : PySem.W.nsIn K mainGlobals "_law_rests" = some (some (.ref f3))) (l3 : K.lookup f3 = some ⟨oc3, od3, .func (PySem.W.fnOf "_law_rests" "_law_rests" (defArgs s_law_rests) (defBody s_law_rests) (defScope s_law_rests) .none kV3 dc3 pm3 an3 cd3 ct3), sl3⟩) (c3 : PySem.W.codeIn K cd3 "_law_rests" = true) (k3 : PySem.W.keepIn K (.ref f3) = true)
    (a4 : PySem.W.nsIn K mainGlobals "_law_lows" = some (some (.ref f4))) (l4 : K.lookup f4 = some ⟨oc4, od4, .func (PySem.W.fnOf "_law_lows" "_law_lows" (defArgs s_law_lows) (defBody s_law_lows) (defScope s_law_lows) .none kV4 dc4 pm4 an4 cd4 ct4), sl4⟩) (c4 : PySem.W.codeIn K cd4 "_law_lows" = true) (k4 : PySem.W.keepIn K (.ref f4) = true)
    (a5 : PySem.W.nsIn K mainGlobals "_law_runs" = some (some (.ref f5))) (l5 : K.lookup f5 = some ⟨oc5, od5, .func (PySem.W.fnOf "_law_runs" "_law_runs" (defArgs s_law_runs) (defBody s_law_runs) (defScope s_law_runs) .none kV5 dc5 pm5 an5 cd5 ct5), sl5⟩) (c5 : PySem.W.codeIn K cd5 "_law_runs" = true) (k5 : PySem.W.keepIn K (.ref f5) = true)
    (a6 : PySem.W.nsIn K mainGlobals "is_whole" = some (some (.ref f6))) (l6 : K.lookup f6 = some ⟨oc6, od6, .func (PySem.W.fnOf "is_whole" "is_whole" (defArgs s_is_whole) (defBody s_is_whole) (defScope s_is_whole) .none kV6 dc6 pm6 an6 cd6 ct6), sl6⟩) (c6 : PySem.W.codeIn K cd6 "is_whole" = true) (k6 : PySem.W.keepIn K (.ref f6) = true)
    (a7 : PySem.W.nsIn K mainGlobals "is_stair" = some (some (.ref f7))) (l7 : K.lookup f7 = some ⟨oc7, od7, .func (PySem.W.fnOf "is_stair" "is_stair" (defArgs s_is_stair) (defBody s_is_stair) (defScope s_is_stair) .none kV7 dc7 pm7 an7 cd7 ct7), sl7⟩) (c7 : PySem.W.codeIn K cd7 "is_stair" = true) (k7 : PySem.W.keepIn K (.ref f7) = true)
    (a8 : PySem.W.nsIn K mainGlobals "need_stair" = some (some (.ref f8))) (l8 : K.lookup f8 = some ⟨oc8, od8, .func (PySem.W.fnOf "need_stair" "need_stair" (defArgs s_need_stair) (defBody s_need_stair) (defScope s_need_stair) .none kV8 dc8 pm8 an8 cd8 ct8), sl8⟩) (c8 : PySem.W.codeIn K cd8 "need_stair" = true) (k8 : PySem.W.keepIn K (.ref f8) = true)
    (a9 : PySem.W.nsIn K mainGlobals "need_count" = some (some (.ref f9))) (l9 : K.lookup f9 = some ⟨oc9, od9, .func (PySem.W.fnOf "need_count" "need_count" (defArgs s_need_count) (defBody s_need_count) (defScope s_need_count) .none kV9 dc9 pm9 an9 cd9 ct9), sl9⟩) (c9 : PySem.W.codeIn K cd9 "need_count" = true) (k9 : PySem.W.keepIn K (.ref f9) = true)
    (a10 : PySem.W.nsIn K mainGlobals "need_some" = some (some (.ref f10))) (l10 : K.lookup f10 = some ⟨oc10, od10, .func (PySem.W.fnOf "need_some" "need_some" (defArgs s_need_some) (defBody s_need_some) (defScope s_need_some) .none kV10 dc10 pm10 an10 cd10 ct10), sl10⟩) (c10 : PySem.W.codeIn K cd10 "need_some" = true) (k10 : PySem.W.keepIn K (.ref f10) = true)
    (a11 : PySem.W.nsIn K mainGlobals "over_up" = some (some (.ref f11))) (l11 : K.lookup f11 = some ⟨oc11, od11, .func (PySem.W.fnOf "over_up" "over_up" (defArgs s_over_up) (defBody s_over_up) (defScope s_over_up) .none kV11 dc11 pm11 an11 cd11 ct11), sl11⟩) (c11 : PySem.W.codeIn K cd11 "over_up" = true) (k11 : PySem.W.keepIn K (.ref f11) = true)
    (a12 : PySem.W.nsIn K mainGlobals "first_rest" = some (some (.ref f12))) (l12 : K.lookup f12 = some ⟨oc12, od12, .func (PySem.W.fnOf "first_rest" "first_rest" (defArgs s_first_rest) (defBody s_first_rest) (defScope s_first_rest) .none kV12 dc12 pm12 an12 cd12 ct12), sl12⟩) (c12 : PySem.W.codeIn K cd12 "first_rest" = true) (k12 : PySem.W.keepIn K (.ref f12) = true)
    (a13 : PySem.W.nsIn K mainGlobals "first_of" = some (some (.ref f13))) (l13 : K.lookup f13 = some ⟨oc13, od13, .func (PySem.W.fnOf "first_of" "first_of" (defArgs s_first_of) (defBody s_first_of) (defScope s_first_of) .none kV13 dc13 pm13 an13 cd13 ct13), sl13⟩) (c13 : PySem.W.codeIn K cd13 "first_of" = true) (k13 : PySem.W.keepIn K (.ref f13) = true)
    (a14 : PySem.W.nsIn K mainGlobals "next_of" = some (some (.ref f14))) (l14 : K.lookup f14 = some ⟨oc14, od14, .func (PySem.W.fnOf "next_of" "next_of" (defArgs s_next_of) (defBody s_next_of) (defScope s_next_of) .none kV14 dc14 pm14 an14 cd14 ct14), sl14⟩) (c14 : PySem.W.codeIn K cd14 "next_of" = true) (k14 : PySem.W.keepIn K (.ref f14) = true)
    (a15 : PySem.W.nsIn K mainGlobals "runs_of" = some (some (.ref f15))) (l15 : K.lookup f15 = some ⟨oc15, od15, .func (PySem.W.fnOf "runs_of" "runs_of" (defArgs s_runs_of) (defBody s_runs_of) (defScope s_runs_of) .none kV15 dc15 pm15 an15 cd15 ct15), sl15⟩) (c15 : PySem.W.codeIn K cd15 "runs_of" = true) (k15 : PySem.W.keepIn K (.ref f15) = true)
    (a16 : PySem.W.nsIn K mainGlobals "lows" = some (some (.ref f16))) (l16 : K.lookup f16 = some ⟨oc16, od16, .func (PySem.W.fnOf "lows" "lows" (defArgs s_lows) (defBody s_lows) (defScope s_lows) .none kV16 dc16 pm16 an16 cd16 ct16), sl16⟩) (c16 : PySem.W.codeIn K cd16 "lows" = true) (k16 : PySem.W.keepIn K (.ref f16) = true)
    (a17 : PySem.W.nsIn K mainGlobals "_law_whole" = some (some (.ref f17))) (l17 : K.lookup f17 = some ⟨oc17, od17, .func (PySem.W.fnOf "_law_whole" "_law_whole" (defArgs s_law_whole) (defBody s_law_whole) (defScope s_law_whole) .none kV17 dc17 pm17 an17 cd17 ct17), sl17⟩) (c17 : PySem.W.codeIn K cd17 "_law_whole" = true) (k17 : PySem.W.keepIn K (.ref f17) = true)
    (a18 : PySem.W.nsIn K mainGlobals "lowest" = some (some (.ref f18))) (l18 : K.lookup f18 = some ⟨oc18, od18, .func (PySem.W.fnOf "lowest" "lowest" (defArgs s_lowest) (defBody s_lowest) (defScope s_lowest) .none kV18 dc18 pm18 an18 cd18 ct18), sl18⟩) (c18 : PySem.W.codeIn K cd18 "lowest" = true) (k18 : PySem.W.keepIn K (.ref f18) = true)
    (a19 : PySem.W.nsIn K mainGlobals "highest" = some (some (.ref f19))) (l19 : K.lookup f19 = some ⟨oc19, od19, .func (PySem.W.fnOf "highest" "highest" (defArgs s_highest) (defBody s_highest) (defScope s_highest) .none kV19 dc19 pm19 an19 cd19 ct19), sl19⟩) (c19 : PySem.W.codeIn K cd19 "highest" = true) (k19 : PySem.W.keepIn K (.ref f19) = true)
    (a20 : PySem.W.nsIn K mainGlobals "law" = some (some (.ref f20))) (l20 : K.lookup f20 = some ⟨oc20, od20, .func (PySem.W.fnOf "law" "law" (defArgs s_law) (defBody s_law) (defScope s_law) .none kV20 dc20 pm20 an20 cd20 ct20), sl20⟩) (c20 : PySem.W.codeIn K cd20 "law" = true) (k20 : PySem.W.keepIn K (.ref f20) = true)
    (z_all : PySem.W.nsIn K mainGlobals "all" = some none)
    (z_bool : PySem.W.nsIn K mainGlobals "bool" = some none)
    (z_enumerate : PySem.W.nsIn K mainGlobals "enumerate" = some none)
    (z_int : PySem.W.nsIn K mainGlobals "int" = some none)
    (z_isinstance : PySem.W.nsIn K mainGlobals "isinstance" = some none)
    (z_len : PySem.W.nsIn K mainGlobals "len" = some none)
    (z_list : PySem.W.nsIn K mainGlobals "list" = some none)
    (z_max : PySem.W.nsIn K mainGlobals "max" = some none)
    (z_min : PySem.W.nsIn K mainGlobals "min" = some none)
    (z_range : PySem.W.nsIn K mainGlobals "range" = some none)
    (z_tuple : PySem.W.nsIn K mainGlobals "tuple" = some none)
    (z_zip : PySem.W.nsIn K mainGlobals "zip" = some none)
    (q_COUNTS_BELOW : PySem.W.nsIn K mainGlobals "COUNTS_BELOW" = some (some (.int COUNTS_BELOW_val tk_COUNTS_BELOW)))
    : ∃ fd : FuncData, (∀ (s : Shared) (v : Value), BindsTo s fd ⟨[v], []⟩ [("script", v)]) ∧ ∀ base : Heap, K.In base → base.Ns mainGlobals mg → FnOk l.prog w K mg base CX0 117 fa fd ["script"] (sp_law K) := by
  have D_law_draws : DefAt K mg "_law_draws" s_law_draws ["script", "k"] := def_mk X G a0 l0 c0 k0 fun _ _ _ _ _ _ us hl => match us, hl with | [_, _], _ => rfl
  have D_law_draw : DefAt K mg "_law_draw" s_law_draw ["draws", "many"] := def_mk X G a1 l1 c1 k1 fun _ _ _ _ _ _ us hl => match us, hl with | [_, _], _ => rfl
  have D_law_small_stair : DefAt K mg "_law_small_stair" s_law_small_stair ["draws"] := def_mk X G a2 l2 c2 k2 fun _ _ _ _ _ _ us hl => match us, hl with | [_], _ => rfl
  have D_law_rests : DefAt K mg "_law_rests" s_law_rests ["stair", "n"] := def_mk X G a3 l3 c3 k3 fun _ _ _ _ _ _ us hl => match us, hl with | [_, _], _ => rfl
  have D_law_lows : DefAt K mg "_law_lows" s_law_lows ["left"] := def_mk X G a4 l4 c4 k4 fun _ _ _ _ _ _ us hl => match us, hl with | [_], _ => rfl
  have D_law_runs : DefAt K mg "_law_runs" s_law_runs ["some"] := def_mk X G a5 l5 c5 k5 fun _ _ _ _ _ _ us hl => match us, hl with | [_], _ => rfl
  have D_is_whole : DefAt K mg "is_whole" s_is_whole ["thing"] := def_mk X G a6 l6 c6 k6 fun _ _ _ _ _ _ us hl => match us, hl with | [_], _ => rfl
  have D_is_stair : DefAt K mg "is_stair" s_is_stair ["thing"] := def_mk X G a7 l7 c7 k7 fun _ _ _ _ _ _ us hl => match us, hl with | [_], _ => rfl
  have D_need_stair : DefAt K mg "need_stair" s_need_stair ["thing"] := def_mk X G a8 l8 c8 k8 fun _ _ _ _ _ _ us hl => match us, hl with | [_], _ => rfl
  have D_need_count : DefAt K mg "need_count" s_need_count ["n"] := def_mk X G a9 l9 c9 k9 fun _ _ _ _ _ _ us hl => match us, hl with | [_], _ => rfl
  have D_need_some : DefAt K mg "need_some" s_need_some ["n"] := def_mk X G a10 l10 c10 k10 fun _ _ _ _ _ _ us hl => match us, hl with | [_], _ => rfl
  have D_over_up : DefAt K mg "over_up" s_over_up ["top", "bottom"] := def_mk X G a11 l11 c11 k11 fun _ _ _ _ _ _ us hl => match us, hl with | [_, _], _ => rfl
  have D_first_rest : DefAt K mg "first_rest" s_first_rest ["a", "m", "low", "high"] := def_mk X G a12 l12 c12 k12 fun _ _ _ _ _ _ us hl => match us, hl with | [_, _, _, _], _ => rfl
  have D_first_of : DefAt K mg "first_of" s_first_of ["stair", "low", "high"] := def_mk X G a13 l13 c13 k13 fun _ _ _ _ _ _ us hl => match us, hl with | [_, _, _], _ => rfl
  have D_next_of : DefAt K mg "next_of" s_next_of ["stair", "low", "high", "k"] := def_mk X G a14 l14 c14 k14 fun _ _ _ _ _ _ us hl => match us, hl with | [_, _, _, _], _ => rfl
  have D_runs_of : DefAt K mg "runs_of" s_runs_of ["stair", "n"] := def_mk X G a15 l15 c15 k15 fun _ _ _ _ _ _ us hl => match us, hl with | [_, _], _ => rfl
  have D_lows : DefAt K mg "lows" s_lows ["stair", "n"] := def_mk X G a16 l16 c16 k16 fun _ _ _ _ _ _ us hl => match us, hl with | [_, _], _ => rfl
  have D_law_whole : DefAt K mg "_law_whole" s_law_whole ["thing"] := def_mk X G a17 l17 c17 k17 fun _ _ _ _ _ _ us hl => match us, hl with | [_], _ => rfl
  have D_lowest : DefAt K mg "lowest" s_lowest ["stair", "n"] := def_mk X G a18 l18 c18 k18 fun _ _ _ _ _ _ us hl => match us, hl with | [_, _], _ => rfl
  have D_highest : DefAt K mg "highest" s_highest ["stair", "n"] := def_mk X G a19 l19 c19 k19 fun _ _ _ _ _ _ us hl => match us, hl with | [_, _], _ => rfl
  have D_law : DefAt K mg "law" s_law ["script"] := def_mk X G a20 l20 c20 k20 fun _ _ _ _ _ _ us hl => match us, hl with | [_], _ => rfl
  have e := hfa.symm.trans (PySem.W.mg_of X G a20)
  cases e
  refine ⟨PySem.W.fnOf "law" "law" (defArgs s_law) (defBody s_law) (defScope s_law) .none kV20 dc20 pm20 an20 cd20 ct20, fun s v => .of_eq rfl, fun base _ _ => ?_⟩
  have B_all := PySem.W.mg_none_of X G z_all
  have B_bool := PySem.W.mg_none_of X G z_bool
  have B_enumerate := PySem.W.mg_none_of X G z_enumerate
  have B_int := PySem.W.mg_none_of X G z_int
  have B_isinstance := PySem.W.mg_none_of X G z_isinstance
  have B_len := PySem.W.mg_none_of X G z_len
  have B_list := PySem.W.mg_none_of X G z_list
  have B_max := PySem.W.mg_none_of X G z_max
  have B_min := PySem.W.mg_none_of X G z_min
  have B_range := PySem.W.mg_none_of X G z_range
  have B_tuple := PySem.W.mg_none_of X G z_tuple
  have B_zip := PySem.W.mg_none_of X G z_zip
  have T_COUNTS_BELOW : ∃ t, mg "COUNTS_BELOW" = some (.int COUNTS_BELOW_val t) := ⟨_, PySem.W.mg_of X G q_COUNTS_BELOW⟩
  have G_law_draws := ok_law_draws (P := l.prog) (w := w) (base := base) D_law_draws B_len B_int
  have G_law_draw := ok_law_draw (P := l.prog) (w := w) (base := base) D_law_draw
  have G_law_small_stair := ok_law_small_stair (P := l.prog) (w := w) (base := base) D_law_small_stair G_law_draw
  have G_law_rests := ok_law_rests (P := l.prog) (w := w) (base := base) D_law_rests B_range
  have G_law_lows := ok_law_lows (P := l.prog) (w := w) (base := base) D_law_lows B_enumerate
  have G_law_runs := ok_law_runs (P := l.prog) (w := w) (base := base) D_law_runs B_zip
  have G_is_whole := ok_is_whole (P := l.prog) (w := w) (base := base) D_is_whole B_isinstance B_int B_bool
  have G_is_stair := ok_is_stair (P := l.prog) (w := w) (base := base) D_is_stair B_len B_isinstance B_tuple B_all G_is_whole
  have G_need_stair := ok_need_stair (P := l.prog) (w := w) (base := base) D_need_stair G_is_stair
  have G_need_count := ok_need_count (P := l.prog) (w := w) (base := base) D_need_count T_COUNTS_BELOW
  have G_need_some := ok_need_some (P := l.prog) (w := w) (base := base) D_need_some G_need_count
  have G_over_up := ok_over_up (P := l.prog) (w := w) (base := base) D_over_up
  have G_first_rest := ok_first_rest (P := l.prog) (w := w) (base := base) D_first_rest G_over_up
  have G_first_of := ok_first_of (P := l.prog) (w := w) (base := base) D_first_of G_first_rest
  have G_next_of := ok_next_of (P := l.prog) (w := w) (base := base) D_next_of G_first_of
  have G_runs_of := ok_runs_of (P := l.prog) (w := w) (base := base) D_runs_of B_min G_next_of
  have G_lows := ok_lows (P := l.prog) (w := w) (base := base) D_lows G_need_stair G_need_some G_runs_of
  have G_law_whole := ok_law_whole (P := l.prog) (w := w) (base := base) D_law_whole B_isinstance B_int B_bool
  have G_lowest := ok_lowest (P := l.prog) (w := w) (base := base) D_lowest G_need_stair G_need_some G_runs_of
  have G_highest := ok_highest (P := l.prog) (w := w) (base := base) D_highest G_need_stair G_need_some G_lowest
  exact ok_law (fun_mk (st := s_law) l20 c20 k20) B_range B_max B_min B_len B_isinstance B_list B_tuple G_law_draws G_law_draw G_law_small_stair G_law_rests G_law_lows G_law_runs G_lows G_law_whole G_lowest G_highest
theorem walk {l : PySem.W.OpenLaw} {q : Program} {loose : List Str} {XP : (Str → Option Value) → Heap → Prop} {YP : World → Heap → Prop} {d : DefRec} {K : Params → PySem.W.Frag} (hn : l.most = some 63) (hdf : d.params.defaults = [])
    (hY : ∀ (w : World) (h : Heap), YP w h → (K w.params).In h)
    (F : ∀ (w : World) (mg : Str → Option Value) (fa : Addr) (h : Heap), (K w.params).In h → h.Ns mainGlobals mg → mg d.name = some (.ref fa) →
      ∃ fd : FuncData, (∀ (s : Shared) (u : Value), BindsTo s fd ⟨[u], []⟩ [("script", u)]) ∧ ∀ base : Heap, (K w.params).In base → base.Ns mainGlobals mg → FnOk l.prog w (K w.params) mg base CX0 117 fa fd ["script"] (sp_law (K w.params))) :
    PySem.W.WalkO q loose XP YP l.row.toRowW d [] (fun f vs => PySem.call f vs) :=
  L2.walk_of (n := 63) (k := 117) (x := "script") (CX := fun _ => CX0) (sp := fun w => sp_law (K w.params)) hn (by decide) hdf ⟨rfl, by decide, by decide⟩ hY F (fun _ _ a ns hl _ hS => ⟨a, ns, rfl, hS, hl, fun _ => rfl⟩) fun _ _ _ _ _ z => z
end Sd
open PySem PySem.W PyProof.Rows
set_option maxRecDepth 100000 in
set_option maxHeartbeats 0 in
theorem PySem.Challenge.cw_stairsum_k21_lows_one_by_one_holds : PySem.Challenge.rw_stairsum_k21_lows_one_by_one.Holds := by
  w_on; o_law; k_head; (case hw => w_witness2)
  k_fill
  refine Sd.walk (l := PySem.Challenge.rw_stairsum_k21_lows_one_by_one) rfl rfl (fun w h Y => PySem.W.kIn_of Y) ?F
  case F =>
    intro w mg fa h KX G hmg
    refine' Sd.all_mk KX G hmg ?a0 ?l0 ?c0 ?k0 ?a1 ?l1 ?c1 ?k1 ?a2 ?l2 ?c2 ?k2 ?a3 ?l3 ?c3 ?k3 ?a4 ?l4 ?c4 ?k4 ?a5 ?l5 ?c5 ?k5 ?a6 ?l6 ?c6 ?k6 ?a7 ?l7 ?c7 ?k7 ?a8 ?l8 ?c8 ?k8 ?a9 ?l9 ?c9 ?k9 ?a10 ?l10 ?c10 ?k10 ?a11 ?l11 ?c11 ?k11 ?a12 ?l12 ?c12 ?k12 ?a13 ?l13 ?c13 ?k13 ?a14 ?l14 ?c14 ?k14 ?a15 ?l15 ?c15 ?k15 ?a16 ?l16 ?c16 ?k16 ?a17 ?l17 ?c17 ?k17 ?a18 ?l18 ?c18 ?k18 ?a19 ?l19 ?c19 ?k19 ?a20 ?l20 ?c20 ?k20 ?z_all ?z_bool ?z_enumerate ?z_int ?z_isinstance ?z_len ?z_list ?z_max ?z_min ?z_range ?z_tuple ?z_zip ?q_COUNTS_BELOW
    (case a0 => k_is)
    (case l0 => k_is)
    (case c0 => k_is)
    (case k0 => k_is)
    (case a1 => k_is)
    (case l1 => k_is)
    (case c1 => k_is)
    (case k1 => k_is)
    (case a2 => k_is)
    (case l2 => k_is)
    (case c2 => k_is)
    (case k2 => k_is)
    (case a3 => k_is)
    (case l3 => k_is)
    (case c3 => k_is)
    (case k3 => k_is)
    (case a4 => k_is)
    (case l4 => k_is)
    (case c4 => k_is)
    (case k4 => k_is)
    (case a5 => k_is)
    (case l5 => k_is)
    (case c5 => k_is)
    (case k5 => k_is)
    (case a6 => k_is)
    (case l6 => k_is)
    (case c6 => k_is)
    (case k6 => k_is)
    (case a7 => k_is)
    (case l7 => k_is)
    (case c7 => k_is)
    (case k7 => k_is)
    (case a8 => k_is)
    (case l8 => k_is)
    (case c8 => k_is)
    (case k8 => k_is)
    (case a9 => k_is)
    (case l9 => k_is)
    (case c9 => k_is)
    (case k9 => k_is)
    (case a10 => k_is)
    (case l10 => k_is)
    (case c10 => k_is)
    (case k10 => k_is)
    (case a11 => k_is)
    (case l11 => k_is)
    (case c11 => k_is)
    (case k11 => k_is)
    (case a12 => k_is)
    (case l12 => k_is)
    (case c12 => k_is)
    (case k12 => k_is)
    (case a13 => k_is)
    (case l13 => k_is)
    (case c13 => k_is)
    (case k13 => k_is)
    (case a14 => k_is)
    (case l14 => k_is)
    (case c14 => k_is)
    (case k14 => k_is)
    (case a15 => k_is)
    (case l15 => k_is)
    (case c15 => k_is)
    (case k15 => k_is)
    (case a16 => k_is)
    (case l16 => k_is)
    (case c16 => k_is)
    (case k16 => k_is)
    (case a17 => k_is)
    (case l17 => k_is)
    (case c17 => k_is)
    (case k17 => k_is)
    (case a18 => k_is)
    (case l18 => k_is)
    (case c18 => k_is)
    (case k18 => k_is)
    (case a19 => k_is)
    (case l19 => k_is)
    (case c19 => k_is)
    (case k19 => k_is)
    (case a20 => k_is)
    (case l20 => k_is)
    (case c20 => k_is)
    (case k20 => k_is)
    (case z_all => k_is)
    (case z_bool => k_is)
    (case z_enumerate => k_is)
    (case z_int => k_is)
    (case z_isinstance => k_is)
    (case z_len => k_is)
    (case z_list => k_is)
    (case z_max => k_is)
    (case z_min => k_is)
    (case z_range => k_is)
    (case z_tuple => k_is)
    (case z_zip => k_is)
    (case q_COUNTS_BELOW => k_is)

