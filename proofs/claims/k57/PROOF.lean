import PyProof.Rows.All
import Wide.All
import OpenK.AllK
import Wide.FinOn
import HandS.ForMost
import HandS.Codes
import HandS.Walk
import HandS.Exc
import HandS.TryOnly
import HandS.ExcOwn
import HandS.WordsExc
import HandS.Wide
import HandS.WideMore
import HandS.Flow
import HandS.IsInst
import HandS.Style
import HandS.SortInts
import HandS.TupAny
import HandS.Flt
import HandS.Zip
import HandS.More
import PyProof.Rows.SortShellAny
import PyProof.LongRange
import KE.SortData
import PySem.Challenge.RW_stairsum_k57_lists_of_ones_own
set_option Elab.async false
set_option linter.all false
set_option maxRecDepth 100000
set_option maxHeartbeats 4000000
set_option Elab.async false
set_option linter.all false
set_option maxRecDepth 100000
set_option maxHeartbeats 4000000
/-! The prelude: heaps, readings step by step, sizes, defs of the top by name. -/
namespace Sd
open PySem PySem.Spec PyProof.Rows L2

/-! ### heaps -/
def Ex (H H' : Hp) : Prop := ∀ a o, H a = some o → H' a = some o
/-- all but what stands at d is kept -/
def Kp (d : Addr) (H H' : Hp) : Prop := ∀ a o, a ≠ d → H a = some o → H' a = some o
theorem Ex.at {H H' : Hp} {a : Addr} {o : HO} (e : Ex H H') (h : H a = some o) : H' a = some o := e a o h
theorem Ex.refl {H : Hp} : Ex H H := fun _ _ h => h
theorem Ex.trans {H H1 H2 : Hp} (a : Ex H H1) (b : Ex H1 H2) : Ex H H2 := fun x o h => b x o (a x o h)
theorem Ex.kp {H H' : Hp} {d : Addr} (e : Ex H H') : Kp d H H' := fun a o _ h => e a o h
theorem Kp.refl {H : Hp} {d : Addr} : Kp d H H := fun _ _ _ h => h
theorem Kp.trans {H H1 H2 : Hp} {d : Addr} (a : Kp d H H1) (b : Kp d H1 H2) : Kp d H H2 := fun x o n h => b x o n (a x o n h)
theorem Ex.kpd {H H1 H2 : Hp} {d : Addr} (e : Ex H H1) (n : H d = none) (b : Kp d H1 H2) : Ex H H2 := fun x o h => b x o (ne_of_none h n) (e x o h)
theorem Ex.new {H : Hp} {p : Addr} {o : HO} (h : H p = none) : Ex H (upd H p o) := fun a u e => by
  rw [upd_ne (ne_of_none e h)]
  exact e
theorem Kp.upd {H : Hp} {d : Addr} {o : HO} : Kp d H (upd H d o) := fun a u n e => by
  rw [upd_ne n]
  exact e
theorem free_back {H H' : Hp} {p : Addr} (e : Ex H H') (h : H' p = none) : H p = none := by
  cases h1 : H p with
  | none => rfl
  | some o =>
    rw [e p o h1] at h
    cases h
theorem rd_up {H H' : Hp} {a : Addr} {u : HO} (e : Ex H H') (h : Rd H a u) : Rd H' a u := by
  rcases h with h | ⟨o, h⟩
  · exact Or.inl (e a _ h)
  · exact Or.inr ⟨o, e a _ h⟩
theorem sql_up {K : PySem.W.Frag} {H H' : Hp} {a : Addr} {xs : List V} (e : Ex H H') (h : SqL K H a xs) : SqL K H' a xs := by
  rcases h with h | h
  · exact Or.inl (rd_up e h)
  · exact Or.inr h
theorem sqt_up {K : PySem.W.Frag} {H H' : Hp} {a : Addr} {xs : List V} (e : Ex H H') (h : SqT K H a xs) : SqT K H' a xs := by
  rcases h with h | h
  · exact Or.inl (rd_up e h)
  · exact Or.inr h
/-- the list of drawn digits at d -/
def Dr (H : Hp) (d : Addr) : Prop := ∃ x y : Int, H d = some (.lst [.int x, .int y]) ∧ 0 ≤ y ∧ y < 2147483647
theorem Dr.up {H H' : Hp} {d : Addr} (D : Dr H d) (e : Ex H H') : Dr H' d := by
  obtain ⟨x, y, h, r⟩ := D
  exact ⟨x, y, e _ _ h, r⟩
theorem Kp.tup {H H' : Hp} {d p : Addr} {xs : List V} (k : Kp d H H') (D : Dr H d) (h : H p = some (.tup xs)) : H' p = some (.tup xs) := by
  obtain ⟨x, y, e, _⟩ := D
  exact k _ _ (ne_of h e (by intro z; cases z)) h
theorem Kp.frz {H H' : Hp} {d p : Addr} {o : Obj} {u : HO} (k : Kp d H H') (D : Dr H d) (h : H p = some (.frz o u)) : H' p = some (.frz o u) := by
  obtain ⟨x, y, e, _⟩ := D
  exact k _ _ (ne_of h e (by intro z; cases z)) h
theorem Dr.free {H : Hp} {d p : Addr} (D : Dr H d) (h : H p = none) : p ≠ d := fun e => by
  obtain ⟨x, y, k, _⟩ := D
  rw [e, k] at h
  cases h
theorem free_kp {H H' : Hp} {d p : Addr} (e : Kp d H H') (D' : Dr H' d) (h : H' p = none) : H p = none := by
  cases q : H p with
  | none => rfl
  | some o =>
    rw [e p o (D'.free h) q] at h
    cases h
theorem sqt_kp {K : PySem.W.Frag} {H H' : Hp} {d a : Addr} {xs : List V} (e : Kp d H H') (D : Dr H d) (h : SqT K H a xs) : SqT K H' a xs := by
  rcases h with (h | ⟨o, h⟩) | h
  · exact Or.inl (Or.inl (e.tup D h))
  · exact Or.inl (Or.inr ⟨o, e.frz D h⟩)
  · exact Or.inr h

/-! ### sizes -/
def Sz (n : Nat) (x : Int) : Prop := x.natAbs < 2 ^ n
theorem Sz.mono {n m : Nat} {x : Int} (h : Sz n x) (l : n ≤ m) : Sz m x := Nat.lt_of_lt_of_le h (Nat.pow_le_pow_right (by decide) l)
theorem Sz.mul {n m : Nat} {x y : Int} (h : Sz n x) (k : Sz m y) : Sz (n + m) (x * y) := wide_lt h k
theorem Sz.add {n m : Nat} {x y : Int} (h : Sz n x) (k : Sz m y) : Sz (n + m + 1) (x + y) := by
  have h' : x.natAbs < 2 ^ n := h
  have k' : y.natAbs < 2 ^ m := k
  have a : 2 ^ n ≤ 2 ^ (n + m) := Nat.pow_le_pow_right (by decide) (Nat.le_add_right _ _)
  have b : 2 ^ m ≤ 2 ^ (n + m) := Nat.pow_le_pow_right (by decide) (Nat.le_add_left _ _)
  show (x + y).natAbs < 2 ^ (n + m + 1)
  rw [Nat.pow_succ]
  omega
theorem Sz.neg {n : Nat} {x : Int} (h : Sz n x) : Sz n (-x) := by
  show (-x).natAbs < 2 ^ n
  rw [Int.natAbs_neg]
  exact h
theorem Sz.sub {n m : Nat} {x y : Int} (h : Sz n x) (k : Sz m y) : Sz (n + m + 1) (x - y) := by
  have := h.add k.neg
  rw [Int.sub_eq_add_neg]
  exact this
theorem Sz.div {n : Nat} {x y : Int} (h : Sz n x) (p : 0 < y) : Sz n (x / y) := by
  have h' : x.natAbs < 2 ^ n := h
  show (x / y).natAbs < 2 ^ n
  have l : (x / y).natAbs ≤ x.natAbs := by
    have e := Int.emod_add_mul_ediv x y
    have e1 := Int.emod_nonneg x (show y ≠ 0 by omega)
    have e2 := Int.emod_lt_of_pos x p
    by_cases hx : 0 ≤ x
    · have q0 : 0 ≤ x / y := Int.ediv_nonneg hx (by omega)
      have q1 : x / y ≤ x := Int.ediv_le_self _ hx
      omega
    · have q0 : x / y < 0 := Int.ediv_neg_of_neg_of_pos (by omega) p
      have q1 : x ≤ x / y := by
        have : (x / y) * y ≤ (x / y) * 1 := Int.mul_le_mul_of_nonpos_left (by omega) (by omega)
        have e' : x / y * y ≥ x - (y - 1) := by
          have : y * (x / y) = x / y * y := Int.mul_comm _ _
          omega
        by_cases hq : x / y = -1
        · omega
        · have q2 : x / y + 1 ≤ -1 := by omega
          have q3 : (x / y + 1) * y ≤ (x / y + 1) * 1 := Int.mul_le_mul_of_nonpos_left (by omega) (by omega)
          have q4 : (x / y + 1) * y = x / y * y + y := by rw [Int.add_mul, Int.one_mul]
          have : y * (x / y) = x / y * y := Int.mul_comm _ _
          omega
      omega
  omega
theorem Sz.mod {n : Nat} {x y : Int} (h : Sz n y) (p : 0 < y) : Sz n (x % y) := by
  have e1 := Int.emod_nonneg x (show y ≠ 0 by omega)
  have e2 := Int.emod_lt_of_pos x p
  have h' : y.natAbs < 2 ^ n := h
  show (x % y).natAbs < 2 ^ n
  omega
theorem Sz.le {n : Nat} {x y : Int} (h : Sz n y) (a : -y ≤ x) (b : x ≤ y) : Sz n x := by
  have h' : y.natAbs < 2 ^ n := h
  show x.natAbs < 2 ^ n
  omega
theorem Sz.lit {x : Int} (h : x.natAbs < 2 ^ 200 := by decide) : Sz 200 x := h
theorem mulW {i j : Int} {n m : Nat} (a : Sz n i) (b : Sz m j) (h : n + m ≤ 900000 := by decide) : CMulW i j :=
  wide_mul (a.mono (Nat.le_succ n)) (b.mono (Nat.le_succ m)) (Nat.succ_pos _) (Nat.succ_pos _) (by omega)
theorem divW {i j : Int} {n : Nat} (p : 0 < j) (a : Sz n j) (h : n ≤ 8999 := by decide) : CDivW i j :=
  wide_div p (a.mono (Nat.le_succ n)) (Nat.succ_pos _) (by omega)

/-- a product of two numbers, one small or both of a known size -/
def CMulX (i j : Int) : Prop := CMul i j ∨ CMulW i j
theorem op_mulX {X : Cx} : OpR X (binaryOp .Mult) (rI CMulX fun i j => .int (i * j)) := opI fun _ _ _ _ _ _ _ hc q => mul_int q (hc.elim (fun h => h.ok) (fun h => h.ok))
theorem mulX {i j : Int} {n m : Nat} (a : Sz n i) (b : Sz m j) (h : n + m ≤ 900000 := by decide) : CMulX i j := .inr (mulW a b h)
theorem mulR {i j : Int} (h : -(2 ^ 64) < j ∧ j < 2 ^ 64) : CMulX i j := .inl (.inr h)
theorem mulL {i j : Int} (h : -(2 ^ 64) < i ∧ i < 2 ^ 64) : CMulX i j := .inl (.inl h)
/-! ### defs of the top, by their names -/
/-- the def named x stands as st -/
def DefAt (K : PySem.W.Frag) (mg : Str → Option Value) (x : Str) (st : Stmt) (ps : List Str) : Prop :=
  ∃ f fd, Fun K x x st f fd ∧ mg x = some (.ref f) ∧ Binds K fd ps []
/-- the def named x keeps the promise sp -/
def Has (P : Program) (w : World) (K : PySem.W.Frag) (mg : Str → Option Value) (base : Heap) (CX : CXT) (k : Nat) (x : Str) (ps : List Str) (sp : Sp) : Prop :=
  ∃ f fd, mg x = some (.ref f) ∧ PySem.W.keepIn K (.ref f) = true ∧ Binds K fd ps [] ∧ FnOk P w K mg base CX k f fd ps sp
theorem def_mk {K : PySem.W.Frag} {h : Heap} {mg : Str → Option Value} {x : Str} {st : Stmt} {ps : List Str} {f : Addr} {oc : Value} {od an : Option Addr} {osl : Array (Option Value)} {kV doc pm cdv ct : Value} (X : K.In h) (G : h.Ns mainGlobals mg)
    (a : PySem.W.nsIn K mainGlobals x = some (some (.ref f))) (l : K.lookup f = some ⟨oc, od, .func (PySem.W.fnOf x x (defArgs st) (defBody st) (defScope st) .none kV doc pm an cdv ct), osl⟩)
    (c : PySem.W.codeIn K cdv x = true) (k : PySem.W.keepIn K (.ref f) = true)
    (b : ∀ (kV doc pm : Value) (an : Option Addr) (cdv ct : Value) (us : List Value), us.length = ps.length → bindArgs (PySem.W.fnOf x x (defArgs st) (defBody st) (defScope st) .none kV doc pm an cdv ct) ⟨us, []⟩ = pure (ps.zip us)) : DefAt K mg x st ps :=
  ⟨f, _, fun_mk l c k, PySem.W.mg_of X G a, (fun_mk l c k).binds b⟩
section
variable {P : Program} {w : World} {K : PySem.W.Frag} {mg : Str → Option Value} {base : Heap}
theorem DefAt.ok {x : Str} {st : Stmt} {N ps : List Str} {k : Nat} {sp : Sp} (D : DefAt K mg x st ps) (S : FnScope N ps (defScope st)) (len : ∀ vs H Q E, sp vs H Q E → vs.length = ps.length)
    (hbody : ∀ (f : Addr) (cdv : Value) (A : Around) (outer : List Env) (s : Shared) (H : Hp) (vs : List V) (Q : VK) (E : XK), Room k (A.deeper (envOfC x (defScope st) s.heap.objs.size f cdv)) → sp vs H Q E →
      ∃ t, PSs (cxOf CX0 P w K mg base N x (defScope st) f cdv A outer s H E).nox (defBody st) t ∧ t { nx := fun _ H' => Q .non H', rt := Q } (start N vs) H) : Has P w K mg base CX0 (k + 1) x ps sp := by
  obtain ⟨f, fd, F, m, b⟩ := D
  exact ⟨f, fd, m, F.kp, b, F.ok S len fun cdv A outer s H vs Q E hr h => hbody f cdv A outer s H vs Q E hr h⟩
theorem Has.mono {CX : CXT} {x : Str} {ps : List Str} {j k : Nat} {sp : Sp} (G : Has P w K mg base CX j x ps sp) (h : j ≤ k) : Has P w K mg base CX k x ps sp := by
  obtain ⟨f, fd, m, kp, b, F⟩ := G
  exact ⟨f, fd, m, kp, b, F.mono h⟩
end
theorem Has.alias {P : Program} {w : World} {K : PySem.W.Frag} {mg : Str → Option Value} {base : Heap} {CX : CXT} {x y : Str} {ps : List Str} {k : Nat} {sp : Sp} (G : Has P w K mg base CX k x ps sp) (e : mg y = mg x) : Has P w K mg base CX k y ps sp := by
  obtain ⟨f, fd, m, kp, b, F⟩ := G
  exact ⟨f, fd, e.trans m, kp, b, F⟩
/-- f(e, ..), f a def of the top; nothing is raised -/
def tCal (sp : Sp) (E : XK) (t : TA) : TE := fun σ H Q => t σ H fun vs H1 => sp vs H1 Q E
section
variable {X : Cx} {x : Str} {p pos : Pos} {e : Expr} {es : List Expr} {t : TA} {k : Nat} {ps : List Str} {sp : Sp}
theorem pcall (G : Has X.prog X.w X.K X.mg X.base CX0 k x ps sp) (hr : Room k X.A) (ha : PA X (e :: es) t) (hg : Gl X x := by rfl)
    (hdb : (x == ("__debug__" : Str)) = false := by decide) (he : starEach (e :: es) X.env = (false, eval e X.env) :: starEach es X.env := by rfl) (hpl : (backTo pos (starEach es X.env)).any (·.1) = false := by rfl) :
    PE X (.Call (.Name x p) (e :: es) [] pos) (tCal sp E0 t) := by
  obtain ⟨f, fd, m, kp, b, F⟩ := G
  have q := pe_call (p := p) F hr hg m kp b (dvs := []) .nil pass0 ha hdb he hpl
  refine ⟨fun pins s σ H Q I h => q.run pins s σ H Q I ?_⟩
  have h' : t σ H fun vs H1 => sp vs H1 Q E0 := h
  show t σ H fun vs H1 => sp (vs ++ []) H1 Q E0
  have ee : (fun (vs : List V) (H1 : Hp) => sp (vs ++ []) H1 Q E0) = fun vs H1 => sp vs H1 Q E0 := by
    funext vs H1
    rw [List.append_nil]
  rw [ee]
  exact h'
end

theorem cx_K {CX : CXT} {P : Program} {w : World} {K : PySem.W.Frag} {mg : Str → Option Value} {base : Heap} {N : List Str} {qual : Str} {scope : Scope} {f : Addr} {cd : Value} {A : Around} {outer : List Env} {s : Shared} {H : Hp} {E : XK} :
    (cxOf CX P w K mg base N qual scope f cd A outer s H E).K = K := rfl
/-- a statement, then the rest, with a word between them -/
def tCut (t u : TS) : TS := fun D σ H => ∃ M : L2.St → Hp → Prop, t { D with nx := M } σ H ∧ ∀ σ' H', M σ' H' → u D σ' H'
theorem pcut {X : Cx} {st : Stmt} {rest : List Stmt} {t u : TS} (h1 : PS X st t) (h2 : PSs X rest u) : PSs X (st :: rest) (tCut t u) := by
  refine ⟨fun pins s σ H D I h => ?_⟩
  obtain ⟨M, hm, hu⟩ := h
  refine wpAny_execs_cons (thn (h1.run pins s σ H { D with nx := M } I hm) fun f s1 q => ?_)
  cases f with
  | next =>
    obtain ⟨σ', H', I', q⟩ := q
    exact h2.run pins s1 σ' H' D I' (hu σ' H' q)
  | ret v => exact q
  | brk => exact q
  | cont => exact q
/-- a op b op c op d, a test -/
def tChain3 (r r' r'' : R2) (ta tb tc td : TE) : TT := fun σ H Q => ta σ H fun x H1 => tb σ H1 fun y H2 => r x y H2 fun z H3 => ∃ k, z = .bl k ∧
  (if k = true then tc σ H3 fun w' H4 => r' y w' H4 fun z2 H5 => ∃ k2, z2 = .bl k2 ∧ (if k2 = true then td σ H5 fun u' H6 => r'' w' u' H6 fun z3 H7 => ∃ k3, z3 = .bl k3 ∧ Q k3 H7 else Q false H5) else Q false H3)
theorem pt_chain3 {X : Cx} {a b c d : Expr} {ta tb tc td : TE} {pos : Pos} {op op' op'' : CmpOp} {r r' r'' : R2} (ho : OpR X (compareOp op) r) (ho' : OpR X (compareOp op') r') (ho'' : OpR X (compareOp op'') r'') (ha : PE X a ta) (hb : PE X b tb) (hc : PE X c tc) (hd : PE X d td)
    (hm : lastMarks [op, op', op''] [b, c, d] = false := by with_unfolding_all rfl) : PT X (.Compare a [op, op', op''] [b, c, d] pos) (tChain3 r r' r'' ta tb tc td) := by
  refine ⟨fun pins s σ H Q I h => ?_⟩
  refine isTrue_chain (thn (ha.run pins s σ H _ I h) fun v s1 ⟨x, H1, I1, r1, q1⟩ => test_link (thn (hb.run pins s1 σ H1 _ I1 q1) fun u s2 ⟨y, H2, I2, r2, q2⟩ =>
    thn (ho pins s2 σ H2 x y v u _ I2 r1 r2 q2) fun d s3 ⟨z, H3, I3, r3, k, e, q3⟩ => ?_)) hm
  subst e
  cases r3
  refine wpAny_truthy_bool ?_
  cases k with
  | false => exact ite_ff ⟨H3, I3, q3⟩
  | true =>
    refine ite_tt (test_link (thn (hc.run pins s3 σ H3 _ I3 q3) fun w' s4 ⟨z', H4, I4, r4, q4⟩ => thn (ho' pins s4 σ H4 y z' u w' _ I4 r2 r4 q4) fun d' s5 ⟨z2, H5, I5, r5, k2, e2, q5⟩ => ?_))
    subst e2
    cases r5
    refine wpAny_truthy_bool ?_
    cases k2 with
    | false => exact ite_ff ⟨H5, I5, q5⟩
    | true =>
      refine ite_tt (test_last (thn (hd.run pins s5 σ H5 _ I5 q5) fun w2 s6 ⟨z6, H6, I6, r6, q6⟩ => thn (ho'' pins s6 σ H6 z' z6 w' w2 _ I6 r4 r6 q6) fun d7 s7 ⟨z7, H7, I7, r7, k7, e7, q7⟩ => ?_))
      subst e7
      cases r7
      exact wpAny_truthy_bool ⟨H7, I7, q7⟩
/-! ### readings, step by step -/
section
variable {K : PySem.W.Frag} {σ : L2.St} {H : Hp} {Q : VK} {QT : Bool → Hp → Prop} {QA : List V → Hp → Prop} {ta tb tc te : TE} {t u : TT} {tr : TA} {v x y : V} {i j : Int} {D : Ends} {s1 s2 : TS}
theorem r_var {n : Nat} (h : σ[n]? = some (some v)) (k : Q v H) : tVar n σ H Q := ⟨v, h, k⟩
theorem r_c (k : Q v H) : tC v σ H Q := k
theorem r_op {r : R2} (k : ta σ H fun x H1 => tb σ H1 fun y H2 => r x y H2 Q) : tOp r ta tb σ H Q := k
theorem r_un {r : V → Hp → VK → Prop} (k : ta σ H fun x H1 => r x H1 Q) : tUn r ta σ H Q := k
theorem r_I0 {g : Int → Int → V} (k : Q (g i j) H) : rI0 g (.int i) (.int j) H Q := ⟨i, j, rfl, rfl, k⟩
theorem r_I {C : Int → Int → Prop} {g : Int → Int → V} (c : C i j) (k : Q (g i j) H) : rI C g (.int i) (.int j) H Q := ⟨i, j, rfl, rfl, c, k⟩
theorem r_mul (c : CMulX i j) (k : Q (.int (i * j)) H) : rI CMulX (fun i j => .int (i * j)) (.int i) (.int j) H Q := r_I c k
theorem r_div (c : CDivW i j) (k : Q (.int (i / j)) H) : rI CDivW (fun i j => .int (i / j)) (.int i) (.int j) H Q := r_I c k
theorem r_mod (c : 0 < j) (k : Q (.int (i % j)) H) : rI (fun _ j => 0 < j) (fun i j => .int (i % j)) (.int i) (.int j) H Q := ⟨i, j, rfl, rfl, c, k⟩
theorem r_pow (c : CPow i j) (k : Q (.int (i ^ j.toNat)) H) : rI CPow (fun i j => .int (i ^ j.toNat)) (.int i) (.int j) H Q := r_I c k
theorem r_p6 (k : Q (.int 1000000) H) : rI CPow (fun i j => .int (i ^ j.toNat)) (.int 10) (.int 6) H Q := r_I ⟨by decide, by decide, by decide⟩ (by rw [show (10 : Int) ^ Int.toNat 6 = 1000000 by decide +kernel]; exact k)
theorem r_p15 (k : Q (.int 1000000000000000) H) : rI CPow (fun i j => .int (i ^ j.toNat)) (.int 10) (.int 15) H Q := r_I ⟨by decide, by decide, by decide⟩ (by rw [show (10 : Int) ^ Int.toNat 15 = 1000000000000000 by decide +kernel]; exact k)
theorem r_p18 (k : Q (.int 1000000000000000000) H) : rI CPow (fun i j => .int (i ^ j.toNat)) (.int 10) (.int 18) H Q := r_I ⟨by decide, by decide, by decide⟩ (by rw [show (10 : Int) ^ Int.toNat 18 = 1000000000000000000 by decide +kernel]; exact k)
theorem r_p24 (k : Q (.int 1000000000000000000000000) H) : rI CPow (fun i j => .int (i ^ j.toNat)) (.int 10) (.int 24) H Q := r_I ⟨by decide, by decide, by decide⟩ (by rw [show (10 : Int) ^ Int.toNat 24 = 1000000000000000000000000 by decide +kernel]; exact k)
theorem r_p29 (k : Q (.int 100000000000000000000000000000) H) : rI CPow (fun i j => .int (i ^ j.toNat)) (.int 10) (.int 29) H Q := r_I ⟨by decide, by decide, by decide⟩ (by rw [show (10 : Int) ^ Int.toNat 29 = 100000000000000000000000000000 by decide +kernel]; exact k)
theorem r_p30 (k : Q (.int 1000000000000000000000000000000) H) : rI CPow (fun i j => .int (i ^ j.toNat)) (.int 10) (.int 30) H Q := r_I ⟨by decide, by decide, by decide⟩ (by rw [show (10 : Int) ^ Int.toNat 30 = 1000000000000000000000000000000 by decide +kernel]; exact k)
theorem r_p60 (k : Q (.int 1000000000000000000000000000000000000000000000000000000000000) H) : rI CPow (fun i j => .int (i ^ j.toNat)) (.int 10) (.int 60) H Q := r_I ⟨by decide, by decide, by decide⟩ (by rw [show (10 : Int) ^ Int.toNat 60 = 1000000000000000000000000000000000000000000000000000000000000 by decide +kernel]; exact k)
theorem r_U {g : Int → V} (k : Q (g i) H) : rU g (.int i) H Q := ⟨i, rfl, k⟩
theorem r_eqI (k : Q (.bl (decide (i = j))) H) : rEq (.int i) (.int j) H Q := ⟨rfl, by
  have e : decide (V.int i = V.int j) = decide (i = j) := by
    by_cases h : i = j
    · subst h
      rw [decide_eq_true rfl, decide_eq_true rfl]
    · rw [decide_eq_false h, decide_eq_false (fun z => h (V.int.inj z))]
  rw [e]
  exact k⟩
theorem r_neI (k : Q (.bl (!decide (i = j))) H) : rNe (.int i) (.int j) H Q := ⟨rfl, by
  have e : decide (V.int i = V.int j) = decide (i = j) := by
    by_cases h : i = j
    · subst h
      rw [decide_eq_true rfl, decide_eq_true rfl]
    · rw [decide_eq_false h, decide_eq_false (fun z => h (V.int.inj z))]
  rw [e]
  exact k⟩
theorem r_eqB {a b : Bool} (k : Q (.bl (a == b)) H) : rEq (.bl a) (.bl b) H Q := ⟨rfl, by rw [dec_bl]; exact k⟩
theorem r_neB {a b : Bool} (k : Q (.bl (!(a == b))) H) : rNe (.bl a) (.bl b) H Q := ⟨rfl, by rw [dec_bl]; exact k⟩
theorem r_eqS {a b : Str} (k : Q (.bl (a == b)) H) : rEq (.str a) (.str b) H Q := ⟨rfl, by rw [dec_str]; exact k⟩
theorem r_neS {a b : Str} (k : Q (.bl (!(a == b))) H) : rNe (.str a) (.str b) H Q := ⟨rfl, by rw [dec_str]; exact k⟩
theorem r_test (k : te σ H fun x H' => ∃ b, x = .bl b ∧ QT b H') : tTest te σ H QT := k
theorem r_tB (k : te σ H fun x H' => ∃ b, x = .bl b ∧ QT b H') : tB te σ H QT := k
theorem r_bl {b : Bool} (k : QT b H) : ∃ b', V.bl b = .bl b' ∧ QT b' H := ⟨b, rfl, k⟩
theorem r_not (k : t σ H fun b H1 => QT (!b) H1) : tNot t σ H QT := k
theorem r_and (k : t σ H fun b H1 => if b = true then u σ H1 QT else QT false H1) : tAnd t u σ H QT := k
theorem r_or (k : t σ H fun b H1 => if b = true then QT true H1 else u σ H1 QT) : tOr t u σ H QT := k
theorem r_notV (k : ta σ H fun x H1 => ∃ c, x = .bl c ∧ Q (.bl (!c)) H1) : tNotV ta σ H Q := k
theorem r_andV (k : ta σ H fun x H1 => ∃ c, x = .bl c ∧ if c = true then tb σ H1 Q else Q (.bl false) H1) : tAndV ta tb σ H Q := k
theorem r_orV (k : ta σ H fun x H1 => ∃ c, x = .bl c ∧ if c = true then Q (.bl true) H1 else tb σ H1 Q) : tOrV ta tb σ H Q := k
theorem r_blV {b : Bool} {R : Bool → Prop} (k : R b) : ∃ c, V.bl b = .bl c ∧ R c := ⟨b, rfl, k⟩
theorem r_chain {r r' : R2} (k : ta σ H fun x H1 => tb σ H1 fun y H2 => r x y H2 fun z H3 => ∃ k, z = .bl k ∧ (if k = true then tc σ H3 fun w' H4 => r' y w' H4 Q else Q (.bl false) H3)) : tChain r r' ta tb tc σ H Q := k
theorem r_chain3 {r r' r'' : R2} {td : TE} (k : ta σ H fun x H1 => tb σ H1 fun y H2 => r x y H2 fun z H3 => ∃ k, z = .bl k ∧ (if k = true then tc σ H3 fun w' H4 => r' y w' H4 fun z2 H5 => ∃ k2, z2 = .bl k2 ∧ (if k2 = true then td σ H5 fun u' H6 => r'' w' u' H6 fun z3 H7 => ∃ k3, z3 = .bl k3 ∧ QT k3 H7 else QT false H5) else QT false H3)) : tChain3 r r' r'' ta tb tc td σ H QT := k
theorem r_if (k : t σ H fun c H1 => if c = true then ta σ H1 Q else tb σ H1 Q) : tIf t ta tb σ H Q := k
theorem r_cons (k : ta σ H fun x H1 => tr σ H1 fun xs H2 => QA (x :: xs) H2) : tCons ta tr σ H QA := k
theorem r_nil (k : QA [] H) : tNil σ H QA := k
theorem r_cal {sp : Sp} {E : XK} (k : tr σ H fun vs H1 => sp vs H1 Q E) : tCal sp E tr σ H Q := k
/-- a new tuple, a new list -/
def NewT (xs : List V) (H : Hp) (Q : VK) : Prop := xs.length ≤ sizeLine ∧ ∀ p, H p = none → Q (.ref p) (upd H p (.tup xs))
def NewL (xs : List V) (H : Hp) (Q : VK) : Prop := xs.length ≤ sizeLine ∧ ∀ p, H p = none → Q (.ref p) (upd H p (.lst xs))
theorem r_tup (k : tr σ H fun xs H1 => NewT xs H1 Q) : tTup tr σ H Q := k
theorem r_lst (k : tr σ H fun xs H1 => NewL xs H1 Q) : tLst tr σ H Q := k
theorem sz_of {n : Nat} (h : n ≤ 100000) : n ≤ sizeLine := Nat.le_trans h (by decide)
theorem r_newT {xs : List V} (h : xs.length ≤ 100000) (k : ∀ p H1, H p = none → Ex H H1 → H1 p = some (.tup xs) → Q (.ref p) H1) : NewT xs H Q := ⟨sz_of h, fun p hp => k p _ hp (Ex.new hp) upd_same⟩
theorem r_newL {xs : List V} (h : xs.length ≤ 100000) (k : ∀ p H1, H p = none → Ex H H1 → H1 p = some (.lst xs) → Q (.ref p) H1) : NewL xs H Q := ⟨sz_of h, fun p hp => k p _ hp (Ex.new hp) upd_same⟩
theorem r_ixT {p : Addr} {xs : List V} (h : SqT K H p xs) (a : atI xs i = some v) (k : Q v H) : rIxT K (.ref p) (.int i) H Q := ⟨p, xs, i, v, rfl, rfl, h, a, k⟩
theorem r_ixL {p : Addr} {xs : List V} (h : SqL K H p xs) (a : atI xs i = some v) (k : Q v H) : rIxL K (.ref p) (.int i) H Q := ⟨p, xs, i, v, rfl, rfl, h, a, k⟩
/-! statements -/
theorem r_seq (k : s1 { D with nx := s2 D } σ H) : tSeq s1 s2 D σ H := k
theorem r_asg {n : Nat} (k : te σ H fun x H1 => D.nx (σ.set n (some x)) H1) : tAsg te (gName n) D σ H := k
theorem r_asgG {g : TG} (k : te σ H fun x H1 => g x σ H1 D.nx) : tAsg te g D σ H := k
theorem r_drop (k : te σ H fun _ H1 => D.nx σ H1) : tDrop te D σ H := k
theorem r_ret (k : te σ H D.rt) : tRet te D σ H := k
theorem r_retN (k : D.rt .non H) : tRetN D σ H := k
theorem r_ifS (k : t σ H fun b H1 => if b = true then s1 D σ H1 else s2 D σ H1) : tIfS t s1 s2 D σ H := k
theorem r_next (k : D.nx σ H) : tNext D σ H := k
theorem r_gTup {p : Addr} {xs : List V} {n : Nat} {g : TGs} {QS : L2.St → Hp → Prop} (h : SqT K H p xs) (l : xs.length = n) (k : g xs σ H QS) : gTup K n g (.ref p) σ H QS := ⟨p, xs, rfl, h, l, k⟩
theorem r_gCons {g : TG} {gs : TGs} {xs : List V} {QS : L2.St → Hp → Prop} (k : g x σ H fun σ' H' => gs xs σ' H' QS) : gCons g gs (x :: xs) σ H QS := ⟨x, xs, rfl, k⟩
theorem r_gNil {QS : L2.St → Hp → Prop} (k : QS σ H) : gNil [] σ H QS := ⟨rfl, k⟩
theorem r_gName {n : Nat} {QS : L2.St → Hp → Prop} (k : QS (σ.set n (some x)) H) : gName n x σ H QS := k
theorem r_par {n m : Nat} (k : tr σ H fun vs H1 => ∃ v w, vs = [v, w] ∧ D.nx ((σ.set n (some v)).set m (some w)) H1) : tPar n m tr D σ H := k
theorem r_parE {R : V → V → Prop} (k : R x y) : ∃ v w, [x, y] = [v, w] ∧ R v w := ⟨x, y, rfl, k⟩
theorem r_par3 {n m l : Nat} (k : tr σ H fun vs H1 => ∃ u v w, vs = [u, v, w] ∧ D.nx (((σ.set n (some u)).set m (some v)).set l (some w)) H1) : tPar3 n m l tr D σ H := k
theorem r_parE3 {z : V} {R : V → V → V → Prop} (k : R x y z) : ∃ u v w, [x, y, z] = [u, v, w] ∧ R u v w := ⟨x, y, z, rfl, k⟩
theorem r_aug {n : Nat} {f : Int → Int → Int} (h : σ[n]? = some (some (.int i))) (k : te σ H fun y H1 => ipI f (.int i) y H1 fun z H2 => D.nx (σ.set n (some z)) H2) : tAug n te (ipI f) D σ H := ⟨.int i, h, k⟩
theorem r_ipI {f : Int → Int → Int} (k : Q (.int (f i j)) H) : ipI f (.int i) (.int j) H Q := ⟨i, j, rfl, rfl, k⟩
theorem r_cut {t u : TS} (M : L2.St → Hp → Prop) (h : t { D with nx := M } σ H) (k : ∀ σ' H', M σ' H' → u D σ' H') : tCut t u D σ H := ⟨M, h, k⟩
/-! tests decided -/
theorem r_nx {f : L2.St → Hp → Prop} {g : VK} {b c : L2.St → Hp → Prop} (k : f σ H) : Ends.nx ⟨f, g, b, c⟩ σ H := k
theorem r_nxS {f : L2.St → Hp → Prop} {g : VK} {b c : L2.St → Hp → Prop} {n : Nat} {z : Option V} {l' : L2.St} (h : σ.set n z = l') (k : f l' H) : Ends.nx ⟨f, g, b, c⟩ (σ.set n z) H := by rw [h]; exact k
theorem set_z {x v : Option V} {l : L2.St} : List.set (x :: l) 0 v = v :: l := rfl
theorem set_s {x v : Option V} {n : Nat} {l l' : L2.St} (h : l.set n v = l') : List.set (x :: l) (n + 1) v = x :: l' := by rw [← h]; rfl
theorem set_in {v : Option V} {n : Nat} {e e' l' : L2.St} (h1 : e = e') (h2 : e'.set n v = l') : e.set n v = l' := by rw [h1]; exact h2
theorem r_rt {f : L2.St → Hp → Prop} {g : VK} {b c : L2.St → Hp → Prop} (k : g v H) : Ends.rt ⟨f, g, b, c⟩ v H := k
theorem not_t {b : Bool} (h : b = false) : (!b) = true := by rw [h]; rfl
theorem not_f {b : Bool} (h : b = true) : (!b) = false := by rw [h]; rfl
theorem if_T {b : Bool} {A B : Prop} (h : b = true) (k : A) : if b = true then A else B := by rw [if_pos h]; exact k
theorem if_F {b : Bool} {A B : Prop} (h : b = false) (k : B) : if b = true then A else B := by
  rw [h, if_neg Bool.false_ne_true]
  exact k
theorem if_2 {b : Bool} {A B : Prop} (h1 : b = true → A) (h2 : b = false → B) : if b = true then A else B := by
  cases b with
  | true => exact if_T rfl (h1 rfl)
  | false => exact if_F rfl (h2 rfl)
/-- what is set into the tuple of the draws -/
theorem r_setL {o : Addr} {xs : List V} {k0 : Nat} {z : V} {Qh : Hp → Prop} (h : H o = some (.lst xs)) (hi : ixN xs.length i = some k0) (k : Qh (upd H o (.lst (xs.set k0 z)))) : rSetL (.ref o) (.int i) z H Qh := ⟨o, xs, i, k0, rfl, rfl, h, hi, k⟩
theorem r_gSub {to ti : TE} {ts : TSet} {QS : L2.St → Hp → Prop} (k : to σ H fun o H1 => ti σ H1 fun i H2 => ts o i v H2 fun H3 => QS σ H3) : gSub to ti ts v σ H QS := k
end

/-! calls of built-ins, walks -/
def rLen (K : PySem.W.Frag) : List V → Hp → VK → Prop := fun xs H Q => ∃ p ys, xs = [.ref p] ∧ (SqL K H p ys ∨ SqT K H p ys) ∧ Q (.int ys.length) H
theorem cl_len {X : Cx} : CallR X (.builtin "len") (rLen X.K) := call_len_seq
def rLenStr : List V → Hp → VK → Prop := fun xs H Q => ∃ z, xs = [.str z] ∧ z.length ≤ sizeLine ∧ Q (.int z.length) H
theorem cl_lenS {X : Cx} : CallR X (.builtin "len") rLenStr := call_len_str
def rAbs : List V → Hp → VK → Prop := fun xs H Q => ∃ i, xs = [.int i] ∧ Q (.int (if i < 0 then -i else i)) H
theorem cl_abs {X : Cx} : CallR X (.builtin "abs") rAbs := call_abs
def rMax2 : List V → Hp → VK → Prop := fun xs H Q => ∃ i j, xs = [.int i, .int j] ∧ Q (.int (if j > i then j else i)) H
def rMin2 : List V → Hp → VK → Prop := fun xs H Q => ∃ i j, xs = [.int i, .int j] ∧ Q (.int (if j < i then j else i)) H
theorem cl_max2 {X : Cx} (hc : X.calm = true) : CallR X (.builtin "max") rMax2 := call_max2 hc
theorem cl_min2 {X : Cx} (hc : X.calm = true) : CallR X (.builtin "min") rMin2 := call_min2 hc
def rMin3 : List V → Hp → VK → Prop := fun xs H Q => ∃ i j k, xs = [.int i, .int j, .int k] ∧ Q (.int (min (min i j) k)) H
theorem nu_min3 (i j k : Int) : nuMin3 (.int i) (.int j) (.int k) = some (.int (min (min i j) k)) := by
  have h1 : (if decide (j < i) = true then V.int j else V.int i) = V.int (min i j) := by
    by_cases h : j < i
    · rw [decide_eq_true h, if_pos rfl, show min i j = j by omega]
    · rw [decide_eq_false h, if_neg (by decide), show min i j = i by omega]
  have h2 : (if decide (k < min i j) = true then V.int k else V.int (min i j)) = V.int (min (min i j) k) := by
    by_cases h : k < min i j
    · rw [decide_eq_true h, if_pos rfl, show min (min i j) k = k by omega]
    · rw [decide_eq_false h, if_neg (by decide), show min (min i j) k = min i j by omega]
  rw [← h2, ← h1]
  unfold nuMin3
  show (some (if decide (j < i) = true then V.int j else V.int i)).bind _ = _
  rw [h1]
  rfl
theorem cl_min3 {X : Cx} (hc : X.calm = true) : CallR X (.builtin "min") rMin3 := fun pins s σ H xs us Q I r h => by
  obtain ⟨i, j, k, rfl, q⟩ := h
  exact call_min3Nu hc pins s σ H _ us Q I r ⟨_, _, _, _, rfl, nu_min3 i j k, q⟩
theorem r_min3 {H : Hp} {Q : VK} {i j k : Int} (q : Q (.int (min (min i j) k)) H) : rMin3 [.int i, .int j, .int k] H Q := ⟨i, j, k, rfl, q⟩
def rInt1 : List V → Hp → VK → Prop := fun xs H Q => (∃ i, xs = [.int i] ∧ Q (.int i) H) ∨ ∃ k, xs = [.bl k] ∧ Q (.int (if k then 1 else 0)) H
theorem cl_int1 {X : Cx} : CallR X (.type "int") rInt1 := call_int1
def rBool1 : List V → Hp → VK → Prop := fun xs H Q => (∃ i, xs = [.int i] ∧ Q (.bl (i != 0)) H) ∨ ∃ k, xs = [.bl k] ∧ Q (.bl k) H
theorem cl_bool1 {X : Cx} : CallR X (.type "bool") rBool1 := call_bool1
def rStrI : List V → Hp → VK → Prop := fun xs H Q => ∃ i, xs = [.int i] ∧ i.natAbs.log2 < 1920 ∧ Q (.str (toString i)) H
theorem cl_strI {X : Cx} : CallR X (.type "str") rStrI := call_str_int
section
variable {K : PySem.W.Frag} {σ : L2.St} {H : Hp} {Q : VK} {QT : Bool → Hp → Prop} {ta tb tc te : TE} {t u : TT} {tr : TA} {v x y : V} {i j : Int} {D : Ends} {s1 s2 : TS} {g : TG}
theorem r_CB {r : List V → Hp → VK → Prop} (k : tr σ H fun vs H1 => r vs H1 Q) : tCB r tr σ H Q := k
theorem r_lenL {p : Addr} {ys : List V} (h : SqL K H p ys) (k : Q (.int (ys.length : Nat)) H) : rLen K [.ref p] H Q := ⟨p, ys, rfl, .inl h, k⟩
theorem r_lenT {p : Addr} {ys : List V} (h : SqT K H p ys) (k : Q (.int (ys.length : Nat)) H) : rLen K [.ref p] H Q := ⟨p, ys, rfl, .inr h, k⟩
theorem r_lenS {z : Str} (h : z.length ≤ sizeLine) (k : Q (.int (z.length : Nat)) H) : rLenStr [.str z] H Q := ⟨z, rfl, h, k⟩
theorem r_abs (k : Q (.int (i.natAbs : Int)) H) : rAbs [.int i] H Q := ⟨i, rfl, by
  have e : (if i < 0 then -i else i) = (i.natAbs : Int) := by split <;> omega
  rw [e]
  exact k⟩
theorem r_max2 (k : Q (.int (max i j)) H) : rMax2 [.int i, .int j] H Q := ⟨i, j, rfl, by
  have e : (if j > i then j else i) = max i j := by split <;> omega
  rw [e]
  exact k⟩
theorem r_min2 (k : Q (.int (min i j)) H) : rMin2 [.int i, .int j] H Q := ⟨i, j, rfl, by
  have e : (if j < i then j else i) = min i j := by split <;> omega
  rw [e]
  exact k⟩
theorem r_intI (k : Q (.int i) H) : rInt1 [.int i] H Q := .inl ⟨i, rfl, k⟩
theorem r_intB {b : Bool} (k : Q (.int (if b = true then 1 else 0)) H) : rInt1 [.bl b] H Q := .inr ⟨b, rfl, k⟩
theorem r_isII (k : Q (.bl true) H) : rIsi K [.int i, .ty "int"] H Q := ⟨_, _, _, _, _, rfl, .ty _, .base (.int _), kit_ty (by decide +kernel), k⟩
theorem r_isIB (k : Q (.bl false) H) : rIsi K [.int i, .ty "bool"] H Q := ⟨_, _, _, _, _, rfl, .ty _, .base (.int _), kit_ty (by decide +kernel), k⟩
theorem r_isTT {p : Addr} {xs : List V} (h : H p = some (.tup xs)) (k : Q (.bl true) H) : rIsi K [.ref p, .ty "tuple"] H Q := ⟨_, _, _, _, _, rfl, .ty _, .base (.tup h), kit_ty (by decide +kernel), k⟩
theorem r_isLL {p : Addr} {xs : List V} (h : H p = some (.lst xs)) (k : Q (.bl true) H) : rIsi K [.ref p, .ty "list"] H Q := ⟨_, _, _, _, _, rfl, .ty _, .base (.lst h), kit_ty (by decide +kernel), k⟩
theorem r_isBB {b : Bool} (k : Q (.bl true) H) : rIsi K [.bl b, .ty "bool"] H Q := ⟨_, _, _, _, _, rfl, .ty _, .base (.bl _), kit_ty (by decide +kernel), k⟩
theorem r_isBI {b : Bool} (k : Q (.bl true) H) : rIsi K [.bl b, .ty "int"] H Q := ⟨_, _, _, _, _, rfl, .ty _, .base (.bl _), kit_ty (by decide +kernel), k⟩
theorem r_isSS {z : Str} (k : Q (.bl true) H) : rIsi K [.str z, .ty "str"] H Q := ⟨_, _, _, _, _, rfl, .ty _, .base (.str _), kit_ty (by decide +kernel), k⟩
theorem r_all {p : Addr} {bs : List Bool} (h : SqL K H p (bs.map V.bl)) (k : Q (.bl (bs.all id)) H) : rAll K [.ref p] H Q := ⟨p, bs, rfl, h, k⟩
theorem r_any {p : Addr} {bs : List Bool} (h : SqL K H p (bs.map V.bl)) (k : Q (.bl (bs.any id)) H) : rAny K [.ref p] H Q := ⟨p, bs, rfl, h, k⟩
/-- a loop over J -/
def ForB (J : It) (g : TG) (tb : TS) (D : Ends) (σ : L2.St) (H1 : Hp) : Prop := ∃ W : Nat → Nat → L2.St → Hp → Prop, (∃ m, W 0 m σ H1) ∧ ∀ i m σ H, W i m σ H →
  (J.stop i H ∧ D.nx σ H) ∨ (J.go i H ∧ ∃ Nx : L2.St → Hp → Prop, (∀ σ' H', Nx σ' H' → ∃ m', m' < m ∧ W (i + 1) m' σ' H') ∧ ∀ x H', J.yld i H x H' → g x σ H' fun σ2 H2 => tb { D with nx := Nx, ct := Nx, bk := D.nx } σ2 H2)
def Rng1 (vs : List V) (H : Hp) (R : It → Hp → Prop) : Prop := ∃ j : Int, vs = [.int j] ∧ -(2 ^ 62) ≤ j ∧ j < 2 ^ 62 ∧ R (Itr 0 j.toNat) H
def Rng2 (vs : List V) (H : Hp) (R : It → Hp → Prop) : Prop := ∃ i j : Int, vs = [.int i, .int j] ∧ R (Itr i (j - i).toNat) H
def iRngL (ta : TA) : TI := fun σ H R => ta σ H fun vs H1 => Rng2 vs H1 R
def ItL (K : PySem.W.Frag) (x : V) (H : Hp) (R : It → Hp → Prop) : Prop := ∃ a, x = .ref a ∧ (∃ xs, SqL K H a xs) ∧ R (Itl K a) H
def ItT (K : PySem.W.Frag) (x : V) (H : Hp) (R : It → Hp → Prop) : Prop := ∃ a, x = .ref a ∧ (∃ xs, SqT K H a xs) ∧ R (Itt K a) H
variable {R : It → Hp → Prop} {wi : TI}
theorem r_for (k : wi σ H fun J H1 => ForB J g s1 D σ H1) : tFor wi g s1 D σ H := k
theorem r_iRng1 (k : tr σ H fun vs H1 => Rng1 vs H1 R) : iRng1 tr σ H R := k
theorem r_iRng2 (k : tr σ H fun vs H1 => Rng2 vs H1 R) : iRngL tr σ H R := k
theorem r_iList (k : te σ H fun x H1 => ItL K x H1 R) : iList K te σ H R := k
theorem r_iTup (k : te σ H fun x H1 => ItT K x H1 R) : iTup K te σ H R := k
theorem r_rng1 (h1 : -(2 ^ 62) ≤ i) (h2 : i < 2 ^ 62) (k : R (Itr 0 i.toNat) H) : Rng1 [.int i] H R := ⟨i, rfl, h1, h2, k⟩
theorem r_rng2 (h : -(2 ^ 62) ≤ i ∧ i < 2 ^ 62 ∧ -(2 ^ 62) ≤ j ∧ j < 2 ^ 62) (k : R (Itr i (j - i).toNat) H) : Rng2 [.int i, .int j] H R := ⟨i, j, rfl, k⟩
theorem r_rngL (k : R (Itr i (j - i).toNat) H) : Rng2 [.int i, .int j] H R := ⟨i, j, rfl, k⟩
theorem r_ItL {p : Addr} {xs : List V} (h : SqL K H p xs) (k : R (Itl K p) H) : ItL K (.ref p) H R := ⟨p, rfl, ⟨xs, h⟩, k⟩
theorem r_ItT {p : Addr} {xs : List V} (h : SqT K H p xs) (k : R (Itt K p) H) : ItT K (.ref p) H R := ⟨p, rfl, ⟨xs, h⟩, k⟩
theorem for_rng {lo : Int} {n j : Nat} (Pv : Nat → L2.St → Hp → Prop) (h0 : Pv 0 σ H)
    (hs : ∀ i σ H, i < n → Pv i σ H → s1 { D with nx := Pv (i + 1), ct := Pv (i + 1), bk := D.nx } (σ.set j (some (.int (lo + i)))) H) (hd : ∀ σ H, Pv n σ H → D.nx σ H) : ForB (Itr lo n) (gName j) s1 D σ H := for_range Pv h0 hs hd
theorem for_lst {a : Addr} {xs : List V} (Pv : Nat → L2.St → Hp → Prop) (h0 : Pv 0 σ H) (hl : ∀ i σ H, i ≤ xs.length → Pv i σ H → SqL K H a xs)
    (hs : ∀ i x σ H, xs[i]? = some x → Pv i σ H → g x σ H fun σ2 H2 => s1 { D with nx := Pv (i + 1), ct := Pv (i + 1), bk := D.nx } σ2 H2) (hd : ∀ σ H, Pv xs.length σ H → D.nx σ H) : ForB (Itl K a) g s1 D σ H := for_list Pv h0 hl hs hd
theorem for_tp {a : Addr} {xs : List V} (Pv : Nat → L2.St → Hp → Prop) (h0 : Pv 0 σ H) (hl : ∀ i σ H, i ≤ xs.length → Pv i σ H → SqT K H a xs)
    (hs : ∀ i x σ H, xs[i]? = some x → Pv i σ H → g x σ H fun σ2 H2 => s1 { D with nx := Pv (i + 1), ct := Pv (i + 1), bk := D.nx } σ2 H2) (hd : ∀ σ H, Pv xs.length σ H → D.nx σ H) : ForB (Itt K a) g s1 D σ H := for_tup Pv h0 hl hs hd
/-- a comprehension over J -/
def LcB (J : It) (g : TG) (tt : TT) (te : TE) (vs : List Nat) (σ : L2.St) (H1 : Hp) (Q : VK) : Prop := ∀ D, H1 D = none → ∃ W : Nat → Nat → Hp → Prop, (∃ m, W 0 m (upd H1 D (.lst []))) ∧ ∀ i m H, W i m H →
  (J.stop i H ∧ Q (.ref D) H) ∨ (J.go i H ∧ ∃ Nx : Hp → Prop, (∀ H', Nx H' → ∃ m', m' < m ∧ W (i + 1) m' H') ∧ ∀ x H', J.yld i H x H' → g x (wipe σ vs) H' fun σ2 H2 => wipe σ2 vs = wipe σ vs ∧ tt σ2 H2 fun b H3 =>
    if b = true then te σ2 H3 fun y H4 => ∃ acc, H4 D = some (.lst acc) ∧ acc.length < sizeLine ∧ Nx (upd H4 D (.lst (acc ++ [y]))) else Nx H3)
theorem r_lc {vs : List Nat} (k : wi σ H fun J H1 => LcB J g t te vs σ H1 Q) : tLc wi g t te vs σ H Q := k
end
/-! ranges of any size -/
theorem turn_long {P : Program} {w : World} {K : PySem.W.Frag} {tg : Expr} (it : Addr) (lo : Int) (n : Nat) : Turn P w K tg (Itr lo n) [it] it (fun i h => IsLongIter h it (lo + (i : Nat) * 1) ((n : Int) - (i : Nat)) 1) where
  mem := List.mem_cons_self
  obj := fun i h st b hb => by
    obtain rfl : b = it := by simpa using hb
    exact ⟨_, st, fun v z => by
      have z' : Data.fields _ = Data.cell v := z
      cases z'⟩
  keep := fun i h h' st k => k it List.mem_cons_self _ st
  item := by
    intro X hP hw hK hc i pins s σ H E I hf st hg
    subst hP hw hK
    obtain ⟨f0, f1, f2, f3, f4, f5⟩ := hf it List.mem_cons_self
    refine (Walks.longrange (prog := X.prog) (w := X.w) (I.ok.hd hc) it lo 1 n).item i s _ _ hg st fun v h' tk hv st' kk => ?_
    obtain ⟨t, rfl⟩ := hv
    have I1 : Inv X pins σ H { s with heap := h', toks := tk } := I.turned (fun b o hb e => kk b o (by simpa using hb) e) f0 f1 f3 f4 f5
    exact ⟨_, rfl, go_of (s := { s with heap := h', toks := tk }) (n := "longrange_iterator") st' rfl rfl (by decide) ⟨.int (lo + i), H, I1, ⟨t, by rw [Int.mul_one]⟩, ⟨rfl, rfl⟩, st', fun b hb => (hf b hb).1⟩⟩
  done := by
    intro X hP hw hK hc i pins s σ H E I hf st hg
    subst hP hw hK
    obtain ⟨f0, f1, f2, f3, f4, f5⟩ := hf it List.mem_cons_self
    have hg' : n ≤ i := hg
    exact wpAny_pyNext_long_end (I.ok.hd hc) st (by omega) fun h' eb => ⟨rfl, I.turned (t' := s.toks) (fun b o hb e => eb b o hb e) f0 f1 f3 f4 f5⟩
  self := fun _ _ _ _ _ st h => wpAny_pyIter_longiter st h
theorem size_0 {lo hi : Int} : (((hi - lo).toNat : Nat) : Int) - ((0 : Nat) : Int) = Builtin.Range.rangeSize lo hi 1 := by
  rw [rangeSize_one]
  split <;> omega
theorem rit_0 {h : Heap} {lo hi : Int} : IsRangeIter (h.push { cls := .type "range_iterator", data := .fields #[rawInt lo, rawInt (Builtin.Range.rangeSize lo hi 1), rawInt 1] }) h.objs.size (lo + ((0 : Nat) : Int) * 1) ((((hi - lo).toNat : Nat) : Int) - ((0 : Nat) : Int)) 1 := by
  have e1 : lo + ((0 : Nat) : Int) * 1 = lo := by omega
  rw [e1, size_0]
  exact Heap.get?_push_size _ rfl
theorem lit_0 {h : Heap} {lo hi : Int} : IsLongIter (h.push { cls := .type "longrange_iterator", data := .fields #[rawInt lo, rawInt (Builtin.Range.rangeSize lo hi 1), rawInt 1] }) h.objs.size (lo + ((0 : Nat) : Int) * 1) ((((hi - lo).toNat : Nat) : Int) - ((0 : Nat) : Int)) 1 := by
  have e1 : lo + ((0 : Nat) : Int) * 1 = lo := by omega
  rw [e1, size_0]
  exact Heap.get?_push_size _ rfl
theorem range_any {X : Cx} {tg : Expr} {pins : List (Addr × Obj)} {σ : L2.St} {H : Hp} {s : Shared} {R : It → Hp → Prop} {E : Value → Shared → Prop} {lo hi : Int} {t u v : Tok} {tk : Nat} (I : Inv X pins σ H s)
    (q : R (Itr lo (hi - lo).toNat) H) : wpAny (model X.prog X.w) X.A (pyIter (.ref s.heap.objs.size)) (PIE X pins σ tg R) E { s with heap := s.heap.push { cls := .type "range", data := .fields #[.int lo t, .int hi u, .int 1 v] }, toks := tk } := by
  have I1 : Inv X pins σ H { s with heap := s.heap.push { cls := .type "range", data := .fields #[.int lo t, .int hi u, .int 1 v] }, toks := tk } := I.kept fun b o e => Heap.get?_push_of_some _ e
  have fp : ∀ b ∈ [(s.heap.push { cls := .type "range", data := .fields #[.int lo t, .int hi u, .int 1 v] }).objs.size], FpOk X pins H b := fun b hb => by
    obtain rfl : b = (s.heap.push { cls := .type "range", data := .fields #[.int lo t, .int hi u, .int 1 v] }).objs.size := by simpa using hb
    exact I1.fpOk (Nat.le_refl _) (I1.hok.fresh (Nat.le_refl _))
  cases hs : Builtin.Range.small lo hi 1 with
  | true => exact wpAny_pyIter_range (IsRange.new ..) hs ⟨_, [_], _, _, H, rfl, I1.kept (t' := tk) fun b o e => Heap.get?_push_of_some _ e, turn_range _ lo (hi - lo).toNat, rit_0, fp, q⟩
  | false => exact wpAny_pyIter_longrange (IsRange.new ..) hs ⟨_, [_], _, _, H, rfl, I1.kept (t' := tk) fun b o e => Heap.get?_push_of_some _ e, turn_long _ lo (hi - lo).toNat, lit_0, fp, q⟩
theorem pi_rng2 {X : Cx} {tg : Expr} {a b : Expr} {ta : TA} {p pos : Pos} (hg : Gl X "range") (hm : X.mg "range" = none) (ha : PA X [a, b] ta) (hs : starEach [a, b] X.env = [(false, eval a X.env), (false, eval b X.env)] := by rfl) (hs2 : starEach [b] X.env = [(false, eval b X.env)] := by rfl) :
    PI X tg (.Call (.Name "range" p) [a, b] [] pos) (iRngL ta) := by
  refine ⟨fun pins s σ H R I h => Call_ (ld_blt I hg hm boot_range (PyProof.Rows.callWith_type1 (thn (ha.run pos pins s σ H _ I h) fun us s1 ⟨vs, H1, I1, r1, q1⟩ => ?_) (by rw [hs, hs2]) (by rw [hs2]; rfl)))⟩
  obtain ⟨i, j, rfl, q⟩ := q1
  cases r1 with
  | cons r rr =>
    cases rr with
    | cons r' rr =>
      cases rr
      obtain ⟨t, rfl⟩ := r
      obtain ⟨t', rfl⟩ := r'
      exact call_range_2 (range_any I1 q)
/-- what an expression gives without a change of what is tracked -/
def PureE (te : TE) (σ : L2.St) (H : Hp) (v : V) : Prop := ∀ H1, Ex H H1 → ∀ Q : VK, (∀ H2, Ex H1 H2 → Q v H2) → te σ H1 Q
section
variable {K : PySem.W.Frag} {σ : L2.St} {H : Hp} {Q : VK} {te : TE}
theorem tYes_k {F : Bool → Hp → Prop} (k : F true H) : tYes σ H F := k
theorem len_lt {n : Nat} (h : n ≤ 100000) : n < sizeLine := Nat.lt_of_le_of_lt h (by decide)
/-- [e for j in a range], e pure -/
theorem lc_rngP {lo : Int} {n j : Nat} {vs : List Nat} (f : Nat → V) (hn : n ≤ 100000) (hw : ∀ x, wipe ((wipe σ vs).set j (some x)) vs = wipe σ vs)
    (he : ∀ i : Nat, i < n → PureE te ((wipe σ vs).set j (some (.int (lo + i)))) H (f i)) (k : ∀ p H1, H p = none → Ex H H1 → H1 p = some (.lst ((List.range n).map f)) → Q (.ref p) H1) : LcB (Itr lo n) (gName j) tYes te vs σ H Q := fun Dl hD => by
  refine lc_range (fun i H' => Ex H H' ∧ H' Dl = some (.lst ((List.range i).map f))) ⟨Ex.new hD, upd_same⟩ (fun i H' hi p => ?_) (fun H' p => k Dl H' hD p.1 p.2)
  refine ⟨hw _, ?_⟩
  refine tYes_k ?_
  rw [if_pos rfl]
  refine he i hi H' p.1 _ fun H2 e2 => ⟨_, e2 _ _ p.2, ?_, ?_⟩
  · rw [List.length_map, List.length_range]
    exact len_lt (by omega)
  · refine ⟨fun a o ha => ?_, ?_⟩
    · rw [upd_ne (ne_of_none ha hD)]
      exact e2 _ _ (p.1 _ _ ha)
    · rw [upd_same, List.range_succ, List.map_append]
      rfl
theorem lc_lstP {a : Addr} {xs : List V} {j : Nat} {vs : List Nat} (f : V → V) (hx : SqL K H a xs) (hn : xs.length ≤ 100000) (hw : ∀ x, wipe ((wipe σ vs).set j (some x)) vs = wipe σ vs)
    (he : ∀ (i : Nat) x, xs[i]? = some x → PureE te ((wipe σ vs).set j (some x)) H (f x)) (k : ∀ p H1, H p = none → Ex H H1 → H1 p = some (.lst (xs.map f)) → Q (.ref p) H1) : LcB (Itl K a) (gName j) tYes te vs σ H Q := fun Dl hD => by
  refine lc_list (xs := xs) (fun i H' => Ex H H' ∧ H' Dl = some (.lst ((xs.take i).map f))) ⟨Ex.new hD, upd_same⟩ (fun i H' _ p => sql_up p.1 hx) (fun i x H' hi p => ?_) (fun H' p => k Dl H' hD p.1 (by rw [p.2, List.take_length]))
  refine ⟨hw _, ?_⟩
  refine tYes_k ?_
  rw [if_pos rfl]
  refine he i x hi H' p.1 _ fun H2 e2 => ⟨_, e2 _ _ p.2, ?_, ?_⟩
  · rw [List.length_map, List.length_take]
    exact len_lt (by omega)
  · refine ⟨fun a o ha => ?_, ?_⟩
    · rw [upd_ne (ne_of_none ha hD)]
      exact e2 _ _ (p.1 _ _ ha)
    · rw [upd_same, List.take_add_one, hi, List.map_append]
      rfl
theorem lc_tupP {a : Addr} {xs : List V} {j : Nat} {vs : List Nat} (f : V → V) (hx : SqT K H a xs) (hn : xs.length ≤ 100000) (hw : ∀ x, wipe ((wipe σ vs).set j (some x)) vs = wipe σ vs)
    (he : ∀ (i : Nat) x, xs[i]? = some x → PureE te ((wipe σ vs).set j (some x)) H (f x)) (k : ∀ p H1, H p = none → Ex H H1 → H1 p = some (.lst (xs.map f)) → Q (.ref p) H1) : LcB (Itt K a) (gName j) tYes te vs σ H Q := fun Dl hD => by
  refine lc_tup (xs := xs) (fun i H' => Ex H H' ∧ H' Dl = some (.lst ((xs.take i).map f))) ⟨Ex.new hD, upd_same⟩ (fun i H' _ p => sqt_up p.1 hx) (fun i x H' hi p => ?_) (fun H' p => k Dl H' hD p.1 (by rw [p.2, List.take_length]))
  refine ⟨hw _, ?_⟩
  refine tYes_k ?_
  rw [if_pos rfl]
  refine he i x hi H' p.1 _ fun H2 e2 => ⟨_, e2 _ _ p.2, ?_, ?_⟩
  · rw [List.length_map, List.length_take]
    exact len_lt (by omega)
  · refine ⟨fun a o ha => ?_, ?_⟩
    · rw [upd_ne (ne_of_none ha hD)]
      exact e2 _ _ (p.1 _ _ ha)
    · rw [upd_same, List.take_add_one, hi, List.map_append]
      rfl
end

theorem Sz.b2 {c : Prop} {_ : Decidable c} : Sz 1 (if c then 1 else 0) := by
  show (if c then (1 : Int) else 0).natAbs < 2 ^ 1
  split <;> decide
theorem div_mod_eq (x m : Int) : x / m * m + x % m = x := by
  have := Int.emod_add_mul_ediv x m
  rw [Int.mul_comm] at this
  omega
theorem Sz.small {x : Int} (h : x.natAbs < 1000000000000000000) : Sz 200 x := by
  show x.natAbs < 2 ^ 200
  omega
theorem at_ints {ns : List Int} {i : Int} (h0 : 0 ≤ i) (h1 : i < ns.length) : ∃ z, atI (ns.map V.int) i = some (.int z) ∧ ns[i.toNat]? = some z := by
  have hl : i.toNat < ns.length := by omega
  refine ⟨ns[i.toNat], ?_, List.getElem?_eq_getElem hl⟩
  refine at_of (j := i.toNat) (by omega) ?_
  rw [List.getElem?_map, List.getElem?_eq_getElem hl]
  rfl
theorem at_3 {x y z : V} {i : Int} (h0 : 0 ≤ i) (h1 : i < 3) : ∃ v, atI [x, y, z] i = some v ∧ (v = x ∨ v = y ∨ v = z) := by
  obtain rfl | rfl | rfl : i = 0 ∨ i = 1 ∨ i = 2 := by omega
  · exact ⟨_, rfl, .inl rfl⟩
  · exact ⟨_, rfl, .inr (.inl rfl)⟩
  · exact ⟨_, rfl, .inr (.inr rfl)⟩
theorem Sz.lt {n : Nat} {x y : Int} (h : Sz n y) (a : 0 ≤ x) (b : x < y) : Sz n x := by
  have h' : y.natAbs < 2 ^ n := h
  show x.natAbs < 2 ^ n
  omega
theorem Sz.abs {n : Nat} {x : Int} (h : Sz n x) : Sz n (x.natAbs : Int) := by
  show ((x.natAbs : Int)).natAbs < 2 ^ n
  exact h

section
variable {σ : L2.St} {H : Hp} {D : Ends} {t : TT} {s1 : TS}
/-- a while by its measure -/
theorem while_m (W : Nat → L2.St → Hp → Prop) (m0 : Nat) (h0 : W m0 σ H) (h : ∀ m σ H, W m σ H → t σ H fun b H1 => if b = true then ∃ N : L2.St → Hp → Prop, (∀ σ' H', N σ' H' → ∃ m', m' < m ∧ W m' σ' H') ∧ s1 { D with nx := N, ct := N, bk := D.nx } σ H1 else D.nx σ H1) : tWhile t s1 D σ H :=
  ⟨W, ⟨m0, h0⟩, fun m σ H w => h m σ H w⟩
theorem r_body {m : Nat} {W : Nat → L2.St → Hp → Prop} (N : L2.St → Hp → Prop) (hN : ∀ σ' H', N σ' H' → ∃ m', m' < m ∧ W m' σ' H') (k : s1 { D with nx := N, ct := N, bk := D.nx } σ H) :
    ∃ N : L2.St → Hp → Prop, (∀ σ' H', N σ' H' → ∃ m', m' < m ∧ W m' σ' H') ∧ s1 { D with nx := N, ct := N, bk := D.nx } σ H := ⟨N, hN, k⟩
end

/-- in a turn of the law, begun at H0, drawing from d -/
structure Lw (H0 : Hp) (d : Addr) (H : Hp) : Prop where
  e : Ex H0 H
  n : H0 d = none
  D : Dr H d
theorem Lw.ex {H0 H H' : Hp} {d : Addr} (w : Lw H0 d H) (e : Ex H H') : Lw H0 d H' := ⟨w.e.trans e, w.n, w.D.up e⟩
/-- a list of the turn's own is changed -/
theorem Lw.own {H0 H H' : Hp} {d l : Addr} (w : Lw H0 d H) (nf : H0 l = none) (ne : l ≠ d) (k : Kp l H H') : Lw H0 d H' := by
  obtain ⟨x, y, h, r⟩ := w.D
  exact ⟨w.e.kpd nf k, w.n, x, y, k _ _ (Ne.symm ne) h, r⟩
theorem Lw.kp {H0 H H' : Hp} {d : Addr} (w : Lw H0 d H) (k : Kp d H H') (D : Dr H' d) : Lw H0 d H' := ⟨w.e.kpd w.n k, w.n, D⟩

/-! data compared -/
theorem eqv_ints : ∀ xs ys : List Int, PyData.eqvAll (xs.map PyData.int) (ys.map PyData.int) = decide (xs = ys)
  | [], [] => by rw [decide_eq_true rfl]; rfl
  | [], y :: ys => by rw [decide_eq_false (by intro h; cases h)]; rfl
  | x :: xs, [] => by rw [decide_eq_false (by intro h; cases h)]; rfl
  | x :: xs, y :: ys => by
    show (PyData.eqv (.int x) (.int y) && PyData.eqvAll (xs.map PyData.int) (ys.map PyData.int)) = _
    rw [eqv_ints xs ys]
    show ((x == y) && decide (xs = ys)) = decide (x :: xs = y :: ys)
    by_cases h : x = y
    · subst h
      by_cases h2 : xs = ys
      · subst h2
        rw [decide_eq_true rfl, decide_eq_true rfl, beq_self_eq_true]
        rfl
      · rw [decide_eq_false h2, decide_eq_false (fun z => h2 (List.cons.inj z).2), Bool.and_false]
    · rw [beq_eq_false_iff_ne.mpr h, decide_eq_false (fun z => h (List.cons.inj z).1), Bool.false_and]
theorem lay_ints : ∀ xs : List Int, PyData.canLayAll0 (xs.map PyData.int) = true
  | [] => rfl
  | x :: xs => by
    show (PyData.canLay0 (.int x) && PyData.canLayAll0 (xs.map PyData.int)) = true
    rw [lay_ints xs]
    rfl
theorem dep_ints : ∀ xs : List Int, PyData.depthAll (xs.map PyData.int) ≤ 1
  | [] => Nat.zero_le _
  | x :: xs => by
    show max (PyData.depth (.int x)) (PyData.depthAll (xs.map PyData.int)) ≤ 1
    have h1 : PyData.depth (.int x) ≤ 1 := by
      unfold PyData.depth
      omega
    have := dep_ints xs
    omega
theorem shp_tup (xs : List Int) : SeqAt.shaped (.tuple (xs.map PyData.int)) = true := by
  unfold SeqAt.shaped
  rw [Bool.and_eq_true]
  refine ⟨?_, decide_eq_true ?_⟩
  · unfold PyData.canLay0
    exact lay_ints xs
  · unfold PyData.depth
    have := dep_ints xs
    omega
theorem shp_lst (xs : List Int) : SeqAt.shaped (.list (xs.map PyData.int)) = true := by
  unfold SeqAt.shaped
  rw [Bool.and_eq_true]
  refine ⟨?_, decide_eq_true ?_⟩
  · unfold PyData.canLay0
    exact lay_ints xs
  · unfold PyData.depth
    have := dep_ints xs
    omega
section
variable {K : PySem.W.Frag} {H : Hp} {Q : VK}
theorem dp_ints : ∀ xs : List Int, DpAll K H (xs.map V.int) (xs.map PyData.int)
  | [] => .nil
  | x :: xs => .cons (.int x) (dp_ints xs)
theorem r_eqD {x y : V} {d e : PyData} (hd : Dp K H x d) (he : Dp K H y e) (sd : SeqAt.shaped d = true) (se : SeqAt.shaped e = true) (k : Q (.bl (PyData.eqv d e)) H) : rEqD K x y H Q := ⟨d, e, hd, he, sd, se, k⟩
theorem r_neD {x y : V} {d e : PyData} (hd : Dp K H x d) (he : Dp K H y e) (sd : SeqAt.shaped d = true) (se : SeqAt.shaped e = true) (k : Q (.bl (!PyData.eqv d e)) H) : rNeD K x y H Q := ⟨d, e, hd, he, sd, se, k⟩
theorem eqvT (xs ys : List Int) : PyData.eqv (.tuple (xs.map PyData.int)) (.tuple (ys.map PyData.int)) = decide (xs = ys) := by
  unfold PyData.eqv
  exact eqv_ints xs ys
theorem eqvL (xs ys : List Int) : PyData.eqv (.list (xs.map PyData.int)) (.list (ys.map PyData.int)) = decide (xs = ys) := by
  unfold PyData.eqv
  exact eqv_ints xs ys
/-- two tuples of three whole numbers, two lists of whole numbers -/
theorem r_eqT3 {p q : Addr} {a b c a' b' c' : Int} (h : SqT K H p [.int a, .int b, .int c]) (h' : SqT K H q [.int a', .int b', .int c']) (k : Q (.bl (decide ([a, b, c] = [a', b', c']))) H) : rEqD K (.ref p) (.ref q) H Q :=
  r_eqD (.tup h (dp_ints [a, b, c])) (.tup h' (dp_ints [a', b', c'])) (shp_tup _) (shp_tup _) (by rw [eqvT]; exact k)
theorem r_neT3 {p q : Addr} {a b c a' b' c' : Int} (h : SqT K H p [.int a, .int b, .int c]) (h' : SqT K H q [.int a', .int b', .int c']) (k : Q (.bl (!decide ([a, b, c] = [a', b', c']))) H) : rNeD K (.ref p) (.ref q) H Q :=
  r_neD (.tup h (dp_ints [a, b, c])) (.tup h' (dp_ints [a', b', c'])) (shp_tup _) (shp_tup _) (by rw [eqvT]; exact k)
theorem r_eqL {p q : Addr} {xs ys : List Int} (h : SqL K H p (xs.map V.int)) (h' : SqL K H q (ys.map V.int)) (k : Q (.bl (decide (xs = ys))) H) : rEqD K (.ref p) (.ref q) H Q :=
  r_eqD (.lst h (dp_ints xs)) (.lst h' (dp_ints ys)) (shp_lst _) (shp_lst _) (by rw [eqvL]; exact k)
theorem r_neL {p q : Addr} {xs ys : List Int} (h : SqL K H p (xs.map V.int)) (h' : SqL K H q (ys.map V.int)) (k : Q (.bl (!decide (xs = ys))) H) : rNeD K (.ref p) (.ref q) H Q :=
  r_neD (.lst h (dp_ints xs)) (.lst h' (dp_ints ys)) (shp_lst _) (shp_lst _) (by rw [eqvL]; exact k)
end
theorem at_2 {x y : V} {i : Int} (h0 : 0 ≤ i) (h1 : i < 2) : ∃ v, atI [x, y] i = some v ∧ (v = x ∨ v = y) := by
  obtain rfl | rfl : i = 0 ∨ i = 1 := by omega
  · exact ⟨_, rfl, .inl rfl⟩
  · exact ⟨_, rfl, .inr rfl⟩
/-- what a test gives without a change of what is tracked -/
def PureT (tt : TT) (σ : L2.St) (H : Hp) (b : Bool) : Prop := ∀ H1, Ex H H1 → ∀ Q : Bool → Hp → Prop, (∀ H2, Ex H1 H2 → Q b H2) → tt σ H1 Q
section
variable {K : PySem.W.Frag} {σ : L2.St} {H : Hp} {Q : VK} {te : TE} {tt : TT}
/-- [e for j in a range if t], t and e pure -/
theorem lc_rngF {lo : Int} {n j : Nat} {vs : List Nat} (c : Nat → Bool) (f : Nat → V) (hn : n ≤ 100000) (hw : ∀ x, wipe ((wipe σ vs).set j (some x)) vs = wipe σ vs)
    (ht : ∀ i : Nat, i < n → PureT tt ((wipe σ vs).set j (some (.int (lo + i)))) H (c i))
    (he : ∀ i : Nat, i < n → c i = true → PureE te ((wipe σ vs).set j (some (.int (lo + i)))) H (f i)) (k : ∀ p H1, H p = none → Ex H H1 → H1 p = some (.lst (((List.range n).filter c).map f)) → Q (.ref p) H1) : LcB (Itr lo n) (gName j) tt te vs σ H Q := fun Dl hD => by
  refine lc_range (fun i H' => Ex H H' ∧ H' Dl = some (.lst (((List.range i).filter c).map f))) ⟨Ex.new hD, upd_same⟩ (fun i H' hi p => ?_) (fun H' p => k Dl H' hD p.1 p.2)
  refine ⟨hw _, ht i hi H' p.1 _ fun H2 e2 => ?_⟩
  cases hc : c i with
  | true =>
    rw [if_pos rfl]
    refine he i hi hc H2 (p.1.trans e2) _ fun H3 e3 => ⟨_, e3 _ _ (e2 _ _ p.2), ?_, ?_⟩
    · have l1 := List.length_filter_le c (List.range i)
      rw [List.length_range] at l1
      rw [List.length_map]
      exact len_lt (by omega)
    · refine ⟨fun a o ha => ?_, ?_⟩
      · rw [upd_ne (ne_of_none ha hD)]
        exact e3 _ _ (e2 _ _ (p.1 _ _ ha))
      · rw [upd_same, List.range_succ, List.filter_append, List.map_append]
        simp [hc]
  | false =>
    rw [if_neg Bool.false_ne_true]
    refine ⟨p.1.trans e2, ?_⟩
    rw [List.range_succ, List.filter_append, List.map_append]
    simp [hc, e2 _ _ p.2]
end
/-- a drawn stair -/
structure StB (a b m : Int) : Prop where
  m0 : 0 < m
  m1 : m ≤ 1000000000000000000000000000000000000000000000000000000000000
  za : Sz 620 a
  zb : Sz 620 b
theorem StB.zm {a b m : Int} (S : StB a b m) : Sz 200 m := by
  have := S.m0
  have := S.m1
  show m.natAbs < 2 ^ 200
  omega

section
variable {K : PySem.W.Frag} {σ : L2.St} {H : Hp} {Q : VK} {i : Int}
theorem r_sortI {a : Addr} {ns : List Int} (h : SqL K H a (ns.map V.int)) (k : ∀ (ns' : List Int) p H1, ns'.Perm ns → ns'.Pairwise (· ≤ ·) → H p = none → Ex H H1 → H1 p = some (.lst (ns'.map V.int)) → Q (.ref p) H1) : rSortedI K [.ref a] H Q :=
  ⟨a, ns, rfl, h, fun ns' p h1 h2 hp => k ns' p _ h1 h2 hp (Ex.new hp) upd_same⟩
theorem r_gLst {p : Addr} {xs : List V} {n : Nat} {g : TGs} {QS : L2.St → Hp → Prop} (h : SqL K H p xs) (l : xs.length = n) (k : g xs σ H QS) : gLst K n g (.ref p) σ H QS := ⟨p, xs, rfl, h, l, k⟩
end
theorem sort_2 {ns : List Int} {x y : Int} (h : ns.Perm [x, y]) (s : ns.Pairwise (· ≤ ·)) : ns = [min x y, max x y] := by
  have hl := h.length_eq
  match ns, hl with
  | [u, v], _ =>
    have m1 := h.mem_iff (a := u)
    have m2 := h.mem_iff (a := v)
    have m3 := h.mem_iff (a := x)
    have m4 := h.mem_iff (a := y)
    have huv : u ≤ v := by
      have := List.pairwise_cons.mp s
      exact this.1 v (by simp)
    simp at m1 m2 m3 m4
    have e1 : u = min x y := by omega
    have e2 : v = max x y := by omega
    rw [← e1, ← e2]
theorem sort_3 {ns : List Int} {x y z lo hi : Int} (h : ns.Perm [x, y, z]) (s : ns.Pairwise (· ≤ ·)) (h1 : lo ≤ x ∧ x ≤ hi) (h2 : lo ≤ y ∧ y ≤ hi) (h3 : lo ≤ z ∧ z ≤ hi) : ∃ u v w, ns = [u, v, w] ∧ lo ≤ u ∧ u ≤ v ∧ v ≤ w ∧ w ≤ hi := by
  have hl := h.length_eq
  match ns, hl with
  | [u, v, w], _ =>
    have m1 := h.mem_iff (a := u)
    have m3 := h.mem_iff (a := w)
    have p := List.pairwise_cons.mp s
    have huv : u ≤ v := p.1 v (by simp)
    have hvw : v ≤ w := (List.pairwise_cons.mp p.2).1 w (by simp)
    simp at m1 m3
    exact ⟨u, v, w, rfl, by omega, huv, hvw, by omega⟩
/-! none, True, membership -/
def rIsNn : R2 := fun x y H Q => y = .non ∧ Q (.bl (decide (x = .non))) H
def rNotNn : R2 := fun x y H Q => y = .non ∧ Q (.bl (!decide (x = .non))) H
theorem op_isNn {X : Cx} : OpR X (compareOp .Is) rIsNn := op_isN
theorem op_notNn {X : Cx} : OpR X (compareOp .IsNot) rNotNn := op_notN
section
variable {K : PySem.W.Frag} {H : Hp} {Q : VK} {x : V}
theorem r_isNnI {i : Int} (k : Q (.bl false) H) : rIsNn (.int i) .non H Q := ⟨rfl, k⟩
theorem r_isNnN (k : Q (.bl true) H) : rIsNn .non .non H Q := ⟨rfl, k⟩
theorem r_isNnR {a : Addr} (k : Q (.bl false) H) : rIsNn (.ref a) .non H Q := ⟨rfl, k⟩
theorem r_notNnI {i : Int} (k : Q (.bl true) H) : rNotNn (.int i) .non H Q := ⟨rfl, k⟩
theorem r_notNnN (k : Q (.bl false) H) : rNotNn .non .non H Q := ⟨rfl, k⟩
theorem r_notNnR {a : Addr} (k : Q (.bl true) H) : rNotNn (.ref a) .non H Q := ⟨rfl, k⟩
theorem all_flatI : ∀ ns : List Int, (ns.map V.int).all flatV = true
  | [] => rfl
  | n :: ns => by
    show (true && (ns.map V.int).all flatV) = true
    rw [all_flatI ns]
    rfl
theorem inV_ints (i : Int) : ∀ ns : List Int, inV (.int i) (ns.map V.int) = decide (i ∈ ns)
  | [] => rfl
  | n :: ns => by
    show (eqV (.int n) (.int i) || inV (.int i) (ns.map V.int)) = _
    rw [inV_ints i ns]
    show ((decide (n = i)) || _) = _
    by_cases h : n = i
    · subst h
      rw [decide_eq_true rfl, decide_eq_true (List.mem_cons_self ..)]
      rfl
    · rw [decide_eq_false h, Bool.false_or]
      by_cases h2 : i ∈ ns
      · rw [decide_eq_true h2, decide_eq_true (List.mem_cons_of_mem _ h2)]
      · rw [decide_eq_false h2, decide_eq_false]
        intro z
        rcases List.mem_cons.mp z with z | z
        · exact h z.symm
        · exact h2 z
theorem r_inI {i : Int} {ns : List Int} {p : Addr} (h : SqL K H p (ns.map V.int)) (k : Q (.bl (decide (i ∈ ns))) H) : rIn K false (.int i) (.ref p) H Q :=
  ⟨p, _, rfl, .inl h, rfl, all_flatI ns, by rw [inV_ints]; exact k⟩
end
/-! lists of rows of whole numbers -/
theorem Kp.tupL {H H' : Hp} {d p : Addr} {xs ys : List V} (k : Kp d H H') (D : H d = some (.lst ys)) (h : H p = some (.tup xs)) : H' p = some (.tup xs) :=
  k _ _ (ne_of h D (by intro z; cases z)) h
/-- each value a tuple of whole numbers -/
def RowsA (H : Hp) : List V → List (List Int) → Prop
  | [], [] => True
  | v :: vs, r :: rs => (∃ p, v = .ref p ∧ H p = some (.tup (r.map V.int))) ∧ RowsA H vs rs
  | _, _ => False
theorem RowsA.imp {H H' : Hp} (f : ∀ (p : Addr) (xs : List V), H p = some (.tup xs) → H' p = some (.tup xs)) : ∀ {vs : List V} {rs : List (List Int)}, RowsA H vs rs → RowsA H' vs rs
  | [], [], _ => trivial
  | _ :: _, _ :: _, ⟨⟨p, e, h⟩, r⟩ => ⟨⟨p, e, f _ _ h⟩, RowsA.imp f r⟩
  | [], _ :: _, h => h.elim
  | _ :: _, [], h => h.elim
theorem RowsA.ex {H H' : Hp} {vs : List V} {rs : List (List Int)} (h : RowsA H vs rs) (e : Ex H H') : RowsA H' vs rs := h.imp fun p xs q => e p _ q
theorem RowsA.kp {H H' : Hp} {d : Addr} {vs : List V} {rs : List (List Int)} (h : RowsA H vs rs) (k : Kp d H H') (D : Dr H d) : RowsA H' vs rs := h.imp fun _ _ q => k.tup D q
theorem RowsA.kpL {H H' : Hp} {d : Addr} {ys vs : List V} {rs : List (List Int)} (h : RowsA H vs rs) (k : Kp d H H') (D : H d = some (.lst ys)) : RowsA H' vs rs := h.imp fun _ _ q => k.tupL D q
theorem RowsA.len {H : Hp} : ∀ {vs : List V} {rs : List (List Int)}, RowsA H vs rs → vs.length = rs.length
  | [], [], _ => rfl
  | _ :: _, _ :: _, ⟨_, r⟩ => by
    rw [List.length_cons, List.length_cons, RowsA.len r]
  | [], _ :: _, h => h.elim
  | _ :: _, [], h => h.elim
theorem RowsA.app {H : Hp} {p : Addr} {r : List Int} (hp : H p = some (.tup (r.map V.int))) : ∀ {vs : List V} {rs : List (List Int)}, RowsA H vs rs → RowsA H (vs ++ [.ref p]) (rs ++ [r])
  | [], [], _ => ⟨⟨p, rfl, hp⟩, trivial⟩
  | _ :: _, _ :: _, ⟨h, r⟩ => ⟨h, RowsA.app hp r⟩
  | [], _ :: _, h => h.elim
  | _ :: _, [], h => h.elim
theorem RowsA.get {H : Hp} : ∀ {vs : List V} {rs : List (List Int)} {i : Nat} {v : V}, RowsA H vs rs → vs[i]? = some v → ∃ p r, v = .ref p ∧ rs[i]? = some r ∧ H p = some (.tup (r.map V.int))
  | _ :: _, r :: _, 0, _, ⟨⟨p, e, h⟩, _⟩, g => ⟨p, r, (Option.some.inj g).symm.trans e, rfl, h⟩
  | _ :: _, _ :: _, i + 1, _, ⟨_, h⟩, g => RowsA.get (i := i) h g
  | [], _, _, _, _, g => by simp at g
  | _ :: _, [], _, _, h, _ => h.elim
/-- a list of rows stands at l -/
def RwL (H : Hp) (l : Addr) (rs : List (List Int)) : Prop := ∃ vs, H l = some (.lst vs) ∧ RowsA H vs rs
theorem RwL.ex {H H' : Hp} {l : Addr} {rs : List (List Int)} (h : RwL H l rs) (e : Ex H H') : RwL H' l rs := by
  obtain ⟨vs, h1, h2⟩ := h
  exact ⟨vs, e _ _ h1, h2.ex e⟩
theorem RwL.kp {H H' : Hp} {d l : Addr} {rs : List (List Int)} (h : RwL H l rs) (k : Kp d H H') (D : Dr H d) (n : l ≠ d) : RwL H' l rs := by
  obtain ⟨vs, h1, h2⟩ := h
  exact ⟨vs, k _ _ n h1, h2.kp k D⟩
theorem RwL.app {H H' : Hp} {l p : Addr} {vs : List V} {rs : List (List Int)} {r : List Int} (h0 : H l = some (.lst vs)) (h : RowsA H vs rs) (hp : H p = some (.tup (r.map V.int))) (k : Kp l H H') (h1 : H' l = some (.lst (vs ++ [.ref p]))) : RwL H' l (rs ++ [r]) :=
  ⟨_, h1, RowsA.app (k.tupL h0 hp) (h.kpL k h0)⟩
theorem cutV_whole {xs : List V} {lo hi : Option Int} (w : HT.sIx xs.length 0 lo = 0 ∧ HT.sIx xs.length xs.length hi = xs.length) : cutV xs lo hi = xs := by
  unfold cutV
  rw [w.1, w.2, List.drop_zero, Nat.sub_zero, List.take_length]
theorem mem_cutV {xs : List V} {lo hi : Option Int} {v : V} (h : v ∈ cutV xs lo hi) : v ∈ xs := List.mem_of_mem_drop (List.mem_of_mem_take h)
def rListOf (K : PySem.W.Frag) : List V → Hp → VK → Prop := fun xs H Q => ∃ p ys, xs = [.ref p] ∧ (SqL K H p ys ∨ SqT K H p ys) ∧ ∀ l, H l = none → Q (.ref l) (upd H l (.lst ys))
theorem cl_listOf {X : Cx} : CallR X (.type "list") (rListOf X.K) := call_list_of
section
variable {K : PySem.W.Frag} {σ : L2.St} {H : Hp} {Q : VK} {ta te : TE} {t : TA} {p q l : Addr} {xs ys : List V} {tl th : TO}
theorem r_listL (h : SqL K H p ys) (k : ∀ l H1, H l = none → Ex H H1 → H1 l = some (.lst ys) → Q (.ref l) H1) : rListOf K [.ref p] H Q :=
  ⟨p, ys, rfl, .inl h, fun l n => k l _ n (Ex.new n) upd_same⟩
theorem r_listT (h : SqT K H p ys) (k : ∀ l H1, H l = none → Ex H H1 → H1 l = some (.lst ys) → Q (.ref l) H1) : rListOf K [.ref p] H Q :=
  ⟨p, ys, rfl, .inr h, fun l n => k l _ n (Ex.new n) upd_same⟩
theorem r_bm {T : String} {r : V → List V → Hp → VK → Prop} (k : ta σ H fun x H1 => tyV K T x H1 ∧ t σ H1 fun xs H2 => r x xs H2 Q) : tBM K T r ta t σ H Q := k
theorem r_tyL {R : Prop} (h : SqL K H p xs) (k : R) : tyV K "list" (.ref p) H ∧ R := ⟨.inl ⟨rfl, _, h⟩, k⟩
theorem r_app {y : V} (h : H l = some (.lst xs)) (n : xs.length ≤ 100000) (k : ∀ H1, Kp l H H1 → H1 l = some (.lst (xs ++ [y])) → Q .non H1) : rAppend (.ref l) [y] H Q :=
  ⟨l, xs, y, rfl, rfl, h, len_lt n, k _ Kp.upd upd_same⟩
theorem r_sl {r : V → Option Int → Option Int → Hp → VK → Prop} (k : te σ H fun x H1 => tl σ H1 fun l H2 => th σ H2 fun u H3 => r x l u H3 Q) : tSl r te tl th σ H Q := k
theorem r_noP {R : Option Int → Hp → Prop} (k : R none H) : tNoPart σ H R := k
theorem r_part {R : Option Int → Hp → Prop} (k : te σ H fun x H1 => ∃ i, x = .int i ∧ R (some i) H1) : tPart te σ H R := k
theorem r_partI {i : Int} {R : Int → Prop} (k : R i) : ∃ j, V.int i = .int j ∧ R j := ⟨i, rfl, k⟩
theorem r_slA {lo hi : Option Int} (h : H p = some (.tup xs)) (k : ∀ q H1, Ex H H1 → H1 q = some (.tup (cutV xs lo hi)) → Q (.ref q) H1) : rSlA K (.ref p) lo hi H Q :=
  ⟨p, xs, rfl, SqT.of h, fun w => k p H Ex.refl (by rw [cutV_whole w]; exact h), fun _ q hq => k q _ (Ex.new hq) upd_same⟩
theorem r_sl4 {a b c d e : V} (h : SqT K H p [a, b, c, d, e]) (k : ∀ q H1, H q = none → Ex H H1 → H1 q = some (.tup [a, b, c, d]) → Q (.ref q) H1) : rSlA K (.ref p) none (some 4) H Q :=
  ⟨p, _, rfl, h, fun w => absurd (show (4 : Nat) = 5 from w.2) (by decide), fun _ q hq => k q _ hq (Ex.new hq) upd_same⟩
theorem r_catA (h : H p = some (.tup xs)) (h2 : H q = some (.tup ys)) (n : xs.length + ys.length ≤ sizeLine) (k : ∀ l H1, Ex H H1 → H1 l = some (.tup (xs ++ ys)) → Q (.ref l) H1) : rCatA K (.ref p) (.ref q) H Q :=
  ⟨p, q, xs, ys, rfl, rfl, SqT.of h, SqT.of h2, n, fun e => k q H Ex.refl (by subst e; exact h2), fun _ e => k p H Ex.refl (by subst e; rw [List.append_nil]; exact h), fun _ _ l hl => k l _ (Ex.new hl) upd_same⟩
theorem r_catT {x y : V} {xs ys : List V} (h : SqT K H p (x :: xs)) (h2 : SqT K H q (y :: ys)) (n : (x :: xs).length + (y :: ys).length ≤ sizeLine) (k : ∀ l H1, H l = none → Ex H H1 → H1 l = some (.tup (x :: xs ++ y :: ys)) → Q (.ref l) H1) : rCatA K (.ref p) (.ref q) H Q :=
  ⟨p, q, x :: xs, y :: ys, rfl, rfl, h, h2, n, fun z => absurd z (List.cons_ne_nil _ _), fun _ z => absurd z (List.cons_ne_nil _ _), fun _ _ l hl => k l _ hl (Ex.new hl) upd_same⟩
theorem r_cat13 {x a b c : V} (h : SqT K H p [x]) (h2 : SqT K H q [a, b, c]) (k : ∀ l H1, H l = none → Ex H H1 → H1 l = some (.tup [x, a, b, c]) → Q (.ref l) H1) : rCatA K (.ref p) (.ref q) H Q :=
  r_catT h h2 (show 4 ≤ sizeLine by decide) k
theorem r_cat41 {x a b c y : V} (h : SqT K H p [x, a, b, c]) (h2 : SqT K H q [y]) (k : ∀ l H1, H l = none → Ex H H1 → H1 l = some (.tup [x, a, b, c, y]) → Q (.ref l) H1) : rCatA K (.ref p) (.ref q) H Q :=
  r_catT h h2 (show 5 ≤ sizeLine by decide) k
theorem r_slL {lo hi : Option Int} (h : H p = some (.lst xs)) (k : ∀ q H1, H q = none → Ex H H1 → H1 q = some (.lst (cutV xs lo hi)) → Q (.ref q) H1) : rSlL K (.ref p) lo hi H Q :=
  ⟨p, xs, rfl, SqL.of h, fun q hq => k q _ hq (Ex.new hq) upd_same⟩
theorem r_catL (h : H p = some (.lst xs)) (h2 : H q = some (.lst ys)) (n : xs.length + ys.length ≤ 100000) (k : ∀ l H1, H l = none → Ex H H1 → H1 l = some (.lst (xs ++ ys)) → Q (.ref l) H1) : rCat (.ref p) (.ref q) H Q :=
  ⟨p, q, xs, ys, rfl, rfl, h, h2, Nat.le_of_lt (len_lt n), fun l hl => k l _ hl (Ex.new hl) upd_same⟩
def rRev (K : PySem.W.Frag) (x : V) (H : Hp) (Q : VK) : Prop := ∃ a xs, x = .ref a ∧ SqL K H a xs ∧ ∀ p, H p = none → Q (.ref p) (upd H p (.lst xs.reverse))
theorem r_rev (k : te σ H fun x H1 => rRev K x H1 Q) : tRevL K te σ H Q := k
theorem r_revL (h : H p = some (.lst xs)) (k : ∀ q H1, H q = none → Ex H H1 → H1 q = some (.lst xs.reverse) → Q (.ref q) H1) : rRev K (.ref p) H Q :=
  ⟨p, xs, rfl, SqL.of h, fun q hq => k q _ hq (Ex.new hq) upd_same⟩
theorem ixN_in {n : Nat} {i : Int} (h0 : 0 ≤ i) (h1 : i < n) : ixN n i = some i.toNat := by
  unfold ixN
  rw [if_pos h0, if_pos h1]
theorem r_neT4 {a b c d a' b' c' d' : Int} (h : SqT K H p [.int a, .int b, .int c, .int d]) (h' : SqT K H q [.int a', .int b', .int c', .int d']) (k : Q (.bl (!decide ([a, b, c, d] = [a', b', c', d']))) H) : rNeD K (.ref p) (.ref q) H Q :=
  r_neD (.tup h (dp_ints [a, b, c, d])) (.tup h' (dp_ints [a', b', c', d'])) (shp_tup _) (shp_tup _) (by rw [eqvT]; exact k)
theorem r_notB {a b : Bool} (k : Q (.bl (!decide (a = b))) H) : rNotB (.bl a) (.bl b) H Q := ⟨a, b, rfl, rfl, k⟩
theorem r_isB {a b : Bool} (k : Q (.bl (decide (a = b))) H) : rIsB (.bl a) (.bl b) H Q := ⟨a, b, rfl, rfl, k⟩
end
/-! lists of rows compared -/
def rowD (r : List Int) : PyData := .tuple (r.map PyData.int)
theorem dp_rows {K : PySem.W.Frag} {H : Hp} : ∀ {vs : List V} {rs : List (List Int)}, RowsA H vs rs → DpAll K H vs (rs.map rowD)
  | [], [], _ => .nil
  | _ :: _, r :: _, ⟨⟨p, e, h⟩, g⟩ => by
    subst e
    exact .cons (.tup (SqT.of h) (dp_ints r)) (dp_rows g)
  | [], _ :: _, h => h.elim
  | _ :: _, [], h => h.elim
theorem lay_rows : ∀ rs : List (List Int), PyData.canLayAll0 (rs.map rowD) = true
  | [] => rfl
  | r :: rs => by
    show (PyData.canLay0 (rowD r) && PyData.canLayAll0 (rs.map rowD)) = true
    rw [lay_rows rs]
    show (PyData.canLay0 (.tuple (r.map PyData.int)) && true) = true
    unfold PyData.canLay0
    rw [lay_ints]
    rfl
theorem dep_rows : ∀ rs : List (List Int), PyData.depthAll (rs.map rowD) ≤ 2
  | [] => Nat.zero_le _
  | r :: rs => by
    show max (PyData.depth (rowD r)) (PyData.depthAll (rs.map rowD)) ≤ 2
    have h1 : PyData.depth (rowD r) ≤ 2 := by
      unfold rowD PyData.depth
      have := dep_ints r
      omega
    have := dep_rows rs
    omega
theorem shp_rows (rs : List (List Int)) : SeqAt.shaped (.list (rs.map rowD)) = true := by
  unfold SeqAt.shaped
  rw [Bool.and_eq_true]
  refine ⟨?_, decide_eq_true ?_⟩
  · unfold PyData.canLay0
    exact lay_rows rs
  · unfold PyData.depth
    have := dep_rows rs
    omega
theorem eqv_rows : ∀ xs ys : List (List Int), PyData.eqvAll (xs.map rowD) (ys.map rowD) = decide (xs = ys)
  | [], [] => by rw [decide_eq_true rfl]; rfl
  | [], y :: ys => by rw [decide_eq_false (by intro h; cases h)]; rfl
  | x :: xs, [] => by rw [decide_eq_false (by intro h; cases h)]; rfl
  | x :: xs, y :: ys => by
    show (PyData.eqv (rowD x) (rowD y) && PyData.eqvAll (xs.map rowD) (ys.map rowD)) = _
    rw [eqv_rows xs ys, show PyData.eqv (rowD x) (rowD y) = decide (x = y) from eqvT x y]
    by_cases h : x = y
    · subst h
      by_cases h2 : xs = ys
      · subst h2
        rw [decide_eq_true rfl, decide_eq_true rfl, decide_eq_true rfl]
        rfl
      · rw [decide_eq_false h2, decide_eq_false (fun z => h2 (List.cons.inj z).2), Bool.and_false]
    · rw [decide_eq_false h, decide_eq_false (fun z => h (List.cons.inj z).1), Bool.false_and]
theorem eqvR (xs ys : List (List Int)) : PyData.eqv (.list (xs.map rowD)) (.list (ys.map rowD)) = decide (xs = ys) := by
  unfold PyData.eqv
  exact eqv_rows xs ys
theorem r_neR {K : PySem.W.Frag} {H : Hp} {Q : VK} {p q : Addr} {xs ys : List (List Int)} (h : RwL H p xs) (h' : RwL H q ys) (k : Q (.bl (!decide (xs = ys))) H) : rNeD K (.ref p) (.ref q) H Q := by
  obtain ⟨vs, h1, h2⟩ := h
  obtain ⟨us, g1, g2⟩ := h'
  exact r_neD (.lst (SqL.of h1) (dp_rows h2)) (.lst (SqL.of g1) (dp_rows g2)) (shp_rows _) (shp_rows _) (by rw [eqvR]; exact k)
theorem r_eqR {K : PySem.W.Frag} {H : Hp} {Q : VK} {p q : Addr} {xs ys : List (List Int)} (h : RwL H p xs) (h' : RwL H q ys) (k : Q (.bl (decide (xs = ys))) H) : rEqD K (.ref p) (.ref q) H Q := by
  obtain ⟨vs, h1, h2⟩ := h
  obtain ⟨us, g1, g2⟩ := h'
  exact r_eqD (.lst (SqL.of h1) (dp_rows h2)) (.lst (SqL.of g1) (dp_rows g2)) (shp_rows _) (shp_rows _) (by rw [eqvR]; exact k)
/-- [e for v in a list], e pure, by places -/
theorem lc_lstI {K : PySem.W.Frag} {σ : L2.St} {H : Hp} {Q : VK} {te : TE} {a : Addr} {xs : List V} {j : Nat} {vs : List Nat} (f : Nat → V) (hx : SqL K H a xs) (hn : xs.length ≤ 100000) (hw : ∀ x, wipe ((wipe σ vs).set j (some x)) vs = wipe σ vs)
    (he : ∀ (i : Nat) x, xs[i]? = some x → PureE te ((wipe σ vs).set j (some x)) H (f i)) (k : ∀ p H1, H p = none → Ex H H1 → H1 p = some (.lst ((List.range xs.length).map f)) → Q (.ref p) H1) : LcB (Itl K a) (gName j) tYes te vs σ H Q := fun Dl hD => by
  refine lc_list (xs := xs) (fun i H' => Ex H H' ∧ H' Dl = some (.lst ((List.range i).map f))) ⟨Ex.new hD, upd_same⟩ (fun i H' _ p => sql_up p.1 hx) (fun i x H' hi p => ?_) (fun H' p => k Dl H' hD p.1 p.2)
  refine ⟨hw _, ?_⟩
  refine tYes_k ?_
  rw [if_pos rfl]
  have hl : i < xs.length := (List.getElem?_eq_some_iff.mp hi).1
  refine he i x hi H' p.1 _ fun H2 e2 => ⟨_, e2 _ _ p.2, ?_, ?_⟩
  · rw [List.length_map, List.length_range]
    exact len_lt (by omega)
  · refine ⟨fun a o ha => ?_, ?_⟩
    · rw [upd_ne (ne_of_none ha hD)]
      exact e2 _ _ (p.1 _ _ ha)
    · rw [upd_same, List.range_succ, List.map_append]
      rfl
def RowsZ (rs : List (List Int)) : Prop := ∀ r ∈ rs, ∃ n a b m s : Int, r = [n, a, b, m, s] ∧ 0 < m ∧ Sz 3300 n ∧ Sz 3300 a ∧ Sz 3300 b ∧ Sz 3300 m ∧ Sz 3300 s
theorem RowsZ.at {rs : List (List Int)} {i : Nat} {r : List Int} (h : RowsZ rs) (g : rs[i]? = some r) : ∃ n a b m s : Int, r = [n, a, b, m, s] ∧ 0 < m ∧ Sz 3300 n ∧ Sz 3300 a ∧ Sz 3300 b ∧ Sz 3300 m ∧ Sz 3300 s :=
  h r (List.mem_of_getElem? g)
def RowsY (rs : List (List Int)) : Prop := ∀ r ∈ rs, ∃ n a b m s : Int, r = [n, a, b, m, s] ∧ Sz 6900 n ∧ Sz 6900 a ∧ Sz 6900 b ∧ Sz 6900 m ∧ Sz 6900 s
theorem RowsY.at {rs : List (List Int)} {i : Nat} {r : List Int} (h : RowsY rs) (g : rs[i]? = some r) : ∃ n a b m s : Int, r = [n, a, b, m, s] ∧ Sz 6900 n ∧ Sz 6900 a ∧ Sz 6900 b ∧ Sz 6900 m ∧ Sz 6900 s :=
  h r (List.mem_of_getElem? g)
theorem RowsZ.y {rs : List (List Int)} (h : RowsZ rs) : RowsY rs := fun r hr => by
  obtain ⟨n, a, b, m, s, e, _, z1, z2, z3, z4, z5⟩ := h r hr
  exact ⟨n, a, b, m, s, e, z1.mono (by decide), z2.mono (by decide), z3.mono (by decide), z4.mono (by decide), z5.mono (by decide)⟩
theorem RowsZ.app {rs : List (List Int)} {n a b m s : Int} (h : RowsZ rs) (hm : 0 < m) (zn : Sz 3300 n) (za : Sz 3300 a) (zb : Sz 3300 b) (zm : Sz 3300 m) (zs : Sz 3300 s) : RowsZ (rs ++ [[n, a, b, m, s]]) := fun r hr => by
  rcases List.mem_append.mp hr with hr | hr
  · exact h r hr
  · rw [List.mem_singleton.mp hr]
    exact ⟨n, a, b, m, s, rfl, hm, zn, za, zb, zm, zs⟩
theorem Dr.lst {H : Hp} {d : Addr} (D : Dr H d) : ∃ xs, H d = some (.lst xs) := by
  obtain ⟨x, y, h, _⟩ := D
  exact ⟨_, h⟩
theorem Dr.kp {H H' : Hp} {d l : Addr} (D : Dr H d) (n : d ≠ l) (k : Kp l H H') : Dr H' d := by
  obtain ⟨x, y, h, r⟩ := D
  exact ⟨x, y, k _ _ n h, r⟩
/-- l fresh, then changed: all but d kept -/
theorem Kp.via {H H1 H2 : Hp} {d l : Addr} (k : Kp d H H1) (n : H l = none) (k2 : Kp l H1 H2) : Kp d H H2 := fun x o hx h => k2 x o (ne_of_none h n) (k x o hx h)
/-! the same within a comprehension -/
section
variable {X : Cx} {K : PySem.W.Frag}
theorem pg_tupK {es : List Expr} {k : Nat} {t : TGs} {n : Nat} {pos : Pos} (hc : X.calm = true) (h : PGs X es t) (hK : X.K = K := by rfl)
    (hn : (assignEach es X.env).length = n := by rfl) (hst : (assignEach es X.env).findIdx? (·.1) = none := by rfl) : PG X (.Tuple es k pos) (gTup K n t) := hK ▸ pg_tup hc h hn hst
theorem ix_listK (h : X.K = K := by rfl) : IxR X (rIxL K) := h ▸ ix_list
theorem ix_tupK (h : X.K = K := by rfl) : IxR X (rIxT K) := h ▸ ix_tup
theorem sl_tupAK (h : X.K = K := by rfl) : SlR X (rSlA K) := h ▸ sl_tupA
theorem sl_listK (h : X.K = K := by rfl) : SlR X (rSlL K) := h ▸ sl_list
theorem op_eqDK (hu : X.A.units + 64 < cLine) (h : X.K = K := by rfl) : OpR X (compareOp .Eq) (rEqD K) := h ▸ op_eqD hu
theorem op_neDK (hu : X.A.units + 64 < cLine) (h : X.K = K := by rfl) : OpR X (compareOp .NotEq) (rNeD K) := h ▸ op_neD hu
theorem op_in_seqK (h : X.K = K := by rfl) : OpR X (compareOp .In) (rIn K false) := h ▸ op_in_seq
theorem op_notIn_seqK (h : X.K = K := by rfl) : OpR X (compareOp .NotIn) (rIn K true) := h ▸ op_notIn_seq
theorem pi_listK {tg l : Expr} {tl : TE} (hl : PE X l tl) (h : X.K = K := by rfl) : PI X tg l (iList K tl) := h ▸ pi_list hl
theorem pi_tupK {tg l : Expr} {tl : TE} (hl : PE X l tl) (h : X.K = K := by rfl) : PI X tg l (iTup K tl) := h ▸ pi_tup hl
theorem cl_lenK (h : X.K = K := by rfl) : CallR X (.builtin "len") (rLen K) := h ▸ cl_len
theorem pe_bmK {o e : Expr} {es : List Expr} {to : TE} {t : TA} {name : Str} {apos cpos : Pos} {T id : String} {r : V → List V → Hp → VK → Prop} (pa : PlainAttrs T) (slot : Slot T name id) (hty : typeOf (.builtin id) = pure (.type "method_descriptor")) (hm : MtR X id r) (ho : PE X o to) (ha : PA X (e :: es) t)
    (h : X.K = K := by rfl)
    (hbase : attributeBase o name X.env (eval o X.env) = eval o X.env := by rfl)
    (hfew : ((backTo cpos (starEach (e :: es) X.env)).all (fun x => !x.1) && (backToKw cpos (keywordEach [] X.env)).all (fun x => x.1.isSome)
      && decide ((e :: es).length + ([] : List Keyword).length + (if ([] : List Keyword).isEmpty then 0 else 1) < 30)) = true := by rfl)
    (hline : (apos.endLine == cpos.line) = true := by rfl) (hs : starEach (e :: es) X.env = (false, eval e X.env) :: starEach es X.env := by rfl) (hplain : (backTo cpos (starEach es X.env)).any (·.1) = false := by rfl) :
    PE X (.Call (.Attribute o name apos) (e :: es) [] cpos) (tBM K T r to t) := h ▸ pe_bm pa slot hty hm ho ha hbase hfew hline hs hplain
end
/-- [.. for v in a tuple if t], t never -/
theorem lc_tupN {K : PySem.W.Frag} {σ : L2.St} {H : Hp} {Q : VK} {te : TE} {tt : TT} {a : Addr} {xs : List V} {j : Nat} {vs : List Nat} (hx : SqT K H a xs) (hw : ∀ x, wipe ((wipe σ vs).set j (some x)) vs = wipe σ vs)
    (ht : ∀ (i : Nat) x, xs[i]? = some x → PureT tt ((wipe σ vs).set j (some x)) H false) (k : ∀ p H1, H p = none → Ex H H1 → H1 p = some (.lst []) → Q (.ref p) H1) : LcB (Itt K a) (gName j) tt te vs σ H Q := fun Dl hD => by
  refine lc_tup (xs := xs) (fun i H' => Ex H H' ∧ H' Dl = some (.lst [])) ⟨Ex.new hD, upd_same⟩ (fun i H' _ p => sqt_up p.1 hx) (fun i x H' hi p => ?_) (fun H' p => k Dl H' hD p.1 p.2)
  refine ⟨hw _, ht i x hi H' p.1 _ fun H2 e2 => ?_⟩
  rw [if_neg Bool.false_ne_true]
  exact ⟨p.1.trans e2, e2 _ _ p.2⟩
theorem sz_n {n : Int} (h0 : 0 ≤ n) (h1 : n < 1000000000000000000000000000000) : Sz 110 n := by
  show n.natAbs < 2 ^ 110
  omega
/-- values that are rows of five numbers -/
def RY (k : Nat) (H : Hp) (vs : List V) : Prop := ∀ v ∈ vs, ∃ (p : Addr) (n a b m s : Int), v = .ref p ∧ H p = some (.tup [.int n, .int a, .int b, .int m, .int s]) ∧ Sz k n ∧ Sz k a ∧ Sz k b ∧ Sz k m ∧ Sz k s
theorem RY.imp {k : Nat} {H H' : Hp} {vs : List V} (h : RY k H vs) (f : ∀ (p : Addr) (xs : List V), H p = some (.tup xs) → H' p = some (.tup xs)) : RY k H' vs := fun v hv => by
  obtain ⟨p, n, a, b, m, s, e, hp, z⟩ := h v hv
  exact ⟨p, n, a, b, m, s, e, f _ _ hp, z⟩
theorem RY.ex {k : Nat} {H H' : Hp} {vs : List V} (h : RY k H vs) (e : Ex H H') : RY k H' vs := h.imp fun p _ q => e p _ q
theorem RY.kp {k : Nat} {H H' : Hp} {d : Addr} {vs : List V} (h : RY k H vs) (kp : Kp d H H') (D : Dr H d) : RY k H' vs := h.imp fun _ _ q => kp.tup D q
theorem RY.kpL {k : Nat} {H H' : Hp} {d : Addr} {vs ys : List V} (h : RY k H vs) (kp : Kp d H H') (D : H d = some (.lst ys)) : RY k H' vs := h.imp fun _ _ q => kp.tupL D q
theorem RY.sub {k : Nat} {H : Hp} {vs us : List V} (h : RY k H vs) (f : ∀ v ∈ us, v ∈ vs) : RY k H us := fun v hv => h v (f v hv)
theorem RY.app {k : Nat} {H : Hp} {vs us : List V} (h : RY k H vs) (h' : RY k H us) : RY k H (vs ++ us) := fun v hv => (List.mem_append.mp hv).elim (h v) (h' v)
theorem RY.rows {H : Hp} : ∀ {vs : List V}, RY 6900 H vs → ∃ rs, RowsA H vs rs ∧ RowsY rs
  | [], _ => ⟨[], trivial, fun _ h => by cases h⟩
  | v :: vs, h => by
    obtain ⟨rs, h1, h2⟩ := RY.rows (H := H) (vs := vs) fun u hu => h u (List.mem_cons_of_mem _ hu)
    obtain ⟨p, n, a, b, m, s, e, hp, z⟩ := h v (List.mem_cons_self ..)
    refine ⟨[n, a, b, m, s] :: rs, ⟨⟨p, e, hp⟩, h1⟩, fun r hr => ?_⟩
    rcases List.mem_cons.mp hr with hr | hr
    · exact ⟨n, a, b, m, s, hr, z⟩
    · exact h2 r hr
theorem RowsA.ry {H : Hp} : ∀ {vs : List V} {rs : List (List Int)}, RowsA H vs rs → RowsZ rs → RY 3300 H vs
  | [], [], _, _ => fun _ h => by cases h
  | v :: vs, r :: rs, ⟨⟨p, e, hp⟩, h⟩, z => fun u hu => by
    rcases List.mem_cons.mp hu with hu | hu
    · obtain ⟨n, a, b, m, s, er, _, z'⟩ := z r (List.mem_cons_self ..)
      subst er
      exact ⟨p, n, a, b, m, s, hu.trans e, hp, z'⟩
    · exact RowsA.ry h (fun r hr => z r (List.mem_cons_of_mem _ hr)) u hu
  | [], _ :: _, h, _ => h.elim
  | _ :: _, [], h, _ => h.elim
theorem RY.mono {k j : Nat} {H : Hp} {vs : List V} (h : RY k H vs) (l : k ≤ j) : RY j H vs := fun v hv => by
  obtain ⟨p, n, a, b, m, s, e, hp, z1, z2, z3, z4, z5⟩ := h v hv
  exact ⟨p, n, a, b, m, s, e, hp, z1.mono l, z2.mono l, z3.mono l, z4.mono l, z5.mono l⟩
/-- a paper by a value -/
def PpV (H : Hp) (d : Addr) (v : V) : Prop := ∃ (l : Addr) (vs : List V), v = .ref l ∧ l ≠ d ∧ H l = some (.lst vs) ∧ RY 6900 H vs ∧ vs.length ≤ 6000
theorem PpV.ex {H H' : Hp} {d : Addr} {v : V} (h : PpV H d v) (e : Ex H H') : PpV H' d v := by
  obtain ⟨l, vs, e1, n, h1, h2, h3⟩ := h
  exact ⟨l, vs, e1, n, e _ _ h1, h2.ex e, h3⟩
theorem PpV.kp {H H' : Hp} {d : Addr} {v : V} (h : PpV H d v) (k : Kp d H H') (D : Dr H d) : PpV H' d v := by
  obtain ⟨l, vs, e1, n, h1, h2, h3⟩ := h
  exact ⟨l, vs, e1, n, k _ _ n h1, h2.kp k D, h3⟩
theorem PpV.kpL {H H' : Hp} {d q : Addr} {v : V} {ys : List V} (h : PpV H d v) (k : Kp q H H') (D : H q = some (.lst ys)) (n : v ≠ .ref q) : PpV H' d v := by
  obtain ⟨l, vs, e1, nd, h1, h2, h3⟩ := h
  exact ⟨l, vs, e1, nd, k _ _ (fun z => n (by rw [e1, z])) h1, h2.kpL k D, h3⟩
theorem r_sum {K : PySem.W.Frag} {H : Hp} {Q : VK} {p : Addr} {ns : List Int} (h : SqL K H p (ns.map V.int)) (k : Q (.int ns.sum) H) : rSum K [.ref p] H Q := ⟨p, ns, rfl, h, k⟩
theorem r_tyS {K : PySem.W.Frag} {H : Hp} {z : Str} {R : Prop} (k : R) : tyV K "str" (.str z) H ∧ R := ⟨rfl, k⟩
/-- sep.join(a list of texts) -/
def rJoin (K : PySem.W.Frag) : V → List V → Hp → VK → Prop := fun x xs H Q => ∃ a p, ∃ ys : List Str, x = .str a ∧ xs = [.ref p] ∧ (SqL K H p (ys.map V.str) ∨ SqT K H p (ys.map V.str)) ∧ (ys.map (·.length)).sum + ys.length * a.length ≤ 16777216 ∧ Q (.str (Txt.join a ys)) H
theorem mt_joinR {X : Cx} : MtR X "str.join" (rJoin X.K) := mt_join
theorem mt_joinRK {X : Cx} {K : PySem.W.Frag} (h : X.K = K := by rfl) : MtR X "str.join" (rJoin K) := h ▸ mt_joinR
theorem r_join {K : PySem.W.Frag} {H : Hp} {Q : VK} {a : Str} {p : Addr} {ys : List Str} (h : SqL K H p (ys.map V.str)) (n : (ys.map (·.length)).sum + ys.length * a.length ≤ 16777216) (k : Q (.str (Txt.join a ys)) H) : rJoin K (.str a) [.ref p] H Q := ⟨a, p, ys, rfl, rfl, .inl h, n, k⟩
theorem r_iZip {K : PySem.W.Frag} {ta : TA} {σ : L2.St} {H : Hp} {R : It → Hp → Prop} (k : ta σ H fun vs H1 => ∃ a b xs ys, vs = [.ref a, .ref b] ∧ SqL K H1 a xs ∧ SqL K H1 b ys ∧ R (Itz K a b) H1) : iZip K ta σ H R := k
/-- [e for x, y in zip(two lists of whole numbers)] -/
theorem lc_zipI {K : PySem.W.Frag} {σ : L2.St} {H : Hp} {Q : VK} {te : TE} {a b : Addr} {xs ys : List Int} {j1 j2 : Nat} {vs : List Nat} (f : Int → Int → V) (ha : SqL K H a (xs.map V.int)) (hb : SqL K H b (ys.map V.int)) (hn : xs.length ≤ 100000)
    (hw : ∀ x y, wipe (((wipe σ vs).set j1 (some x)).set j2 (some y)) vs = wipe σ vs)
    (he : ∀ (i : Nat) x y, xs[i]? = some x → ys[i]? = some y → PureE te (((wipe σ vs).set j1 (some (.int x))).set j2 (some (.int y))) H (f x y))
    (k : ∀ p H1, H p = none → Ex H H1 → H1 p = some (.lst ((xs.zip ys).map fun q => f q.1 q.2)) → Q (.ref p) H1) : LcB (Itz K a b) (gTup K 2 (gCons (gName j1) (gCons (gName j2) gNil))) tYes te vs σ H Q := fun Dl hD => by
  have lz : (xs.zip ys).length = min xs.length ys.length := List.length_zip
  refine ⟨fun i m H' => m = (xs.zip ys).length - i ∧ i ≤ (xs.zip ys).length ∧ Ex H H' ∧ H' Dl = some (.lst (((xs.zip ys).take i).map fun q => f q.1 q.2)), ⟨_, rfl, Nat.zero_le _, Ex.new hD, by rw [upd_same]; rfl⟩, ?_⟩
  rintro i m H' ⟨rfl, hi, e, hd⟩
  by_cases hx : i = (xs.zip ys).length
  · subst hx
    refine .inl ⟨⟨_, _, sql_up e ha, sql_up e hb, by rw [List.length_map, List.length_map]; omega⟩, ?_⟩
    rw [List.take_length] at hd
    exact k Dl H' hD e hd
  · have h1 : i < xs.length := by omega
    have h2 : i < ys.length := by omega
    have g1 : (xs.map V.int)[i]? = some (.int xs[i]) := by rw [List.getElem?_map, List.getElem?_eq_getElem h1]; rfl
    have g2 : (ys.map V.int)[i]? = some (.int ys[i]) := by rw [List.getElem?_map, List.getElem?_eq_getElem h2]; rfl
    have gz : (xs.zip ys)[i]? = some (xs[i], ys[i]) := by
      rw [List.getElem?_eq_getElem (by omega), List.getElem_zip]
    refine .inr ⟨⟨_, _, _, _, sql_up e ha, sql_up e hb, g1, g2⟩, fun H3 => Ex H H3 ∧ H3 Dl = some (.lst (((xs.zip ys).take (i + 1)).map fun q => f q.1 q.2)), fun H3 p => ⟨(xs.zip ys).length - (i + 1), by omega, rfl, by omega, p⟩, ?_⟩
    rintro x H2 ⟨T, x1, y1, rfl, hT, rfl, q1, q2⟩
    have e1 : x1 = .int xs[i] := Option.some.inj ((q1 _ (sql_up e ha)).symm.trans g1)
    have e2 : y1 = .int ys[i] := Option.some.inj ((q2 _ (sql_up e hb)).symm.trans g2)
    subst e1 e2
    refine ⟨T, _, rfl, SqT.of upd_same, rfl, _, _, rfl, _, _, rfl, rfl, hw _ _, ?_⟩
    have eT : Ex H' (upd H' T (.tup [.int xs[i], .int ys[i]])) := Ex.new hT
    refine tYes_k ?_
    rw [if_pos rfl]
    refine he i xs[i] ys[i] (List.getElem?_eq_getElem h1) (List.getElem?_eq_getElem h2) _ (e.trans eT) _ fun H4 e4 => ⟨_, e4 _ _ (eT _ _ hd), ?_, ?_⟩
    · rw [List.length_map, List.length_take]
      exact len_lt (by omega)
    · refine ⟨fun a o ho => ?_, ?_⟩
      · rw [upd_ne (ne_of_none ho hD)]
        exact e4 _ _ (eT _ _ (e _ _ ho))
      · rw [upd_same, List.take_add_one, gz, List.map_append]
        rfl
theorem cut_1 (xs : List V) (h : 1 ≤ xs.length) : cutV xs (some 1) none = xs.drop 1 := by
  have e1 : HT.sIx xs.length 0 (some 1) = 1 := by
    unfold HT.sIx
    simp
    omega
  have e2 : HT.sIx xs.length xs.length none = xs.length := rfl
  unfold cutV
  rw [e1, e2, List.take_of_length_le (by rw [List.length_drop]; omega)]
/-- [e for x in a list of whole numbers if t] -/
theorem lc_lstFI {K : PySem.W.Frag} {σ : L2.St} {H : Hp} {Q : VK} {te : TE} {tt : TT} {a : Addr} {ns : List Int} {j : Nat} {vs : List Nat} (c : Int → Bool) (f : Int → V) (hx : SqL K H a (ns.map V.int)) (hn : ns.length ≤ 100000) (hw : ∀ x, wipe ((wipe σ vs).set j (some x)) vs = wipe σ vs)
    (ht : ∀ x ∈ ns, PureT tt ((wipe σ vs).set j (some (.int x))) H (c x)) (he : ∀ x ∈ ns, c x = true → PureE te ((wipe σ vs).set j (some (.int x))) H (f x))
    (k : ∀ p H1, H p = none → Ex H H1 → H1 p = some (.lst ((ns.filter c).map f)) → Q (.ref p) H1) : LcB (Itl K a) (gName j) tt te vs σ H Q := fun Dl hD => by
  refine lc_list (xs := ns.map V.int) (fun i H' => Ex H H' ∧ H' Dl = some (.lst (((ns.take i).filter c).map f))) ⟨Ex.new hD, upd_same⟩ (fun i H' _ p => sql_up p.1 hx) (fun i x H' hi p => ?_) (fun H' p => k Dl H' hD p.1 (by rw [p.2, List.length_map, List.take_length]))
  rw [List.getElem?_map] at hi
  obtain ⟨z, hz, rfl⟩ := Option.map_eq_some_iff.mp hi
  have mem := List.mem_of_getElem? hz
  have tk : ns.take (i + 1) = ns.take i ++ [z] := by rw [List.take_add_one, hz]; rfl
  refine ⟨hw _, ht z mem H' p.1 _ fun H2 e2 => ?_⟩
  cases hc : c z with
  | true =>
    rw [if_pos rfl]
    refine he z mem hc H2 (p.1.trans e2) _ fun H3 e3 => ⟨_, e3 _ _ (e2 _ _ p.2), ?_, ?_⟩
    · rw [List.length_map]
      have := List.length_filter_le c (ns.take i)
      rw [List.length_take] at this
      exact len_lt (by omega)
    · refine ⟨fun b o hb => ?_, ?_⟩
      · rw [upd_ne (ne_of_none hb hD)]
        exact e3 _ _ (e2 _ _ (p.1 _ _ hb))
      · rw [upd_same, tk, List.filter_append, List.map_append]
        simp [hc]
  | false =>
    rw [if_neg Bool.false_ne_true]
    refine ⟨p.1.trans e2, ?_⟩
    rw [tk, List.filter_append, List.map_append]
    simp [hc, e2 _ _ p.2]
/-! ### a def that calls itself: one frame a turn -/
structure RmD (j : Nat) (A : Around) : Prop where
  hd : A.handled = none
  dp : A.depth + j + 20 < recursionLimit
  un : A.units + 3 * j + 300 < cLine
theorem RmD.room {j : Nat} {A : Around} (r : RmD j A) : Room 5 A := ⟨r.hd, by have := r.dp; omega, by have := r.un; omega⟩
theorem RmD.deeper {j : Nat} {A : Around} (r : RmD (j + 1) A) (env : Env) : RmD j (A.deeper env) :=
  ⟨r.hd, by have := r.dp; show A.depth + 1 + j + 20 < _; omega, by have := r.un; show A.units + 3 + 3 * j + 300 < _; omega⟩
theorem RmD.of {k j : Nat} {A : Around} (r : Room k A) (h : j + 40 ≤ 3 * k) : RmD j A := ⟨r.hd, by have := r.dp; omega, by have := r.un; omega⟩
/-- the def named x keeps the promise sp where there is room for j turns -/
def HasD (P : Program) (w : World) (K : PySem.W.Frag) (mg : Str → Option Value) (base : Heap) (j : Nat) (x : Str) (ps : List Str) (sp : Sp) : Prop :=
  ∃ f fd, mg x = some (.ref f) ∧ PySem.W.keepIn K (.ref f) = true ∧ Binds K fd ps [] ∧ (∀ vs H Q E, sp vs H Q E → vs.length = ps.length) ∧
    ∀ (A : Around) (outer : List Env) (s : Shared) (H : Hp) (args : Args) (us : List Value) (vs : List V) (Q : VK) (E : XK), RmD j A → Env0 P w K mg base A outer s H → BindsTo s fd args (ps.zip us) → Vals vs us → sp vs H Q E →
      codeAny (model P w) A (.call (.ref f) args) (CR CX0 outer P w H s Q E) s
section
variable {P : Program} {w : World} {K : PySem.W.Frag} {mg : Str → Option Value} {base : Heap}
theorem DefAt.okD {x : Str} {st : Stmt} {N ps : List Str} {j : Nat} {sp : Sp} (D : DefAt K mg x st ps) (S : FnScope N ps (defScope st)) (len : ∀ vs H Q E, sp vs H Q E → vs.length = ps.length)
    (hbody : ∀ (f : Addr) (cdv : Value) (A : Around) (outer : List Env) (s : Shared) (H : Hp) (vs : List V) (Q : VK) (E : XK), RmD j (A.deeper (envOfC x (defScope st) s.heap.objs.size f cdv)) → sp vs H Q E →
      ∃ t, PSs (cxOf CX0 P w K mg base N x (defScope st) f cdv A outer s H E).nox (defBody st) t ∧ t { nx := fun _ H' => Q .non H', rt := Q } (start N vs) H) : HasD P w K mg base (j + 1) x ps sp := by
  obtain ⟨f, fd, F, m, b⟩ := D
  refine ⟨f, fd, m, F.kp, b, len, fun A outer s H args us vs Q E rm e0 hb rv hs => ?_⟩
  obtain ⟨_, _, _, _, _, _, cdv, _, _, rfl, lk, cd⟩ := F.ex
  have grown : ∀ (a : Addr) (o : Obj), base.get? a = some o → s.heap.get? a = some o := fun a o h => (e0.bs a o h).1
  have locals : ∀ y ∈ ps.zip us, (defScope st).names.lookup y.1 = some .local ∨ ((defScope st).names.lookup y.1 = some .cell ∧ ((cellsFrom (s.heap.objs.size + 1) (defScope st).names []).lookup y.1).isSome = true) := by
    rintro ⟨y, u⟩ hy
    exact (S.par y (List.of_mem_zip hy).1).imp id fun c => ⟨c, PySem.W.cellsFrom_some _ _ _ (.inl c)⟩
  refine codeAny_call_function (by have := rm.dp; omega) (e0.mod.kin.keeps grown _ _ lk) rfl S.co S.gen rfl (PySem.W.codeRec_of (e0.mod.kin.keeps grown) cd) (hb _ _ _ _ ?_)
  refine wpAny_newFunctionEnv_cells S.kind locals ?_
  rintro env rfl s1 ic
  refine ⟨(e0.mod.nolimit.keeps grown).keeps ic.toInCall.keep, codeAny_func ?_⟩
  obtain ⟨t, ht, hq⟩ := hbody f cdv A outer s H vs Q E (rm.deeper _) hs
  refine wpAny_mono (ht.nox.run [] s1 (start N vs) H _ (inv_start S rm.hd e0 (len _ _ _ _ hs) rv ic) hq) (fun fl s' h => ?_) fun _ _ h => h
  cases fl with
  | ret u =>
    obtain ⟨v, _, H', J, r, q⟩ := h
    exact ⟨v, H', J.os, J.bare, J.base, J.hok, r, q⟩
  | next =>
    obtain ⟨_, H', J, q⟩ := h
    exact ⟨.non, H', J.os, J.bare, J.base, J.hok, rfl, q⟩
  | brk =>
    obtain ⟨_, _, _, q⟩ := h
    exact q.elim
  | cont =>
    obtain ⟨_, _, _, q⟩ := h
    exact q.elim
/-- nothing is promised of what never is -/
theorem DefAt.none {x : Str} {st : Stmt} {ps : List Str} {j : Nat} {sp : Sp} (D : DefAt K mg x st ps) (no : ∀ vs H Q E, ¬ sp vs H Q E) : HasD P w K mg base j x ps sp := by
  obtain ⟨f, fd, F, m, b⟩ := D
  exact ⟨f, fd, m, F.kp, b, fun _ _ _ _ h => (no _ _ _ _ h).elim, fun _ _ _ _ _ _ _ _ _ _ _ _ _ h => (no _ _ _ _ h).elim⟩
theorem HasD.has {x : Str} {ps : List Str} {j k : Nat} {sp : Sp} (G : HasD P w K mg base j x ps sp) (h : j + 40 ≤ 3 * k) : Has P w K mg base CX0 k x ps sp := by
  obtain ⟨f, fd, m, kp, b, len, r⟩ := G
  exact ⟨f, fd, m, kp, b, len, fun A outer s H args us vs Q E hr => r A outer s H args us vs Q E (.of hr h)⟩
end
section
variable {X : Cx} {x : Str} {p pos : Pos} {e : Expr} {es : List Expr} {t : TA} {j : Nat} {ps : List Str} {sp : Sp}
/-- f(e, ..), f itself -/
theorem pcallD (G : HasD X.prog X.w X.K X.mg X.base j x ps sp) (rm : RmD j X.A) (ha : PA X (e :: es) t) (hg : Gl X x := by rfl)
    (hdb : (x == ("__debug__" : Str)) = false := by decide) (he : starEach (e :: es) X.env = (false, eval e X.env) :: starEach es X.env := by rfl) (hpl : (backTo pos (starEach es X.env)).any (·.1) = false := by rfl) :
    PE X (.Call (.Name x p) (e :: es) [] pos) (tCal sp E0 t) := by
  obtain ⟨f, fd, m, kp, b, len, run⟩ := G
  refine ⟨fun pins s σ H Q I h => wpAny_Call_Name_kw (ld_glob I hg m ?_ hdb)⟩
  have h' : t σ H fun vs H1 => sp vs H1 Q E0 := h
  refine PySem.W.callWith_K (h₀ := X.base) I.ok.mod.kin kp (thn (ha.run pos pins s σ H _ I h') fun us s1 ⟨vs, H1, I1, rv, q⟩ => ⟨I1.kIn, ?_⟩) he hpl
  have hu : us.length = ps.length := by rw [← rv.length]; exact len _ _ _ _ q
  have hb := b s1 us I1.kIn (by rw [List.append_nil]; exact hu)
  rw [List.append_nil] at hb
  refine wpAny_call (codeAny_mono (run X.A X.stack s1 H1 ⟨us, []⟩ us vs Q E0 rm I1.env0 hb rv q) fun r s2 hr => ?_)
  match r, hr with
  | .error err, hr => exact pass0 pins σ H1 s1 err s2 I1 hr
  | .ok (.ret u), hr => exact I1.after hr
  | .ok .next, hr => exact hr.elim
  | .ok .brk, hr => exact hr.elim
  | .ok .cont, hr => exact hr.elim
end
/-- a tuple of the module -/
def TupC (K : PySem.W.Frag) (mg : Str → Option Value) (x : Str) (a : Addr) (xs : List V) : Prop := mg x = some (.ref a) ∧ ∀ H, SqT K H a xs
theorem sqt_k {K : PySem.W.Frag} {H : Hp} {a : Addr} {xs : List V} {od : Option Addr} {it : Array Value} {n : Nat} {sl : Array (Option Value)} (L : K.lookup a = some ⟨.type "tuple", od, .seq it n, sl⟩) (v : Vals xs it.toList) (z : it.size ≤ sizeLine) : SqT K H a xs := .inr ⟨_, it, n, L, rfl, rfl, z, v⟩
def rTupOf (K : PySem.W.Frag) : List V → Hp → VK → Prop := fun xs H Q => ∃ p ys, xs = [.ref p] ∧ ((SqL K H p ys ∧ ∀ l, H l = none → Q (.ref l) (upd H l (.tup ys))) ∨ (SqT K H p ys ∧ Q (.ref p) H))
theorem cl_tupOf {X : Cx} : CallR X (.type "tuple") (rTupOf X.K) := call_tuple_of
theorem cl_tupOfK {X : Cx} {K : PySem.W.Frag} (h : X.K = K := by rfl) : CallR X (.type "tuple") (rTupOf K) := h ▸ cl_tupOf
theorem r_tupL {K : PySem.W.Frag} {H : Hp} {Q : VK} {p : Addr} {ys : List V} (h : SqL K H p ys) (k : ∀ l H1, H l = none → Ex H H1 → H1 l = some (.tup ys) → Q (.ref l) H1) : rTupOf K [.ref p] H Q :=
  ⟨p, ys, rfl, .inl ⟨h, fun l n => k l _ n (Ex.new n) upd_same⟩⟩
def ZipAs (K : PySem.W.Frag) (R : It → Hp → Prop) (vs : List V) (H1 : Hp) : Prop := ∃ a b xs ys, vs = [.ref a, .ref b] ∧ ((SqL K H1 a xs ∧ SqL K H1 b ys ∧ R (Itz K a b) H1) ∨ (SqT K H1 a xs ∧ SqT K H1 b ys ∧ R (RZ.ItzT K a b) H1))
theorem r_zipT {K : PySem.W.Frag} {H : Hp} {R : It → Hp → Prop} {a b : Addr} {xs ys : List V} (ha : SqT K H a xs) (hb : SqT K H b ys) (k : R (RZ.ItzT K a b) H) : ZipAs K R [.ref a, .ref b] H := ⟨a, b, xs, ys, rfl, .inr ⟨ha, hb, k⟩⟩
theorem r_iZipA {K : PySem.W.Frag} {ta : TA} {σ : L2.St} {H : Hp} {R : It → Hp → Prop} (k : ta σ H fun vs H1 => ZipAs K R vs H1) : RZ.iZipA K ta σ H R := k
/-- [e for x, y in zip(two tuples of whole numbers)] -/
theorem lc_zipT {K : PySem.W.Frag} {σ : L2.St} {H : Hp} {Q : VK} {te : TE} {a b : Addr} {xs ys : List Int} {j1 j2 : Nat} {vs : List Nat} (f : Int → Int → V) (ha : SqT K H a (xs.map V.int)) (hb : SqT K H b (ys.map V.int)) (hn : xs.length ≤ 100000)
    (hw : ∀ x y, wipe (((wipe σ vs).set j1 (some x)).set j2 (some y)) vs = wipe σ vs)
    (he : ∀ (i : Nat) x y, xs[i]? = some x → ys[i]? = some y → PureE te (((wipe σ vs).set j1 (some (.int x))).set j2 (some (.int y))) H (f x y))
    (k : ∀ p H1, H p = none → Ex H H1 → H1 p = some (.lst ((xs.zip ys).map fun q => f q.1 q.2)) → Q (.ref p) H1) : LcB (RZ.ItzT K a b) (gTup K 2 (gCons (gName j1) (gCons (gName j2) gNil))) tYes te vs σ H Q := fun Dl hD => by
  have lz : (xs.zip ys).length = min xs.length ys.length := List.length_zip
  refine ⟨fun i m H' => m = (xs.zip ys).length - i ∧ i ≤ (xs.zip ys).length ∧ Ex H H' ∧ H' Dl = some (.lst (((xs.zip ys).take i).map fun q => f q.1 q.2)), ⟨_, rfl, Nat.zero_le _, Ex.new hD, by rw [upd_same]; rfl⟩, ?_⟩
  rintro i m H' ⟨rfl, hi, e, hd⟩
  by_cases hx : i = (xs.zip ys).length
  · subst hx
    refine .inl ⟨⟨_, _, sqt_up e ha, sqt_up e hb, by rw [List.length_map, List.length_map]; omega⟩, ?_⟩
    rw [List.take_length] at hd
    exact k Dl H' hD e hd
  · have h1 : i < xs.length := by omega
    have h2 : i < ys.length := by omega
    have g1 : (xs.map V.int)[i]? = some (.int xs[i]) := by rw [List.getElem?_map, List.getElem?_eq_getElem h1]; rfl
    have g2 : (ys.map V.int)[i]? = some (.int ys[i]) := by rw [List.getElem?_map, List.getElem?_eq_getElem h2]; rfl
    have gz : (xs.zip ys)[i]? = some (xs[i], ys[i]) := by
      rw [List.getElem?_eq_getElem (by omega), List.getElem_zip]
    refine .inr ⟨⟨_, _, _, _, sqt_up e ha, sqt_up e hb, g1, g2⟩, fun H3 => Ex H H3 ∧ H3 Dl = some (.lst (((xs.zip ys).take (i + 1)).map fun q => f q.1 q.2)), fun H3 p => ⟨(xs.zip ys).length - (i + 1), by omega, rfl, by omega, p⟩, ?_⟩
    rintro x H2 ⟨T, x1, y1, rfl, hT, rfl, q1, q2⟩
    have e1 : x1 = .int xs[i] := Option.some.inj ((q1 _ (sqt_up e ha)).symm.trans g1)
    have e2 : y1 = .int ys[i] := Option.some.inj ((q2 _ (sqt_up e hb)).symm.trans g2)
    subst e1 e2
    refine ⟨T, _, rfl, SqT.of upd_same, rfl, _, _, rfl, _, _, rfl, rfl, hw _ _, ?_⟩
    have eT : Ex H' (upd H' T (.tup [.int xs[i], .int ys[i]])) := Ex.new hT
    refine tYes_k ?_
    rw [if_pos rfl]
    refine he i xs[i] ys[i] (List.getElem?_eq_getElem h1) (List.getElem?_eq_getElem h2) _ (e.trans eT) _ fun H4 e4 => ⟨_, e4 _ _ (eT _ _ hd), ?_, ?_⟩
    · rw [List.length_map, List.length_take]
      exact len_lt (by omega)
    · refine ⟨fun a o ho => ?_, ?_⟩
      · rw [upd_ne (ne_of_none ho hD)]
        exact e4 _ _ (eT _ _ (e _ _ ho))
      · rw [upd_same, List.take_add_one, gz, List.map_append]
        rfl
theorem r_neT2 {K : PySem.W.Frag} {H : Hp} {Q : VK} {p q : Addr} {a b a' b' : Int} (h : H p = some (.tup [.int a, .int b])) (h' : H q = some (.tup [.int a', .int b'])) (k : Q (.bl (!decide ([a, b] = [a', b']))) H) : rNeD K (.ref p) (.ref q) H Q :=
  r_neD (.tup (SqT.of h) (dp_ints [a, b])) (.tup (SqT.of h') (dp_ints [a', b'])) (shp_tup _) (shp_tup _) (by rw [eqvT]; exact k)
theorem r_eqT2 {K : PySem.W.Frag} {H : Hp} {Q : VK} {p q : Addr} {a b a' b' : Int} (h : H p = some (.tup [.int a, .int b])) (h' : H q = some (.tup [.int a', .int b'])) (k : Q (.bl (decide ([a, b] = [a', b']))) H) : rEqD K (.ref p) (.ref q) H Q :=
  r_eqD (.tup (SqT.of h) (dp_ints [a, b])) (.tup (SqT.of h') (dp_ints [a', b'])) (shp_tup _) (shp_tup _) (by rw [eqvT]; exact k)
/-- a comprehension within a comprehension -/
theorem blkN {N : List Str} {q : Str} {sc scope0 scope : Scope} {n f : Addr} {cd : Value} {own : List (Str × Nat)} (h : blkC N (relabel scope0 (envOfC "" sc 0 0 .none)) scope own = true) : BlkOk N (relabel scope0 (envOfC q sc n f cd)) scope own := blkOk_by (sc := relabel scope0 (envOfC "" sc 0 0 .none)) h
/-! ### classes -/
def NAs (K : PySem.W.Frag) (C : Addr) : List Str → Prop
  | [] => True
  | f :: fs => NoAttr K C f ∧ NAs K C fs
/-- the class x of the module, objects of it with the attributes fs -/
structure TxC (K : PySem.W.Frag) (mg : Str → Option Value) (x : Str) (C : Addr) (fs : List Str) : Prop where
  cl : Cls K C
  g : mg x = some (.ref C)
  na : NAs K C fs
def MetAt (K : PySem.W.Frag) (C : Addr) (m q : Str) (st : Stmt) (ps : List Str) : Prop := ∃ f fd, Fun K m q st f fd ∧ Meth K C m f ∧ Binds K fd ps []
def IniAt (K : PySem.W.Frag) (C : Addr) (q : Str) (st : Stmt) (ps : List Str) : Prop := ∃ f fd, Fun K "__init__" q st f fd ∧ Mk K C f ∧ Binds K fd ps []
def HasM (P : Program) (w : World) (K : PySem.W.Frag) (mg : Str → Option Value) (base : Heap) (CX : CXT) (k : Nat) (C : Addr) (m : Str) (ps : List Str) (sp : Sp) : Prop := ∃ f fd, Meth K C m f ∧ Binds K fd ps [] ∧ FnOk P w K mg base CX k f fd ps sp
def HasI (P : Program) (w : World) (K : PySem.W.Frag) (mg : Str → Option Value) (base : Heap) (CX : CXT) (k : Nat) (C : Addr) (ps : List Str) (sp : Sp) : Prop := ∃ f fd, Mk K C f ∧ Binds K fd ps [] ∧ FnOk P w K mg base CX k f fd ps sp
section
variable {P : Program} {w : World} {K : PySem.W.Frag} {mg : Str → Option Value} {base : Heap}
theorem met_mk {C : Addr} {m q : Str} {st : Stmt} {ps : List Str} {f : Addr} {oc : Value} {od an : Option Addr} {osl : Array (Option Value)} {kV doc pm cdv ct : Value}
    (a : PySem.W.findIn K (.ref C) m = some (some (.ref f))) (i : PySem.W.isFn K (.ref f) = true) (l : K.lookup f = some ⟨oc, od, .func (PySem.W.fnOf m q (defArgs st) (defBody st) (defScope st) .none kV doc pm an cdv ct), osl⟩)
    (c : PySem.W.codeIn K cdv q = true) (k : PySem.W.keepIn K (.ref f) = true)
    (b : ∀ (kV doc pm : Value) (an : Option Addr) (cdv ct : Value) (us : List Value), us.length = ps.length → bindArgs (PySem.W.fnOf m q (defArgs st) (defBody st) (defScope st) .none kV doc pm an cdv ct) ⟨us, []⟩ = pure (ps.zip us)) : MetAt K C m q st ps :=
  ⟨f, _, fun_mk l c k, ⟨a, i, k⟩, (fun_mk l c k).binds b⟩
theorem ini_mk {C : Addr} {q : Str} {st : Stmt} {ps : List Str} {f : Addr} {oc : Value} {od an : Option Addr} {osl : Array (Option Value)} {kV doc pm cdv ct : Value} (mk : PySem.W.makesIn K C = true) (kc : PySem.W.keepIn K (.ref C) = true)
    (a : PySem.W.findIn K (.ref C) "__init__" = some (some (.ref f))) (i : PySem.W.isFn K (.ref f) = true) (l : K.lookup f = some ⟨oc, od, .func (PySem.W.fnOf "__init__" q (defArgs st) (defBody st) (defScope st) .none kV doc pm an cdv ct), osl⟩)
    (c : PySem.W.codeIn K cdv q = true) (k : PySem.W.keepIn K (.ref f) = true)
    (b : ∀ (kV doc pm : Value) (an : Option Addr) (cdv ct : Value) (us : List Value), us.length = ps.length → bindArgs (PySem.W.fnOf "__init__" q (defArgs st) (defBody st) (defScope st) .none kV doc pm an cdv ct) ⟨us, []⟩ = pure (ps.zip us)) : IniAt K C q st ps :=
  ⟨f, _, fun_mk l c k, ⟨mk, a, i, kc⟩, (fun_mk l c k).binds b⟩
theorem MetAt.ok {C : Addr} {m q : Str} {st : Stmt} {N ps : List Str} {k : Nat} {sp : Sp} (D : MetAt K C m q st ps) (S : FnScope N ps (defScope st)) (len : ∀ vs H Q E, sp vs H Q E → vs.length = ps.length)
    (hbody : ∀ (f : Addr) (cdv : Value) (A : Around) (outer : List Env) (s : Shared) (H : Hp) (vs : List V) (Q : VK) (E : XK), Room k (A.deeper (envOfC q (defScope st) s.heap.objs.size f cdv)) → sp vs H Q E →
      ∃ t, PSs (cxOf CX0 P w K mg base N q (defScope st) f cdv A outer s H E).nox (defBody st) t ∧ t { nx := fun _ H' => Q .non H', rt := Q } (start N vs) H) : HasM P w K mg base CX0 (k + 1) C m ps sp := by
  obtain ⟨f, fd, F, m, b⟩ := D
  exact ⟨f, fd, m, b, F.ok S len fun cdv A outer s H vs Q E hr h => hbody f cdv A outer s H vs Q E hr h⟩
theorem IniAt.ok {C : Addr} {q : Str} {st : Stmt} {N ps : List Str} {k : Nat} {sp : Sp} (D : IniAt K C q st ps) (S : FnScope N ps (defScope st)) (len : ∀ vs H Q E, sp vs H Q E → vs.length = ps.length)
    (hbody : ∀ (f : Addr) (cdv : Value) (A : Around) (outer : List Env) (s : Shared) (H : Hp) (vs : List V) (Q : VK) (E : XK), Room k (A.deeper (envOfC q (defScope st) s.heap.objs.size f cdv)) → sp vs H Q E →
      ∃ t, PSs (cxOf CX0 P w K mg base N q (defScope st) f cdv A outer s H E).nox (defBody st) t ∧ t { nx := fun _ H' => Q .non H', rt := Q } (start N vs) H) : HasI P w K mg base CX0 (k + 1) C ps sp := by
  obtain ⟨f, fd, F, m, b⟩ := D
  exact ⟨f, fd, m, b, F.ok S len fun cdv A outer s H vs Q E hr h => hbody f cdv A outer s H vs Q E hr h⟩
end
/-- x is an object of the class at C without an attribute m -/
def MObj (C : Addr) (m : Str) (x : V) (H : Hp) (R : Prop) : Prop := ∃ a dx fs, x = .ref a ∧ H a = some (.ins C dx fs) ∧ fs.lookup m = none ∧ R
def tMC (C : Addr) (m : Str) (sp : Sp) (E : XK) (ta : TE) (t : TA) : TE := fun σ H Q => ta σ H fun x H1 => MObj C m x H1 (t σ H1 fun vs H2 => sp (x :: vs) H2 Q E)
/-- a new object of the class at C -/
def NewO (C : Addr) (R : Addr → Hp → Prop) (H : Hp) : Prop := ∀ x dx, H x = none → H dx = none → dx ≠ x → R x (upd (upd H dx (.own x)) x (.ins C dx []))
def tMkC (C : Addr) (sp : Sp) (E : XK) (t : TA) : TE := fun σ H Q => t σ H fun vs H1 => NewO C (fun x H2 => sp (.ref x :: vs) H2 (fun v H3 => v = .non ∧ Q (.ref x) H3) E) H1
theorem tMC_of {K : PySem.W.Frag} {C : Addr} {m : Str} {sp : Sp} {E : XK} {ta : TE} {t : TA} {σ : L2.St} {H : Hp} {Q : VK} (h : tMC C m sp E ta t σ H Q) : tMeth C m sp [] E ta t σ H Q := by
  have h' : ta σ H fun x H1 => ∃ a dx fs, x = .ref a ∧ H1 a = some (.ins C dx fs) ∧ fs.lookup m = none ∧ t σ H1 fun vs H2 => sp (x :: vs) H2 Q E := h
  show ta σ H fun x H1 => ∃ a dx fs, x = .ref a ∧ H1 a = some (.ins C dx fs) ∧ fs.lookup m = none ∧ t σ H1 fun vs H2 => sp (x :: (vs ++ [])) H2 Q E
  simp only [List.append_nil]
  exact h'
theorem tMkC_of {C : Addr} {sp : Sp} {E : XK} {t : TA} {σ : L2.St} {H : Hp} {Q : VK} (h : tMkC C sp E t σ H Q) : tMake C sp [] E t σ H Q := by
  have h' : t σ H fun vs H1 => ∀ x dx, H1 x = none → H1 dx = none → dx ≠ x → sp (.ref x :: vs) (upd (upd H1 dx (.own x)) x (.ins C dx [])) (fun v H2 => v = .non ∧ Q (.ref x) H2) E := h
  show t σ H fun vs H1 => ∀ x dx, H1 x = none → H1 dx = none → dx ≠ x → sp (.ref x :: (vs ++ [])) (upd (upd H1 dx (.own x)) x (.ins C dx [])) (fun v H2 => v = .non ∧ Q (.ref x) H2) E
  simp only [List.append_nil]
  exact h'
section
variable {X : Cx} {x m : Str} {C : Addr} {p pos apos : Pos} {o e : Expr} {es : List Expr} {ta : TE} {t : TA} {k : Nat} {ps : List Str} {sp : Sp} {pl : Sem Bool}
theorem pmeth (c : Cls X.K C) (G : HasM X.prog X.w X.K X.mg X.base CX0 k C m ps sp) (hr : Room k X.A) (ho : PE X o ta) (ha : PA X (e :: es) t)
    (hst : starEach (e :: es) X.env = (false, eval e X.env) :: starEach es X.env := by rfl) (hpl : (backTo pos (starEach es X.env)).any (·.1) = false := by rfl)
    (ht : eval (.Call (.Attribute o m apos) (e :: es) [] pos) X.env = (do
      let ov ← eval o X.env
      standAt apos.atName
      let (f, first) ← holding [ov] (getMethod ov m pl)
      callWith pos f first (backTo pos (starEach (e :: es) X.env)) (backToKw pos (keywordEach [] X.env))) := by rfl) :
    PE X (.Call (.Attribute o m apos) (e :: es) [] pos) (tMC C m sp E0 ta t) := by
  obtain ⟨f, fd, hm, b, F⟩ := G
  have q := pe_meth (pl := pl) (pos := pos) (apos := apos) ho c hm F hr b (dvs := []) .nil pass0 ha hst hpl ht
  exact ⟨fun pins s σ H Q I h => q.run pins s σ H Q I (tMC_of (K := X.K) h)⟩
theorem pmeth0 (c : Cls X.K C) (G : HasM X.prog X.w X.K X.mg X.base CX0 k C m ps sp) (hr : Room k X.A) (ho : PE X o ta)
    (ht : eval (.Call (.Attribute o m apos) [] [] pos) X.env = (do
      let ov ← eval o X.env
      standAt apos.atName
      let (f, first) ← holding [ov] (getMethod ov m pl)
      callWith pos f first (backTo pos (starEach [] X.env)) (backToKw pos (keywordEach [] X.env))) := by rfl) :
    PE X (.Call (.Attribute o m apos) [] [] pos) (tMC C m sp E0 ta tNil) := by
  obtain ⟨f, fd, hm, b, F⟩ := G
  have q := pe_meth0 (pl := pl) (pos := pos) (apos := apos) ho c hm F hr b (dvs := []) .nil pass0 ht
  exact ⟨fun pins s σ H Q I h => q.run pins s σ H Q I (tMC_of (K := X.K) h)⟩
theorem pmake (hm : X.mg x = some (.ref C)) (G : HasI X.prog X.w X.K X.mg X.base CX0 k C ps sp) (hr : Room (k + 1) X.A) (ha : PA X (e :: es) t) (hg : Gl X x := by rfl)
    (hdb : (x == ("__debug__" : Str)) = false := by decide) (he : starEach (e :: es) X.env = (false, eval e X.env) :: starEach es X.env := by rfl) (hpl : (backTo pos (starEach es X.env)).any (·.1) = false := by rfl) :
    PE X (.Call (.Name x p) (e :: es) [] pos) (tMkC C sp E0 t) := by
  obtain ⟨f, fd, M, b, F⟩ := G
  have q := pe_make (p := p) M F hr hg hm b (dvs := []) .nil pass0 ha hdb he hpl
  exact ⟨fun pins s σ H Q I h => q.run pins s σ H Q I (tMkC_of h)⟩
theorem pmake0 (hm : X.mg x = some (.ref C)) (G : HasI X.prog X.w X.K X.mg X.base CX0 k C ps sp) (hr : Room (k + 1) X.A) (hg : Gl X x := by rfl)
    (hdb : (x == ("__debug__" : Str)) = false := by decide) : PE X (.Call (.Name x p) [] [] pos) (tMkC C sp E0 tNil) := by
  obtain ⟨f, fd, M, b, F⟩ := G
  have q := pe_make0 (p := p) (pos := pos) M F hr hg hm b (dvs := []) .nil pass0 hdb
  exact ⟨fun pins s σ H Q I h => q.run pins s σ H Q I (tMkC_of h)⟩
end
def FldR (K : PySem.W.Frag) (f : Str) (x : V) (H : Hp) (Q : VK) : Prop := ∃ a C dx fs v, x = .ref a ∧ H a = some (.ins C dx fs) ∧ Cls K C ∧ NoAttr K C f ∧ fs.lookup f = some v ∧ Q v H
def FldW (K : PySem.W.Frag) (f : Str) (x y : V) (H : Hp) (R : Hp → Prop) : Prop := ∃ a C dx fs, x = .ref a ∧ H a = some (.ins C dx fs) ∧ Cls K C ∧ NoAttr K C f ∧ fs.length < 1000 ∧ R (upd H a (.ins C dx (putF f y fs)))
def FldA (K : PySem.W.Frag) (f : Str) (x : V) (H : Hp) (R : Addr → Addr → V → Prop) : Prop := ∃ a C dx fs v, x = .ref a ∧ H a = some (.ins C dx fs) ∧ Cls K C ∧ NoAttr K C f ∧ fs.lookup f = some v ∧ R a C v
def FldA2 (f : Str) (a C : Addr) (z : V) (H : Hp) (R : Hp → Prop) : Prop := ∃ dx fs, H a = some (.ins C dx fs) ∧ fs.length < 1000 ∧ R (upd H a (.ins C dx (putF f z fs)))
section
variable {K : PySem.W.Frag} {σ : L2.St} {H : Hp} {Q : VK} {ta tv : TE} {t : TA} {a C dx : Addr} {fs fs' : List (Str × V)} {f m : Str} {v y : V} {D : Ends} {sp : Sp} {E : XK} {R : Hp → Prop}
theorem r_meth (k : ta σ H fun x H1 => MObj C m x H1 (t σ H1 fun vs H2 => sp (x :: vs) H2 Q E)) : tMC C m sp E ta t σ H Q := k
theorem r_mobj {R : Prop} (h : H a = some (.ins C dx fs)) (l : fs.lookup m = none) (k : R) : MObj C m (.ref a) H R := ⟨a, dx, fs, rfl, h, l, k⟩
theorem r_make (k : t σ H fun vs H1 => NewO C (fun x H2 => sp (.ref x :: vs) H2 (fun v H3 => v = .non ∧ Q (.ref x) H3) E) H1) : tMkC C sp E t σ H Q := k
theorem r_newO {R : Addr → Hp → Prop} (k : ∀ x dx H', H x = none → Ex H H' → H' x = some (.ins C dx []) → R x H') : NewO C R H := fun x dx hx hd n => k x dx _ hx ((Ex.new hd).trans (Ex.new (by rw [upd_ne (Ne.symm n)]; exact hx))) upd_same
theorem r_fldE (k : ta σ H fun x H1 => FldR K f x H1 Q) : tFld K ta f σ H Q := k
theorem r_fld (h : H a = some (.ins C dx fs)) (c : Cls K C) (n : NoAttr K C f) (l : fs.lookup f = some v) (k : Q v H) : FldR K f (.ref a) H Q := ⟨a, C, dx, fs, v, rfl, h, c, n, l, k⟩
theorem r_fldS (k : tv σ H fun y H1 => ta σ H1 fun x H2 => FldW K f x y H2 (D.nx σ)) : sFld K ta tv f D σ H := k
theorem r_fldW (h : H a = some (.ins C dx fs)) (c : Cls K C) (n : NoAttr K C f) (l : fs.length < 1000) (e : putF f y fs = fs') (k : ∀ H', Kp a H H' → H' a = some (.ins C dx fs') → R H') : FldW K f (.ref a) y H R :=
  ⟨a, C, dx, fs, rfl, h, c, n, l, k _ Kp.upd (by rw [e]; exact upd_same)⟩
theorem r_fldAug {rd : V → V → Hp → VK → Prop} (k : ta σ H fun x H1 => FldA K f x H1 fun a C v => tv σ H1 fun y H2 => rd v y H2 fun z H3 => FldA2 f a C z H3 (D.nx σ)) : sFldAug K ta tv rd f D σ H := k
theorem r_fldA {R : Addr → Addr → V → Prop} (h : H a = some (.ins C dx fs)) (c : Cls K C) (n : NoAttr K C f) (l : fs.lookup f = some v) (k : R a C v) : FldA K f (.ref a) H R := ⟨a, C, dx, fs, v, rfl, h, c, n, l, k⟩
theorem r_fldA2 (h : H a = some (.ins C dx fs)) (l : fs.length < 1000) (e : putF f y fs = fs') (k : ∀ H', Kp a H H' → H' a = some (.ins C dx fs') → R H') : FldA2 f a C y H R := ⟨dx, fs, h, l, k _ Kp.upd (by rw [e]; exact upd_same)⟩
theorem r_rAdd {i j : Int} (k : Q (.int (i + j)) H) : rAdd (.int i) (.int j) H Q := ⟨i, j, rfl, rfl, k⟩
theorem r_rSub {i j : Int} (k : Q (.int (i - j)) H) : rSub (.int i) (.int j) H Q := ⟨i, j, rfl, rfl, k⟩
end
/-- all but what stands at some addresses is kept -/
def Kq (ds : List Addr) (H H' : Hp) : Prop := ∀ a o, a ∉ ds → H a = some o → H' a = some o
theorem Kq.trans {ds : List Addr} {H H1 H2 : Hp} (a : Kq ds H H1) (b : Kq ds H1 H2) : Kq ds H H2 := fun x o n h => b x o n (a x o n h)
theorem Ex.kq {ds : List Addr} {H H' : Hp} (e : Ex H H') : Kq ds H H' := fun a o _ h => e a o h
theorem Kp.kq {d : Addr} {ds : List Addr} {H H' : Hp} (k : Kp d H H') (h : d ∈ ds) : Kq ds H H' := fun a o n e => k a o (fun z => n (by rw [z]; exact h)) e
theorem Kq.refl {ds : List Addr} {H : Hp} : Kq ds H H := fun _ _ _ h => h
theorem rPop_is {l : Addr} {xs : List V} {y : V} {H : Hp} {Q : VK} (h : H l = some (.lst xs)) (e : xs[xs.length - 1]? = some y) (k : ∀ H', Kp l H H' → H' l = some (.lst xs.dropLast) → Q y H') : rPop (.ref l) [] H Q := ⟨l, xs, y, rfl, rfl, h, e, k _ Kp.upd upd_same⟩
theorem r_bm0 {K : PySem.W.Frag} {σ : L2.St} {H : Hp} {Q : VK} {ta : TE} {T : String} {r : V → List V → Hp → VK → Prop} (k : ta σ H fun x H1 => tyV K T x H1 ∧ r x [] H1 Q) : tBM0 K T r ta σ H Q := k
/-! flat data compared: whole numbers, texts, none -/
inductive Fd where
  | i (x : Int)
  | s (x : Str)
  | n
  deriving DecidableEq
def Fd.v : Fd → V
  | .i x => .int x
  | .s x => .str x
  | .n => .non
def Fd.d : Fd → PyData
  | .i x => .int x
  | .s x => .str x
  | .n => .none
theorem eqv_fd : ∀ x y : Fd, PyData.eqv x.d y.d = decide (x = y)
  | .i x, .i y => by
    show (x == y) = _
    by_cases h : x = y
    · subst h
      rw [beq_self_eq_true, decide_eq_true rfl]
    · rw [beq_eq_false_iff_ne.mpr h, decide_eq_false (fun z => h (Fd.i.inj z))]
  | .s x, .s y => by
    show (x == y) = _
    by_cases h : x = y
    · subst h
      rw [beq_self_eq_true, decide_eq_true rfl]
    · rw [beq_eq_false_iff_ne.mpr h, decide_eq_false (fun z => h (Fd.s.inj z))]
  | .n, .n => rfl
  | .i _, .s _ => rfl
  | .i _, .n => rfl
  | .s _, .i _ => rfl
  | .s _, .n => rfl
  | .n, .i _ => rfl
  | .n, .s _ => rfl
theorem eqv_fds : ∀ xs ys : List Fd, PyData.eqvAll (xs.map Fd.d) (ys.map Fd.d) = decide (xs = ys)
  | [], [] => by rw [decide_eq_true rfl]; rfl
  | [], y :: ys => by rw [decide_eq_false (by intro h; cases h)]; rfl
  | x :: xs, [] => by rw [decide_eq_false (by intro h; cases h)]; rfl
  | x :: xs, y :: ys => by
    show (PyData.eqv x.d y.d && PyData.eqvAll (xs.map Fd.d) (ys.map Fd.d)) = _
    rw [eqv_fds xs ys, eqv_fd x y]
    by_cases h : x = y
    · subst h
      by_cases h2 : xs = ys
      · subst h2
        rw [decide_eq_true rfl, decide_eq_true rfl, decide_eq_true rfl]
        rfl
      · rw [decide_eq_false h2, decide_eq_false (fun z => h2 (List.cons.inj z).2), Bool.and_false]
    · rw [decide_eq_false h, decide_eq_false (fun z => h (List.cons.inj z).1), Bool.false_and]
def Fd.ok : Fd → Bool
  | .s x => PyData.canLay0 (.str x)
  | _ => true
theorem lay_fds : ∀ xs : List Fd, xs.all Fd.ok = true → PyData.canLayAll0 (xs.map Fd.d) = true
  | [], _ => rfl
  | x :: xs, h => by
    rw [List.all_cons, Bool.and_eq_true] at h
    show (PyData.canLay0 x.d && PyData.canLayAll0 (xs.map Fd.d)) = true
    rw [lay_fds xs h.2, Bool.and_true]
    have h1 := h.1
    cases x with
    | i _ => rfl
    | s _ => exact h1
    | n => rfl
theorem dep_fds : ∀ xs : List Fd, PyData.depthAll (xs.map Fd.d) ≤ 1
  | [] => Nat.zero_le _
  | x :: xs => by
    show max (PyData.depth x.d) (PyData.depthAll (xs.map Fd.d)) ≤ 1
    have h1 : PyData.depth x.d ≤ 1 := by
      cases x <;> (unfold Fd.d PyData.depth; omega)
    have := dep_fds xs
    omega
theorem shp_fdT (xs : List Fd) (ok : xs.all Fd.ok = true) : SeqAt.shaped (.tuple (xs.map Fd.d)) = true := by
  unfold SeqAt.shaped
  rw [Bool.and_eq_true]
  refine ⟨?_, decide_eq_true ?_⟩
  · unfold PyData.canLay0
    exact lay_fds xs ok
  · unfold PyData.depth
    have := dep_fds xs
    omega
theorem dp_fds {K : PySem.W.Frag} {H : Hp} : ∀ xs : List Fd, DpAll K H (xs.map Fd.v) (xs.map Fd.d)
  | [] => .nil
  | .i x :: xs => .cons (.int x) (dp_fds xs)
  | .s x :: xs => .cons (.str x) (dp_fds xs)
  | .n :: xs => .cons .non (dp_fds xs)
theorem eqv_fdT (xs ys : List Fd) : PyData.eqv (.tuple (xs.map Fd.d)) (.tuple (ys.map Fd.d)) = decide (xs = ys) := by
  unfold PyData.eqv
  exact eqv_fds xs ys
theorem r_neF {K : PySem.W.Frag} {H : Hp} {Q : VK} {p q : Addr} {xs ys : List Fd} (h : SqT K H p (xs.map Fd.v)) (h' : SqT K H q (ys.map Fd.v)) (ok : xs.all Fd.ok = true) (ok' : ys.all Fd.ok = true) (k : Q (.bl (!decide (xs = ys))) H) : rNeD K (.ref p) (.ref q) H Q :=
  r_neD (.tup h (dp_fds xs)) (.tup h' (dp_fds ys)) (shp_fdT _ ok) (shp_fdT _ ok') (by rw [eqv_fdT]; exact k)
theorem r_eqF {K : PySem.W.Frag} {H : Hp} {Q : VK} {p q : Addr} {xs ys : List Fd} (h : SqT K H p (xs.map Fd.v)) (h' : SqT K H q (ys.map Fd.v)) (ok : xs.all Fd.ok = true) (ok' : ys.all Fd.ok = true) (k : Q (.bl (decide (xs = ys))) H) : rEqD K (.ref p) (.ref q) H Q :=
  r_eqD (.tup h (dp_fds xs)) (.tup h' (dp_fds ys)) (shp_fdT _ ok) (shp_fdT _ ok') (by rw [eqv_fdT]; exact k)
theorem at_lastI (fo : List Int) (k : Int) : atI ((fo ++ [k]).map V.int) (-1) = some (.int k) := by
  have hl : ((fo ++ [k]).map V.int).length = fo.length + 1 := by simp
  unfold atI ixN
  rw [if_neg (by decide), if_pos (by omega), hl]
  show ((fo ++ [k]).map V.int)[((-1 : Int) + ((fo.length + 1 : Nat) : Int)).toNat]? = some (.int k)
  rw [show ((-1 : Int) + ((fo.length + 1 : Nat) : Int)).toNat = fo.length by omega]
  simp
theorem ok_iS {x : Int} {z : Str} (h : PyData.canLay0 (.str z) = true := by decide +kernel) : [Fd.i x, Fd.s z].all Fd.ok = true := by
  show (true && (PyData.canLay0 (.str z) && true)) = true
  rw [h]
  rfl
theorem ok_nS {z : Str} (h : PyData.canLay0 (.str z) = true := by decide +kernel) : [Fd.n, Fd.s z].all Fd.ok = true := by
  show (true && (PyData.canLay0 (.str z) && true)) = true
  rw [h]
  rfl
theorem ok_SS {y z : Str} (h : PyData.canLay0 (.str y) = true := by decide +kernel) (h' : PyData.canLay0 (.str z) = true := by decide +kernel) : [Fd.s y, Fd.s z].all Fd.ok = true := by
  show (PyData.canLay0 (.str y) && (PyData.canLay0 (.str z) && true)) = true
  rw [h, h']
  rfl
theorem rPop_I {l : Addr} {fo : List Int} {k : Int} {H : Hp} {Q : VK} (h : H l = some (.lst ((fo ++ [k]).map V.int))) (q : ∀ H', Kp l H H' → H' l = some (.lst (fo.map V.int)) → Q (.int k) H') : rPop (.ref l) [] H Q :=
  rPop_is h (by simp) fun H' kp h' => q H' kp (by rw [h']; simp)
theorem at_last2 (fo : List Int) (k k' : Int) : atI ((fo ++ [k] ++ [k']).map V.int) (-2) = some (.int k) := by
  have hl : ((fo ++ [k] ++ [k']).map V.int).length = fo.length + 2 := by simp
  unfold atI ixN
  rw [if_neg (by decide), if_pos (by omega), hl]
  show ((fo ++ [k] ++ [k']).map V.int)[((-2 : Int) + ((fo.length + 2 : Nat) : Int)).toNat]? = some (.int k)
  rw [show ((-2 : Int) + ((fo.length + 2 : Nat) : Int)).toNat = fo.length by omega]
  simp
theorem at_0 {v : V} {vs : List V} : atI (v :: vs) 0 = some v := at_of (j := 0) rfl rfl
/-- o.f as a target -/
def gFld (K : PySem.W.Frag) (to : TE) (f : Str) : TG := fun v σ H Q => to σ H fun x H1 => FldW K f x v H1 (Q σ)
theorem pg_fld {X : Cx} {o : Expr} {f : Str} {pos : Pos} {to : TE} (ho : PE X o to) : PG X (.Attribute o f pos) (gFld X.K to f) := by
  refine ⟨fun pins s σ H v u Q I r h => ?_⟩
  rw [PySem.assign_Attribute]
  refine wpAny_bind (wpAny_holding (thn (ho.run pins s σ H _ I h) fun ov s1 ⟨x, H1, I1, r1, q1⟩ => ?_))
  obtain ⟨a, C, dx, fs, ex, ea, c, n, l, q⟩ := q1
  subst ex
  obtain rfl : ov = Value.ref a := r1
  refine wpAny_bind (wpAny_standAt (wpAny_bind (wpAny_holding (setattr_ok I1 ea c n l r fun s2 I2 => ?_))))
  exact wpAny_release ⟨σ, _, I2, q⟩
theorem r_gFld {K : PySem.W.Frag} {σ : L2.St} {H : Hp} {to : TE} {f : Str} {v : V} {Q : L2.St → Hp → Prop} (k : to σ H fun x H1 => FldW K f x v H1 (Q σ)) : gFld K to f v σ H Q := k
end Sd

namespace Sd
open PySem PySem.Spec PyProof.Rows L2
def topS (i : Nat) : Stmt := PySem.Challenge.pw_stairsum_k57_lists_of_ones_own.main.body.getD i (.Pass ⟨0, 0, 0, 0⟩)
local macro_rules | `(tactic| walk_at "pos") => `(tactic| first | assumption | decide | omega | fail "no step")
local macro_rules | `(tactic| walk_at "sz") => `(tactic| first
  | assumption
  | (with_reducible refine Sz.lit ?_; decide)
  | with_reducible exact Sz.b2
  | (with_reducible refine Sz.mul (n := ?n) (m := ?m) ?a ?b; (case a => walk_at "sz"); (case b => walk_at "sz"))
  | (with_reducible refine Sz.add (n := ?n) (m := ?m) ?a ?b; (case a => walk_at "sz"); (case b => walk_at "sz"))
  | (with_reducible refine Sz.sub (n := ?n) (m := ?m) ?a ?b; (case a => walk_at "sz"); (case b => walk_at "sz"))
  | (with_reducible refine Sz.neg (n := ?n) ?a; (case a => walk_at "sz"))
  | (with_reducible refine Sz.abs (n := ?n) ?a; (case a => walk_at "sz"))
  | (with_reducible refine Sz.div (n := ?n) ?a ?b; (case a => walk_at "sz"); (case b => walk_at "pos"))
  | (with_reducible refine Sz.mod (n := ?n) ?a ?b; (case a => walk_at "sz"); (case b => walk_at "pos"))
  | fail "no step")
local macro_rules | `(tactic| walk_at "mulW") => `(tactic| first
  | exact mulR ⟨by decide, by decide⟩
  | exact mulL ⟨by decide, by decide⟩
  | (refine mulX (n := ?n) (m := ?m) ?a ?b ?h; (case a => walk_at "sz"); (case b => walk_at "sz"); (case h => decide))
  | fail "no step")
local macro_rules | `(tactic| walk_at "divW") => `(tactic| (refine divW (n := ?n) ?p ?a ?h; (case p => walk_at "pos"); (case a => walk_at "sz"); (case h => decide)))
/- H a = some _ at the heap at hand -/
local macro_rules | `(tactic| walk_at "at") => `(tactic| first
  | assumption
  | (with_reducible refine Kp.tup (H := ?H) (d := ?d) ?k ?D ?_; (case k => assumption); (case D => assumption); walk_at "at")
  | (with_reducible refine Ex.at (H := ?H) ?k ?_; (case k => assumption); walk_at "at")
  | fail "no step")
local macro_rules | `(tactic| walk_at "sqt") => `(tactic| first
  | assumption
  | exact SqT.of (by walk_at "at")
  | (with_reducible refine sqt_kp (H := ?H) (d := ?d) ?k ?D ?_; (case k => assumption); (case D => assumption); walk_at "sqt")
  | (with_reducible refine sqt_up (H := ?H) ?k ?_; (case k => assumption); walk_at "sqt")
  | fail "no step")
local macro_rules | `(tactic| walk_at "sql") => `(tactic| first
  | assumption
  | exact SqL.of (by walk_at "at")
  | (with_reducible refine sql_up (H := ?H) ?k ?_; (case k => assumption); walk_at "sql")
  | fail "no step")
local macro_rules | `(tactic| walk_at "dec_f") => `(tactic| first
  | with_reducible rfl | with_reducible assumption
  | (with_reducible refine not_f ?_; walk_at "dec_t")
  | (with_reducible refine decide_eq_false ?_; first | with_reducible assumption | omega | (simp only [List.length_cons, List.length_nil]; omega))
  | fail "no step")
local macro_rules | `(tactic| walk_at "dec_t") => `(tactic| first
  | with_reducible rfl | with_reducible assumption
  | (with_reducible refine not_t ?_; walk_at "dec_f")
  | (with_reducible refine decide_eq_true ?_; first | with_reducible assumption | with_reducible rfl | omega | (simp only [List.length_cons, List.length_nil]; omega))
  | fail "no step")
local macro_rules | `(tactic| walk_at "sets") => `(tactic| first
  | with_reducible exact set_z
  | ((with_reducible refine set_s (l' := ?l) ?a); (case a => walk_at "sets"))
  | ((with_reducible refine set_in (e' := ?e) ?a ?b); (case a => walk_at "sets"); (case b => walk_at "sets"))
  | fail "no step")
local macro_rules | `(tactic| walk_at "lk") => `(tactic| fail "no step")
local macro_rules | `(tactic| walk_at "go1") => `(tactic| first
  | ((with_reducible refine r_nxS (l' := ?l) ?h ?_); (case h => walk_at "sets"))
  | with_reducible refine r_seq ?_
  | with_reducible refine r_asg ?_
  | ((with_reducible refine r_var (v := ?v) ?h ?_); (case h => exact rfl))
  | with_reducible refine r_c ?_
  | with_reducible refine r_nx ?_
  | with_reducible refine r_rt ?_
  | with_reducible refine r_op ?_
  | with_reducible refine r_cons ?_
  | with_reducible refine r_nil ?_
  | with_reducible refine r_cal ?_
  | with_reducible refine r_I0 ?_
  | ((with_reducible refine r_mul ?c ?_); (case c => walk_at "mulW"))
  | ((with_reducible refine r_div ?c ?_); (case c => walk_at "divW"))
  | ((with_reducible refine r_mod ?c ?_); (case c => walk_at "pos"))
  | with_reducible refine r_p6 ?_
  | with_reducible refine r_p18 ?_
  | with_reducible refine r_p29 ?_
  | with_reducible refine r_p30 ?_
  | with_reducible refine r_p60 ?_
  | with_reducible refine r_p15 ?_
  | with_reducible refine r_p24 ?_
  | ((with_reducible refine r_pow ?c ?_); (case c => exact ⟨by decide, by decide, by decide⟩))
  | with_reducible refine r_ifS ?_
  | with_reducible refine r_test ?_
  | with_reducible refine r_tB ?_
  | with_reducible refine r_bl ?_
  | with_reducible refine r_eqI ?_
  | with_reducible refine r_neI ?_
  | with_reducible refine r_not ?_
  | with_reducible refine r_and ?_
  | with_reducible refine r_or ?_
  | with_reducible refine r_notV ?_
  | with_reducible refine r_andV ?_
  | with_reducible refine r_orV ?_
  | with_reducible refine r_blV ?_
  | with_reducible refine r_chain ?_
  | with_reducible refine r_ret ?_
  | with_reducible refine r_retN ?_
  | with_reducible refine r_drop ?_
  | with_reducible refine r_next ?_
  | with_reducible refine r_un ?_
  | with_reducible refine r_U ?_
  | with_reducible refine r_tup ?_
  | with_reducible refine r_lst ?_
  | ((with_reducible refine r_newT ?l ?_); (case l => exact Nat.le_of_ble_eq_true rfl); intro _ _ _ _ _)
  | ((with_reducible refine r_newL ?l ?_); (case l => exact Nat.le_of_ble_eq_true rfl); intro _ _ _ _ _)
  | ((with_reducible refine r_ixT (xs := ?x) (v := ?v) ?h ?a ?_); (case h => walk_at "sqt"); (case a => exact rfl))
  | ((with_reducible refine r_ixL (xs := ?x) (v := ?v) ?h ?a ?_); (case h => walk_at "sql"); (case a => exact rfl))
  | with_reducible refine r_asgG ?_
  | ((with_reducible refine r_gTup (xs := ?x) ?h ?l ?_); (case h => walk_at "sqt"); (case l => exact rfl))
  | with_reducible refine r_gCons ?_
  | with_reducible refine r_gNil ?_
  | with_reducible refine r_gName ?_
  | with_reducible refine r_gSub ?_
  | with_reducible refine r_par ?_
  | with_reducible refine r_parE ?_
  | with_reducible refine r_par3 ?_
  | with_reducible refine r_parE3 ?_
  | ((with_reducible refine r_aug (i := ?i) ?h ?_); (case h => exact rfl))
  | with_reducible refine r_ipI ?_
  | with_reducible refine r_if ?_
  | with_reducible refine r_chain3 ?_
  | ((with_reducible refine r_gLst (xs := ?x) ?h ?l ?_); (case h => walk_at "sql"); (case l => exact rfl))
  | with_reducible refine r_CB ?_
  | with_reducible refine r_isII ?_
  | with_reducible refine r_isIB ?_
  | ((with_reducible refine r_isTT (xs := ?x) ?h ?_); (case h => walk_at "at"))
  | with_reducible refine r_tyS ?_
  | with_reducible refine r_isSS ?_
  | with_reducible refine r_iZip ?_
  | with_reducible refine r_iZipA ?_
  | ((with_reducible refine r_isLL (xs := ?x) ?h ?_); (case h => walk_at "at"))
  | ((with_reducible refine r_lenL (ys := ?x) ?h ?_); (case h => walk_at "sql"))
  | ((with_reducible refine r_lenT (ys := ?x) ?h ?_); (case h => walk_at "sqt"))
  | with_reducible refine r_abs ?_
  | with_reducible refine r_max2 ?_
  | with_reducible refine r_min2 ?_
  | with_reducible refine r_min3 ?_
  | with_reducible refine r_intI ?_
  | with_reducible refine r_intB ?_
  | with_reducible refine r_isBB ?_
  | with_reducible refine r_for ?_
  | ((with_reducible refine r_eqT3 (a := ?a) (b := ?b) (c := ?c) (a' := ?a') (b' := ?b') (c' := ?c') ?h ?h' ?_); (case h => walk_at "sqt"); (case h' => walk_at "sqt"))
  | ((with_reducible refine r_neT3 (a := ?a) (b := ?b) (c := ?c) (a' := ?a') (b' := ?b') (c' := ?c') ?h ?h' ?_); (case h => walk_at "sqt"); (case h' => walk_at "sqt"))
  | with_reducible refine r_notB ?_
  | with_reducible refine r_isB ?_
  | with_reducible refine r_bm ?_
  | ((with_reducible refine r_tyL (xs := ?x) ?h ?_); (case h => walk_at "sql"))
  | with_reducible refine r_sl ?_
  | with_reducible refine r_noP ?_
  | with_reducible refine r_part ?_
  | with_reducible refine r_partI ?_
  | ((with_reducible refine r_sl4 (a := ?a) (b := ?b) (c := ?c) (d := ?d) (e := ?e) ?h ?_); (case h => walk_at "sqt"); intro _ _ _ _ _)
  | ((with_reducible refine r_cat13 (x := ?x) (a := ?a) (b := ?b) (c := ?c) ?h ?h2 ?_); (case h => walk_at "sqt"); (case h2 => walk_at "sqt"); intro _ _ _ _ _)
  | ((with_reducible refine r_cat41 (x := ?x) (a := ?a) (b := ?b) (c := ?c) (y := ?y) ?h ?h2 ?_); (case h => walk_at "sqt"); (case h2 => walk_at "sqt"); intro _ _ _ _ _)
  | ((with_reducible refine r_neT4 (a := ?a) (b := ?b) (c := ?c) (d := ?d) (a' := ?a') (b' := ?b') (c' := ?c') (d' := ?d') ?h ?h' ?_); (case h => walk_at "sqt"); (case h' => walk_at "sqt"))
  | ((with_reducible refine r_listL (ys := ?y) ?h ?_); (case h => walk_at "sql"); intro _ _ _ _ _)
  | with_reducible refine r_rev ?_
  | with_reducible refine r_isNnI ?_
  | with_reducible refine r_isNnR ?_
  | with_reducible refine r_isNnN ?_
  | with_reducible refine r_notNnI ?_
  | with_reducible refine r_notNnR ?_
  | with_reducible refine r_notNnN ?_
  | with_reducible refine r_iRng1 ?_
  | with_reducible refine r_iRng2 ?_
  | with_reducible refine r_iList ?_
  | with_reducible refine r_iTup ?_
  | with_reducible refine r_lc ?_
  | ((with_reducible refine r_ItL (xs := ?x) ?h ?_); (case h => walk_at "sql"))
  | ((with_reducible refine r_ItT (xs := ?x) ?h ?_); (case h => walk_at "sqt"))
  | with_reducible refine r_fldE ?_
  | ((with_reducible refine r_fld (C := ?C) (dx := ?dx) (fs := ?fs) (v := ?v) ?h ?c ?n ?l ?_); (case h => walk_at "at"); (case c => assumption); (case n => assumption); (case l => walk_at "lk"))
  | with_reducible refine r_fldS ?_
  | with_reducible refine r_gFld ?_
  | with_reducible refine r_fldAug ?_
  | ((with_reducible refine r_fldA (C := ?C) (dx := ?dx) (fs := ?fs) (v := ?v) ?h ?c ?n ?l ?_); (case h => walk_at "at"); (case c => assumption); (case n => assumption); (case l => walk_at "lk"))
  | with_reducible refine r_rAdd ?_
  | with_reducible refine r_rSub ?_
  | with_reducible refine r_meth ?_
  | ((with_reducible refine r_mobj (dx := ?dx) (fs := ?fs) ?h ?l ?_); (case h => walk_at "at"); (case l => walk_at "lk"))
  | with_reducible refine r_make ?_
  | with_reducible refine r_bm0 ?_
  | ((with_reducible refine if_T ?h ?_); (case h => walk_at "dec_t"))
  | ((with_reducible refine if_F ?h ?_); (case h => walk_at "dec_f"))
  | fail "no step")
local macro_rules | `(tactic| walk_at "go") => `(tactic| repeat walk_at "go1")
local macro_rules | `(tactic| walk_at "szm") => `(tactic| (refine Sz.mono (n := ?n) ?a ?h; (case a => walk_at "sz"); (case h => decide)))
def sp_law_draws (K : PySem.W.Frag) : Sp := fun vs H Q _ => ∃ (a : Addr) (ns : List Int) (k : Int), vs = [.ref a, .int k] ∧ SqL K H a (ns.map V.int) ∧ 0 ≤ k ∧ k ≤ 1000 ∧ ∀ d H', H d = none → Ex H H' → Dr H' d → Q (.ref d) H'
theorem use_law_draws {K : PySem.W.Frag} {H : Hp} {Q : VK} {E : XK} {a : Addr} {ns : List Int} {k : Int} (h : SqL K H a (ns.map V.int)) (h0 : 0 ≤ k) (h1 : k ≤ 1000) (q : ∀ d H', H d = none → Ex H H' → Dr H' d → Q (.ref d) H') : sp_law_draws K [.ref a, .int k] H Q E := ⟨a, ns, k, rfl, h, h0, h1, q⟩
abbrev s_law_draws : Stmt := topS 59
abbrev nm_law_draws : List Str := ["script", "k", "cell"]
theorem sc_law_draws : FnScope nm_law_draws ["script", "k"] (defScope s_law_draws) := ⟨rfl, rfl, rfl, by decide +kernel, rfl, by decide +kernel, by decide +kernel⟩
theorem st_law_draws {v0 v1 : V} : start nm_law_draws [v0, v1] = [some v0, some v1, none] := rfl
section
variable {P : Program} {w : World} {K : PySem.W.Frag} {mg : Str → Option Value} {base : Heap}
theorem ok_law_draws (D : DefAt K mg "_law_draws" s_law_draws ["script", "k"]) (B_len : mg "len" = none) (B_int : mg "int" = none) : Has P w K mg base CX0 2 "_law_draws" ["script", "k"] (sp_law_draws K) := by
  refine D.ok sc_law_draws (by rintro _ _ _ _ ⟨_, _, _, rfl, _⟩; rfl) (fun f cdv A outer s H vs Q E hr h => ?_)
  obtain ⟨a, ns, k, rfl, hS, h0, h1, q⟩ := h
  have zk : Sz 200 k := Sz.small (by omega)
  refine ⟨_, (pss_cons (ps_set (i := 2) sc_law_draws.nd rfl (Or.inl rfl) (pe_op op_mulX pe_int (pv 1)))
      (pcut (ps_if (pt_cmpR op_lt (pv 1) (pe_callB cl_len (by rfl) B_len (by decide +kernel) (pa_cons (pv 0) pa_nil)) (nomark _)) (pss_one (ps_set (i := 2) sc_law_draws.nd rfl (Or.inl rfl) (pe_op op_mod (pe_ix ix_list (pv 0) (pv 1) (fun _ _ => rfl)) (pe_op op_mulX (pe_op op_pow pe_int pe_int) (pe_op op_pow pe_int pe_int))))) (pss_one (ps_if (pt_cmpR op_gt (pe_callB cl_len (by rfl) B_len (by decide +kernel) (pa_cons (pv 0) pa_nil)) pe_int (nomark _)) (pss_one (ps_set (i := 2) sc_law_draws.nd rfl (Or.inl rfl) (pe_op op_add (pe_op op_mod (pe_ix ix_list (pv 0) (pe_op op_mod (pv 1) (pe_callB cl_len (by rfl) B_len (by decide +kernel) (pa_cons (pv 0) pa_nil))) (fun _ _ => rfl)) (pe_op op_pow pe_int pe_int)) (pe_op op_mulX pe_int (pv 1))))) pss_nil)))
      (pss_one (ps_ret (pe_lst (pa_cons (pe_op op_mulX (pv 2) (pe_callTy cl_int1 (by rfl) B_int (by decide +kernel) (pa_cons (pe_cmpR op_ge (pv 2) (pe_op op_pow pe_int pe_int) (nomark _)) pa_nil))) (pa_cons (pe_op op_add pe_int (pe_op op_mod (pe_op op_add (pe_op op_mulX (pv 2) pe_int) (pe_op op_mulX pe_int (pe_op op_add (pv 1) pe_int))) pe_int)) pa_nil))))))), ?_⟩
  rw [st_law_draws]
  try dsimp only [Cx.nox, Cx.wish, Cx.blk, cx_K]
  walk_at "go"
  refine r_cut (fun σ H' => H' = H ∧ ∃ c : Int, σ = [some (.ref a), some (.int k), some (.int c)] ∧ Sz 500 c) ?_ ?_
  · walk_at "go"
    refine if_2 (fun hx => ?_) (fun hx => ?_)
    · have hx := of_decide_eq_true hx
      rw [List.length_map] at hx
      obtain ⟨z, hz, _⟩ := at_ints h0 hx
      walk_at "go"
      refine r_ixL hS hz ?_
      walk_at "go"
      exact ⟨rfl, _, rfl, by walk_at "szm"⟩
    · have hx := of_decide_eq_false hx
      rw [List.length_map] at hx
      walk_at "go"
      refine if_2 (fun hy => ?_) (fun hy => ?_)
      · have hy := of_decide_eq_true hy
        obtain ⟨z, hz, _⟩ := at_ints (ns := ns) (i := k % ((ns.map V.int).length : Nat)) (Int.emod_nonneg _ (by omega)) (by
          have := Int.emod_lt_of_pos k hy
          rw [List.length_map] at this ⊢
          exact this)
        walk_at "go"
        refine r_ixL hS hz ?_
        walk_at "go"
        refine ⟨rfl, _, rfl, (Sz.small ?_).mono (by decide)⟩
        omega
      · walk_at "go"
        refine ⟨rfl, _, rfl, (Sz.small ?_).mono (by decide)⟩
        omega
  rintro σ H' ⟨rfl, c, rfl, zc⟩
  walk_at "go"
  rename_i d H1 nd e1 hd
  exact q _ _ nd e1 ⟨_, _, hd, by omega, by omega⟩

end
/-- a digit below n is drawn -/
def sp_law_draw (_ : PySem.W.Frag) : Sp := fun vs H Q _ => ∃ (d : Addr) (n : Int), vs = [.ref d, .int n] ∧ Dr H d ∧ 0 < n ∧ Sz 4000 n ∧ ∀ v H', 0 ≤ v → v < n → Kp d H H' → Dr H' d → Q (.int v) H'
theorem use_law_draw {K : PySem.W.Frag} {H : Hp} {Q : VK} {E : XK} {d : Addr} {n : Int} (D : Dr H d) (p : 0 < n) (z : Sz 4000 n) (k : ∀ v H', 0 ≤ v → v < n → Kp d H H' → Dr H' d → Q (.int v) H') : sp_law_draw K [.ref d, .int n] H Q E := ⟨d, n, rfl, D, p, z, k⟩
abbrev s_law_draw : Stmt := topS 60
abbrev nm_law_draw : List Str := ["draws", "many", "found"]
theorem sc_law_draw : FnScope nm_law_draw ["draws", "many"] (defScope s_law_draw) := ⟨rfl, rfl, rfl, by decide +kernel, rfl, by decide +kernel, by decide +kernel⟩
theorem st_law_draw {v0 v1 : V} : start nm_law_draw [v0, v1] = [some v0, some v1, none] := rfl
section
variable {P : Program} {w : World} {K : PySem.W.Frag} {mg : Str → Option Value} {base : Heap}
theorem ok_law_draw (D : DefAt K mg "_law_draw" s_law_draw ["draws", "many"]) : Has P w K mg base CX0 2 "_law_draw" ["draws", "many"] (sp_law_draw K) := by
  refine D.ok sc_law_draw (by rintro _ _ _ _ ⟨_, _, rfl, _⟩; rfl) (fun f cdv A outer s H vs Q E hr h => ?_)
  obtain ⟨d, n, rfl, ⟨x, y, hd, y0, y1⟩, hn, zn, k⟩ := h
  have zy : Sz 200 y := by
    show y.natAbs < 2 ^ 200
    omega
  refine ⟨_, (pss_cons (ps_if (pt_cmpR op_gt (pe_ix ix_list (pv 0) pe_int (fun _ _ => rfl)) pe_int (nomark _)) (pss_cons (ps_set (i := 2) sc_law_draw.nd rfl (Or.inl rfl) (pe_op op_mod (pe_ix ix_list (pv 0) pe_int (fun _ _ => rfl)) (pv 1)))
        (pss_cons (ps_asg (pe_op op_fdivW (pe_ix ix_list (pv 0) pe_int (fun _ _ => rfl)) (pv 1)) (pg_sub (pv 0) pe_int set_list))
        (pss_one (ps_ret (pv 2))))) pss_nil)
      (pss_cons (ps_asg (pe_op op_mod (pe_op op_mulX (pe_ix ix_list (pv 0) pe_int (fun _ _ => rfl)) pe_int) pe_int) (pg_sub (pv 0) pe_int set_list))
      (pss_one (ps_ret (pe_op op_mod (pe_op op_fdivW (pe_op op_mod (pe_op op_mulX (pe_ix ix_list (pv 0) pe_int (fun _ _ => rfl)) (pe_op op_add (pe_op op_fdivW (pe_ix ix_list (pv 0) pe_int (fun _ _ => rfl)) pe_int) pe_int)) pe_int) pe_int) (pv 1)))))), ?_⟩
  rw [st_law_draw]
  try dsimp only [Cx.nox, Cx.wish, Cx.blk, cx_K]
  walk_at "go"
  refine if_2 (fun hx => ?_) (fun hx => ?_)
  · walk_at "go"
    refine r_setL (k0 := 0) hd (by rfl) ?_
    walk_at "go"
    exact k _ _ (Int.emod_nonneg _ (by omega)) (Int.emod_lt_of_pos _ hn) Kp.upd ⟨_, _, upd_same, y0, y1⟩
  · walk_at "go"
    refine r_setL (k0 := 1) hd (by rfl) ?_
    have hd2 : (upd H d (.lst [.int x, .int (y * 69621 % 2147483647)])) d = some (.lst [.int x, .int (y * 69621 % 2147483647)]) := upd_same
    walk_at "go"
    exact k _ _ (Int.emod_nonneg _ (by omega)) (Int.emod_lt_of_pos _ hn) Kp.upd ⟨_, _, upd_same, Int.emod_nonneg _ (by decide), Int.emod_lt_of_pos _ (by decide)⟩

end
def sp_law_figures (_ : PySem.W.Frag) : Sp := fun vs H Q _ => ∃ (d : Addr) (n : Int), vs = [.ref d, .int n] ∧ Dr H d ∧ 0 < n ∧ n ≤ 20 ∧ ∀ v H', Sz 600 v → v.natAbs < 1000000 ^ n.toNat → Kp d H H' → Dr H' d → Q (.int v) H'
theorem use_law_figuresB {K : PySem.W.Frag} {H : Hp} {Q : VK} {E : XK} {d : Addr} {n : Int} (D : Dr H d) (p : 0 < n) (z : n ≤ 20) (k : ∀ v H', Sz 600 v → v.natAbs < 1000000 ^ n.toNat → Kp d H H' → Dr H' d → Q (.int v) H') : sp_law_figures K [.ref d, .int n] H Q E := ⟨d, n, rfl, D, p, z, k⟩
theorem use_law_figures {K : PySem.W.Frag} {H : Hp} {Q : VK} {E : XK} {d : Addr} {n : Int} (D : Dr H d) (p : 0 < n) (z : n ≤ 20) (k : ∀ v H', Sz 600 v → Kp d H H' → Dr H' d → Q (.int v) H') : sp_law_figures K [.ref d, .int n] H Q E := ⟨d, n, rfl, D, p, z, fun v H' z _ => k v H' z⟩
abbrev s_law_figures : Stmt := topS 61
abbrev nm_law_figures : List Str := ["draws", "most", "number", "k"]
theorem sc_law_figures : FnScope nm_law_figures ["draws", "most"] (defScope s_law_figures) := ⟨rfl, rfl, rfl, by decide +kernel, rfl, by decide +kernel, by decide +kernel⟩
theorem st_law_figures {v0 v1 : V} : start nm_law_figures [v0, v1] = [some v0, some v1, none, none] := rfl
section
variable {P : Program} {w : World} {K : PySem.W.Frag} {mg : Str → Option Value} {base : Heap}
theorem ok_law_figures (D : DefAt K mg "_law_figures" s_law_figures ["draws", "most"]) (B_range : mg "range" = none) (G__law_draw : Has P w K mg base CX0 2 "_law_draw" ["draws", "many"] (sp_law_draw K)) : Has P w K mg base CX0 3 "_law_figures" ["draws", "most"] (sp_law_figures K) := by
  refine D.ok sc_law_figures (by rintro _ _ _ _ ⟨_, _, rfl, _⟩; rfl) (fun f cdv A outer s H vs Q E hr h => ?_)
  obtain ⟨d, n, rfl, D, hn, h20, k⟩ := h
  refine ⟨_, (pss_cons (ps_set (i := 2) sc_law_figures.nd rfl (Or.inl rfl) (pcall G__law_draw (hr.mono (by decide)) (pa_cons (pv 0) (pa_cons (pe_op op_pow pe_int pe_int) pa_nil))))
      (pss_cons (ps_for PassesOwn.never rfl (pi_range1 rfl B_range (pa_cons (pcall G__law_draw (hr.mono (by decide)) (pa_cons (pv 0) (pa_cons (pv 1) pa_nil))) pa_nil)) (pg_name (i := 3) sc_law_figures.nd rfl (Or.inl rfl))
        (pss_one (ps_set (i := 2) sc_law_figures.nd rfl (Or.inl rfl) (pe_op op_add (pe_op op_mulX (pv 2) (pe_op op_pow pe_int pe_int)) (pcall G__law_draw (hr.mono (by decide)) (pa_cons (pv 0) (pa_cons (pe_op op_pow pe_int pe_int) pa_nil)))))))
      (pss_one (ps_ret (pe_ix ix_list (pe_lst (pa_cons (pv 2) (pa_cons (pe_op op_sub pe_int (pv 2)) (pa_cons (pe_op op_sub (pe_op op_mod (pv 2) pe_int) pe_int) pa_nil)))) (pcall G__law_draw (hr.mono (by decide)) (pa_cons (pv 0) (pa_cons pe_int pa_nil))) (fun _ _ => rfl)))))), ?_⟩
  rw [st_law_figures]
  try dsimp only [Cx.nox, Cx.wish, Cx.blk, cx_K]
  walk_at "go"
  refine use_law_draw D (by decide) (Sz.mono (n := 200) Sz.lit (by decide)) fun v1 H1 a1 b1 k1 D1 => ?_
  walk_at "go"
  refine use_law_draw D1 hn (Sz.mono (n := 200) (Sz.small (by omega)) (by decide)) fun v2 H2 a2 b2 k2 D2 => ?_
  walk_at "go"
  refine r_rng1 (by omega) (by omega) ?_
  refine for_rng (fun i σ H' => ∃ (w : Int) (o : Option V), σ = [some (.ref d), some (.int n), some (.int w), o] ∧ Kp d H H' ∧ Dr H' d ∧ 0 ≤ w ∧ w < ((1000000 ^ (i + 1) : Nat) : Int)) ⟨v1, none, rfl, k1.trans k2, D2, a1, b1⟩ ?_ ?_
  · rintro i σ H' hi ⟨w', o, rfl, kk, DD, w0, w1⟩
    have zw : Sz 600 w' := by
      refine Sz.lt (y := ((1000000 ^ 22 : Nat) : Int)) ?_ w0 (Int.lt_of_lt_of_le w1 (Int.ofNat_le.mpr (Nat.pow_le_pow_right (by decide) (by omega))))
      show ((1000000 ^ 22 : Nat) : Int).natAbs < 2 ^ 600
      decide +kernel
    walk_at "go"
    refine use_law_draw DD (by decide) (Sz.mono (n := 200) Sz.lit (by decide)) fun v3 H3 a3 b3 k3 D3 => ?_
    walk_at "go"
    refine ⟨_, _, rfl, kk.trans k3, D3, ?_, ?_⟩
    · omega
    · rw [Nat.pow_succ]
      generalize 1000000 ^ (i + 1) = z at w1 ⊢
      omega
  · rintro σ H' ⟨w', o, rfl, kk, DD, w0, w1⟩
    have zw : Sz 598 w' := by
      refine Sz.lt (y := ((1000000 ^ 22 : Nat) : Int)) ?_ w0 (Int.lt_of_lt_of_le w1 (Int.ofNat_le.mpr (Nat.pow_le_pow_right (by decide) (by omega))))
      show ((1000000 ^ 22 : Nat) : Int).natAbs < 2 ^ 598
      decide +kernel
    walk_at "go"
    rename_i l H3 nl e3 hl
    refine use_law_draw (DD.up e3) (by decide) (Sz.mono (n := 200) Sz.lit (by decide)) fun v3 H4 a3 b3 k3 D3 => ?_
    walk_at "go"
    obtain ⟨v, hv, hv'⟩ := at_3 (x := .int w') (y := .int (0 - w')) (z := .int (w' % 7 - 3)) a3 b3
    have ndl : l ≠ d := DD.free nl
    refine r_ixL (SqL.of (k3 _ _ ndl hl)) hv ?_
    walk_at "go"
    have w2 : w'.natAbs < 1000000 ^ n.toNat := by
      have l1 : (1000000 : Nat) ^ (v2.toNat + 1) ≤ 1000000 ^ n.toNat := Nat.pow_le_pow_right (by decide) (by omega)
      generalize (1000000 : Nat) ^ (v2.toNat + 1) = z1 at w1 l1
      generalize (1000000 : Nat) ^ n.toNat = z2 at l1 ⊢
      omega
    have l2 : (1000000 : Nat) ^ 1 ≤ 1000000 ^ n.toNat := Nat.pow_le_pow_right (by decide) (by omega)
    obtain ⟨u, rfl, zu, bu⟩ : ∃ u, v = .int u ∧ Sz 600 u ∧ u.natAbs < 1000000 ^ n.toNat := by
      generalize (1000000 : Nat) ^ n.toNat = z2 at w2 l2 ⊢
      rcases hv' with rfl | rfl | rfl
      · exact ⟨_, rfl, zw.mono (by decide), w2⟩
      · refine ⟨_, rfl, ?_, by omega⟩
        rw [Int.zero_sub]
        exact zw.neg.mono (by decide)
      · exact ⟨_, rfl, (Sz.small (by omega)).mono (by decide), by omega⟩
    exact k _ _ zu bu (kk.trans (e3.kp.trans k3)) D3

end
def sp_law_bottom (_ : PySem.W.Frag) : Sp := fun vs H Q _ => ∃ (d : Addr), vs = [.ref d] ∧ Dr H d ∧ ∀ m H', 1 ≤ m → m ≤ 100000000000000000000000000000 → Kp d H H' → Dr H' d → Q (.int m) H'
theorem use_law_bottom {K : PySem.W.Frag} {H : Hp} {Q : VK} {E : XK} {d : Addr} (D : Dr H d) (k : ∀ m H', 1 ≤ m → m ≤ 100000000000000000000000000000 → Kp d H H' → Dr H' d → Q (.int m) H') : sp_law_bottom K [.ref d] H Q E := ⟨d, rfl, D, k⟩
abbrev s_law_bottom : Stmt := topS 62
abbrev nm_law_bottom : List Str := ["draws", "way"]
theorem sc_law_bottom : FnScope nm_law_bottom ["draws"] (defScope s_law_bottom) := ⟨rfl, rfl, rfl, by decide +kernel, rfl, by decide +kernel, by decide +kernel⟩
theorem st_law_bottom {v0 : V} : start nm_law_bottom [v0] = [some v0, none] := rfl
section
variable {P : Program} {w : World} {K : PySem.W.Frag} {mg : Str → Option Value} {base : Heap}
theorem ok_law_bottom (D : DefAt K mg "_law_bottom" s_law_bottom ["draws"]) (B_abs : mg "abs" = none) (G__law_draw : Has P w K mg base CX0 2 "_law_draw" ["draws", "many"] (sp_law_draw K)) (G__law_figures : Has P w K mg base CX0 3 "_law_figures" ["draws", "most"] (sp_law_figures K)) : Has P w K mg base CX0 4 "_law_bottom" ["draws"] (sp_law_bottom K) := by
  refine D.ok sc_law_bottom (by rintro _ _ _ _ ⟨_, rfl, _⟩; rfl) (fun f cdv A outer s H vs Q E hr h => ?_)
  obtain ⟨d, rfl, D0, k⟩ := h
  refine ⟨_, (pss_cons (ps_set (i := 1) sc_law_bottom.nd rfl (Or.inl rfl) (pcall G__law_draw (hr.mono (by decide)) (pa_cons (pv 0) (pa_cons pe_int pa_nil))))
      (pss_cons (ps_if (pt_cmpR op_eq (pv 1) pe_int (nomark _)) (pss_one (ps_ret (pe_op op_add pe_int (pe_op op_mod (pe_callB cl_abs (by rfl) B_abs (by decide +kernel) (pa_cons (pcall G__law_figures (hr.mono (by decide)) (pa_cons (pv 0) (pa_cons pe_int pa_nil))) pa_nil)) (pe_op op_pow pe_int pe_int))))) pss_nil)
      (pss_one (ps_ret (pe_op op_add pe_int (pcall G__law_draw (hr.mono (by decide)) (pa_cons (pv 0) (pa_cons (pe_ix ix_list (pe_lst (pa_cons pe_int (pa_cons pe_int (pa_cons (pe_op op_pow pe_int pe_int) pa_nil)))) (pv 1) (fun _ _ => rfl)) pa_nil)))))))), ?_⟩
  rw [st_law_bottom]
  try dsimp only [Cx.nox, Cx.wish, Cx.blk, cx_K]
  walk_at "go"
  refine use_law_draw D0 (by decide) (Sz.mono (n := 200) Sz.lit (by decide)) fun v1 H1 a1 b1 k1 D1 => ?_
  walk_at "go"
  refine if_2 (fun hx => ?_) (fun hx => ?_)
  · walk_at "go"
    refine use_law_figures D1 (by decide) (by decide) fun v2 H2 z2 k2 D2 => ?_
    walk_at "go"
    exact k _ _ (by omega) (by omega) (k1.trans k2) D2
  · have hx := of_decide_eq_false hx
    walk_at "go"
    rename_i l H2 nl e2 hl
    obtain ⟨v, hv, hv'⟩ := at_3 (x := .int 9) (y := .int 60) (z := .int 1000000) a1 (show v1 < 3 by omega)
    refine r_ixL (SqL.of hl) hv ?_
    walk_at "go"
    obtain ⟨u, rfl, u0, u1⟩ : ∃ u : Int, v = .int u ∧ 0 < u ∧ u ≤ 1000000 := by
      rcases hv' with rfl | rfl | rfl
      · exact ⟨_, rfl, by decide, by decide⟩
      · exact ⟨_, rfl, by decide, by decide⟩
      · exact ⟨_, rfl, by decide, by decide⟩
    refine use_law_draw (D1.up e2) u0 (Sz.mono (n := 200) (Sz.small (by omega)) (by decide)) fun v3 H3 a3 b3 k3 D3 => ?_
    walk_at "go"
    exact k _ _ (by omega) (by omega) (k1.trans (e2.kp.trans k3)) D3

end
def sp_law_stair (_ : PySem.W.Frag) : Sp := fun vs H Q _ => ∃ (d : Addr), vs = [.ref d] ∧ Dr H d ∧ ∀ p a b m H', StB a b m → H p = none → Kp d H H' → Dr H' d → H' p = some (.tup [.int a, .int b, .int m]) → Q (.ref p) H'
theorem use_law_stair {K : PySem.W.Frag} {H : Hp} {Q : VK} {E : XK} {d : Addr} (D : Dr H d) (k : ∀ p a b m H', StB a b m → H p = none → Kp d H H' → Dr H' d → H' p = some (.tup [.int a, .int b, .int m]) → Q (.ref p) H') : sp_law_stair K [.ref d] H Q E := ⟨d, rfl, D, k⟩
abbrev s_law_stair : Stmt := topS 63
abbrev nm_law_stair : List Str := ["draws", "m", "a", "b", "by"]
theorem sc_law_stair : FnScope nm_law_stair ["draws"] (defScope s_law_stair) := ⟨rfl, rfl, rfl, by decide +kernel, rfl, by decide +kernel, by decide +kernel⟩
theorem st_law_stair {v0 : V} : start nm_law_stair [v0] = [some v0, none, none, none, none] := rfl
section
variable {P : Program} {w : World} {K : PySem.W.Frag} {mg : Str → Option Value} {base : Heap}
theorem ok_law_stair (D : DefAt K mg "_law_stair" s_law_stair ["draws"]) (B_abs : mg "abs" = none) (G__law_bottom : Has P w K mg base CX0 4 "_law_bottom" ["draws"] (sp_law_bottom K)) (G__law_draw : Has P w K mg base CX0 2 "_law_draw" ["draws", "many"] (sp_law_draw K)) (G__law_figures : Has P w K mg base CX0 3 "_law_figures" ["draws", "most"] (sp_law_figures K)) : Has P w K mg base CX0 5 "_law_stair" ["draws"] (sp_law_stair K) := by
  refine D.ok sc_law_stair (by rintro _ _ _ _ ⟨_, rfl, _⟩; rfl) (fun f cdv A outer s H vs Q E hr h => ?_)
  obtain ⟨d, rfl, D0, k⟩ := h
  refine ⟨_, (pss_cons (ps_set (i := 1) sc_law_stair.nd rfl (Or.inl rfl) (pcall G__law_bottom (hr.mono (by decide)) (pa_cons (pv 0) pa_nil)))
      (pcut (ps_if (pt_cmpR op_eq (pcall G__law_draw (hr.mono (by decide)) (pa_cons (pv 0) (pa_cons pe_int pa_nil))) pe_int (nomark _)) (pss_one (ps_set (i := 1) sc_law_stair.nd rfl (Or.inl rfl) (pe_op op_add (pe_op op_mulX (pv 1) (pe_op op_pow pe_int pe_int)) (pcall G__law_draw (hr.mono (by decide)) (pa_cons (pv 0) (pa_cons (pe_op op_pow pe_int pe_int) pa_nil)))))) pss_nil)
      (pss_cons (ps_set (i := 2) sc_law_stair.nd rfl (Or.inl rfl) (pe_ix ix_list (pe_lst (pa_cons (pcall G__law_figures (hr.mono (by decide)) (pa_cons (pv 0) (pa_cons pe_int pa_nil))) (pa_cons (pe_op op_sub (pcall G__law_draw (hr.mono (by decide)) (pa_cons (pv 0) (pa_cons (pe_op op_add (pe_op op_mulX pe_int (pv 1)) pe_int) pa_nil))) (pv 1)) (pa_cons (pcall G__law_draw (hr.mono (by decide)) (pa_cons (pv 0) (pa_cons (pe_op op_add (pv 1) pe_int) pa_nil))) pa_nil)))) (pcall G__law_draw (hr.mono (by decide)) (pa_cons (pv 0) (pa_cons pe_int pa_nil))) (fun _ _ => rfl)))
      (pss_cons (ps_set (i := 3) sc_law_stair.nd rfl (Or.inl rfl) (pe_ix ix_list (pe_lst (pa_cons (pcall G__law_figures (hr.mono (by decide)) (pa_cons (pv 0) (pa_cons pe_int pa_nil))) (pa_cons (pe_op op_sub (pcall G__law_draw (hr.mono (by decide)) (pa_cons (pv 0) (pa_cons (pe_op op_add (pe_op op_mulX pe_int (pv 1)) pe_int) pa_nil))) (pe_op op_mulX pe_int (pv 1))) (pa_cons pe_int pa_nil)))) (pcall G__law_draw (hr.mono (by decide)) (pa_cons (pv 0) (pa_cons pe_int pa_nil))) (fun _ _ => rfl)))
      (pss_cons (ps_set (i := 4) sc_law_stair.nd rfl (Or.inl rfl) (pe_ix ix_list (pe_lst (pa_cons pe_int (pa_cons pe_int (pa_cons (pe_op op_add pe_int (pcall G__law_draw (hr.mono (by decide)) (pa_cons (pv 0) (pa_cons pe_int pa_nil)))) pa_nil)))) (pcall G__law_draw (hr.mono (by decide)) (pa_cons (pv 0) (pa_cons pe_int pa_nil))) (fun _ _ => rfl)))
      (pss_cons (ps_if (PW.pt (pw_and (pt_cmpR op_lt (pe_op op_mulX (pv 1) (pv 4)) (pe_op op_pow pe_int pe_int) (nomark _)) (pw_and1 (pt_cmpR op_lt (pe_op op_mulX (pe_callB cl_abs (by rfl) B_abs (by decide +kernel) (pa_cons (pv 2) pa_nil)) (pv 4)) (pe_op op_pow pe_int pe_int) (nomark _))))) (pss_one (ps_ret (pe_tup (pa_cons (pe_op op_mulX (pv 2) (pv 4)) (pa_cons (pv 3) (pa_cons (pe_op op_mulX (pv 1) (pv 4)) pa_nil)))))) pss_nil)
      (pss_one (ps_ret (pe_tup (pa_cons (pv 2) (pa_cons (pv 3) (pa_cons (pv 1) pa_nil)))))))))))), ?_⟩
  rw [st_law_stair]
  try dsimp only [Cx.nox, Cx.wish, Cx.blk, cx_K]
  walk_at "go"
  refine use_law_bottom D0 fun m0 H1 a1 b1 k1 D1 => ?_
  walk_at "go"
  refine r_cut (fun σ H' => ∃ m : Int, σ = [some (.ref d), some (.int m), none, none, none] ∧ Kp d H H' ∧ Dr H' d ∧ 1 ≤ m ∧ m ≤ 500000000000000000000000000000000000000000000000000000000000) ?_ ?_
  walk_at "go"
  refine use_law_draw D1 (by decide) (Sz.mono (n := 200) Sz.lit (by decide)) fun v2 H2 a2 b2 k2 D2 => ?_
  walk_at "go"
  refine if_2 (fun hx => ?_) (fun hx => ?_)
  · have zm : Sz 200 m0 := by
      show m0.natAbs < 2 ^ 200
      omega
    walk_at "go"
    refine use_law_draw D2 (by decide) (Sz.mono (n := 200) Sz.lit (by decide)) fun v3 H3 a3 b3 k3 D3 => ?_
    walk_at "go"
    exact ⟨_, rfl, k1.trans (k2.trans k3), D3, by omega, by omega⟩
  · walk_at "go"
    exact ⟨_, rfl, k1.trans k2, D2, a1, by omega⟩
  rintro σ H3 ⟨m, rfl, k3, D3, m1, m2⟩
  have zm : Sz 200 m := by
    show m.natAbs < 2 ^ 200
    omega
  walk_at "go"
  refine use_law_figures D3 (by decide) (by decide) fun v4 H4 z4 k4 D4 => ?_
  walk_at "go"
  refine use_law_draw D4 (by omega) (by walk_at "szm") fun v5 H5 a5 b5 k5 D5 => ?_
  walk_at "go"
  refine use_law_draw D5 (by omega) (by walk_at "szm") fun v6 H6 a6 b6 k6 D6 => ?_
  walk_at "go"
  rename_i l H7 nl e7 hl
  refine use_law_draw (D6.up e7) (by decide) (Sz.mono (n := 200) Sz.lit (by decide)) fun v8 H8 a8 b8 k8 D8 => ?_
  walk_at "go"
  obtain ⟨x, hx, hx'⟩ := at_3 (x := .int v4) (y := .int (v5 - m)) (z := .int v6) a8 b8
  refine r_ixL (SqL.of (k8 _ _ (D6.free nl) hl)) hx ?_
  obtain ⟨a, rfl, za⟩ : ∃ a, x = .int a ∧ Sz 600 a := by
    rcases hx' with rfl | rfl | rfl
    · exact ⟨_, rfl, z4⟩
    · exact ⟨_, rfl, (zm.le (by omega) (by omega)).mono (by decide)⟩
    · exact ⟨_, rfl, (zm.le (by omega) (by omega)).mono (by decide)⟩
  clear hx hx'
  have kk : Kp d H H8 := k3.trans (k4.trans (k5.trans (k6.trans (e7.kp.trans k8))))
  clear k1 k3 k4 k5 k6 k8 e7 nl hl D0 D1 D3 D4 D5 D6
  walk_at "go"
  refine use_law_figures D8 (by decide) (by decide) fun v9 H9 z9 k9 D9 => ?_
  walk_at "go"
  refine use_law_draw D9 (by omega) (by walk_at "szm") fun v10 H10 a10 b10 k10 D10 => ?_
  walk_at "go"
  rename_i l H11 nl e11 hl
  refine use_law_draw (D10.up e11) (by decide) (Sz.mono (n := 200) Sz.lit (by decide)) fun v12 H12 a12 b12 k12 D12 => ?_
  walk_at "go"
  obtain ⟨x, hx, hx'⟩ := at_3 (x := .int v9) (y := .int (v10 - 2 * m)) (z := .int 0) a12 b12
  refine r_ixL (SqL.of (k12 _ _ (D10.free nl) hl)) hx ?_
  obtain ⟨b, rfl, zb⟩ : ∃ a, x = .int a ∧ Sz 600 a := by
    rcases hx' with rfl | rfl | rfl
    · exact ⟨_, rfl, z9⟩
    · refine ⟨_, rfl, Sz.mono (n := 202) ?_ (by decide)⟩
      show (v10 - 2 * m).natAbs < 2 ^ 202
      omega
    · exact ⟨_, rfl, Sz.mono (n := 200) Sz.lit (by decide)⟩
  clear hx hx'
  have kk2 : Kp d H H12 := kk.trans (k9.trans (k10.trans (e11.kp.trans k12)))
  clear kk k9 k10 k12 e11 nl hl D8 D9 D10
  walk_at "go"
  refine use_law_draw D12 (by decide) (Sz.mono (n := 200) Sz.lit (by decide)) fun v13 H13 a13 b13 k13 D13 => ?_
  walk_at "go"
  rename_i l H14 nl e14 hl
  refine use_law_draw (D13.up e14) (by decide) (Sz.mono (n := 200) Sz.lit (by decide)) fun v15 H15 a15 b15 k15 D15 => ?_
  walk_at "go"
  obtain ⟨x, hx, hx'⟩ := at_3 (x := .int 1) (y := .int 1) (z := .int (1 + v13)) a15 b15
  refine r_ixL (SqL.of (k15 _ _ (D13.free nl) hl)) hx ?_
  obtain ⟨y, rfl, y0, y1⟩ : ∃ a : Int, x = .int a ∧ 1 ≤ a ∧ a ≤ 9 := by
    rcases hx' with rfl | rfl | rfl
    · exact ⟨_, rfl, by decide, by decide⟩
    · exact ⟨_, rfl, by decide, by decide⟩
    · exact ⟨_, rfl, by omega, by omega⟩
  have zy : Sz 5 y := by
    show y.natAbs < 2 ^ 5
    omega
  clear hx hx'
  have kk3 : Kp d H H15 := kk2.trans (k13.trans (e14.kp.trans k15))
  clear kk2 k13 k15 e14 nl hl D12 D13
  walk_at "go"
  refine if_2 (fun q1 => ?_) (fun q1 => ?_)
  · have q1 := of_decide_eq_true q1
    walk_at "go"
    refine if_2 (fun q2 => ?_) (fun q2 => ?_)
    · walk_at "go"
      rename_i p H16 np e16 hp
      have mp : 0 < m * y := Int.mul_pos (by omega) (by omega)
      exact k _ _ _ _ _ ⟨mp, by omega, Sz.mono (za.mul zy) (by decide), zb.mono (by decide)⟩ (free_kp kk3 D15 np) (kk3.trans e16.kp) (D15.up e16) hp
    · walk_at "go"
      rename_i p H16 np e16 hp
      exact k _ _ _ _ _ ⟨by omega, by omega, za.mono (by decide), zb.mono (by decide)⟩ (free_kp kk3 D15 np) (kk3.trans e16.kp) (D15.up e16) hp
  · walk_at "go"
    rename_i p H16 np e16 hp
    exact k _ _ _ _ _ ⟨by omega, by omega, za.mono (by decide), zb.mono (by decide)⟩ (free_kp kk3 D15 np) (kk3.trans e16.kp) (D15.up e16) hp

end
def sp_law_great_count (_ : PySem.W.Frag) : Sp := fun vs H Q _ => ∃ (d : Addr), vs = [.ref d] ∧ Dr H d ∧ ∀ n H', 0 ≤ n → n < 1000000000000000000000000000000 → Kp d H H' → Dr H' d → Q (.int n) H'
theorem use_law_great_count {K : PySem.W.Frag} {H : Hp} {Q : VK} {E : XK} {d : Addr} (D : Dr H d) (k : ∀ n H', 0 ≤ n → n < 1000000000000000000000000000000 → Kp d H H' → Dr H' d → Q (.int n) H') : sp_law_great_count K [.ref d] H Q E := ⟨d, rfl, D, k⟩
abbrev s_law_great_count : Stmt := topS 64
abbrev nm_law_great_count : List Str := ["draws", "some"]
theorem sc_law_great_count : FnScope nm_law_great_count ["draws"] (defScope s_law_great_count) := ⟨rfl, rfl, rfl, by decide +kernel, rfl, by decide +kernel, by decide +kernel⟩
theorem st_law_great_count {v0 : V} : start nm_law_great_count [v0] = [some v0, none] := rfl
section
variable {P : Program} {w : World} {K : PySem.W.Frag} {mg : Str → Option Value} {base : Heap}
theorem ok_law_great_count (D : DefAt K mg "_law_great_count" s_law_great_count ["draws"]) (B_abs : mg "abs" = none) (G__law_figures : Has P w K mg base CX0 3 "_law_figures" ["draws", "most"] (sp_law_figures K)) (G__law_draw : Has P w K mg base CX0 2 "_law_draw" ["draws", "many"] (sp_law_draw K)) : Has P w K mg base CX0 4 "_law_great_count" ["draws"] (sp_law_great_count K) := by
  refine D.ok sc_law_great_count (by rintro _ _ _ _ ⟨_, rfl, _⟩; rfl) (fun f cdv A outer s H vs Q E hr h => ?_)
  obtain ⟨d, rfl, D0, k⟩ := h
  refine ⟨_, (pss_cons (ps_set (i := 1) sc_law_great_count.nd rfl (Or.inl rfl) (pe_lst (pa_cons (pcall G__law_draw (hr.mono (by decide)) (pa_cons (pv 0) (pa_cons pe_int pa_nil))) (pa_cons (pcall G__law_draw (hr.mono (by decide)) (pa_cons (pv 0) (pa_cons pe_int pa_nil))) (pa_cons (pe_callB cl_abs (by rfl) B_abs (by decide +kernel) (pa_cons (pcall G__law_figures (hr.mono (by decide)) (pa_cons (pv 0) (pa_cons pe_int pa_nil))) pa_nil)) (pa_cons (pe_op op_sub (pe_op op_pow pe_int pe_int) pe_int) pa_nil))))))
      (pss_one (ps_ret (pe_ix ix_list (pv 1) (pe_op op_fdivW (pcall G__law_draw (hr.mono (by decide)) (pa_cons (pv 0) (pa_cons pe_int pa_nil))) pe_int) (fun _ _ => rfl))))), ?_⟩
  rw [st_law_great_count]
  try dsimp only [Cx.nox, Cx.wish, Cx.blk, cx_K]
  walk_at "go"
  refine use_law_draw D0 (by decide) (by walk_at "szm") fun v1 H1 a1 b1 k1 D1 => ?_
  walk_at "go"
  refine use_law_draw D1 (by decide) (by walk_at "szm") fun v2 H2 a2 b2 k2 D2 => ?_
  walk_at "go"
  refine use_law_figuresB D2 (by decide) (by decide) fun v3 H3 z3 b3 k3 D3 => ?_
  walk_at "go"
  rename_i l H4 nl e4 hl
  refine use_law_draw (D3.up e4) (by decide) (by walk_at "szm") fun v5 H5 a5 b5 k5 D5 => ?_
  walk_at "go"
  have hl5 := k5 _ _ (D3.free nl) hl
  have kk : Kp d H H5 := k1.trans (k2.trans (k3.trans (e4.kp.trans k5)))
  have b3' : v3.natAbs < 1000000 ^ 5 := b3
  obtain ⟨u, hu, u0, u1⟩ : ∃ u, atI [V.int v1, V.int v2, V.int (v3.natAbs : Int), V.int (1000000000000000000000000000000 - 1)] (v5 / 2) = some (V.int u) ∧ 0 ≤ u ∧ u < 1000000000000000000000000000000 := by
    obtain h | h | h | h : v5 / 2 = 0 ∨ v5 / 2 = 1 ∨ v5 / 2 = 2 ∨ v5 / 2 = 3 := by omega
    · rw [h]
      exact ⟨_, rfl, by omega, by omega⟩
    · rw [h]
      exact ⟨_, rfl, by omega, by omega⟩
    · rw [h]
      exact ⟨_, rfl, by omega, by omega⟩
    · rw [h]
      exact ⟨_, rfl, by omega, by omega⟩
  refine r_ixL (SqL.of hl5) hu ?_
  walk_at "go"
  exact k _ _ u0 u1 kk D5

end
/-! the attributes of a Ledger -/
def fs_Ledger (v0 v1 v2 : V) : List (Str × V) := [("kept", v0), ("now_worth", v1), ("former", v2)]
theorem ln_Ledger {v0 v1 v2 : V} : (fs_Ledger v0 v1 v2).length < 1000 := by
  show 3 < 1000
  decide
theorem lk_Ledger_kept {v0 v1 v2 : V} : (fs_Ledger v0 v1 v2).lookup ("kept" : Str) = some v0 := by
  unfold fs_Ledger
  rw [List.lookup_cons, show (("kept" : Str) == "kept") = true by decide +kernel]
theorem pf_Ledger_kept {v0 v1 v2 y : V} : putF "kept" y (fs_Ledger v0 v1 v2) = fs_Ledger y v1 v2 := by
  unfold fs_Ledger
  rw [putF, if_pos rfl]
theorem lk_Ledger_now_worth {v0 v1 v2 : V} : (fs_Ledger v0 v1 v2).lookup ("now_worth" : Str) = some v1 := by
  unfold fs_Ledger
  rw [List.lookup_cons, show (("now_worth" : Str) == "kept") = false by decide +kernel]
  dsimp only
  rw [List.lookup_cons, show (("now_worth" : Str) == "now_worth") = true by decide +kernel]
theorem pf_Ledger_now_worth {v0 v1 v2 y : V} : putF "now_worth" y (fs_Ledger v0 v1 v2) = fs_Ledger v0 y v2 := by
  unfold fs_Ledger
  rw [putF, if_neg (show ¬ (("kept" : Str) = "now_worth") by decide +kernel)]
  rw [putF, if_pos rfl]
theorem lk_Ledger_former {v0 v1 v2 : V} : (fs_Ledger v0 v1 v2).lookup ("former" : Str) = some v2 := by
  unfold fs_Ledger
  rw [List.lookup_cons, show (("former" : Str) == "kept") = false by decide +kernel]
  dsimp only
  rw [List.lookup_cons, show (("former" : Str) == "now_worth") = false by decide +kernel]
  dsimp only
  rw [List.lookup_cons, show (("former" : Str) == "former") = true by decide +kernel]
theorem pf_Ledger_former {v0 v1 v2 y : V} : putF "former" y (fs_Ledger v0 v1 v2) = fs_Ledger v0 v1 y := by
  unfold fs_Ledger
  rw [putF, if_neg (show ¬ (("kept" : Str) = "former") by decide +kernel)]
  rw [putF, if_neg (show ¬ (("now_worth" : Str) = "former") by decide +kernel)]
  rw [putF, if_pos rfl]
theorem lk_Ledger_become_ {v0 v1 v2 : V} : (fs_Ledger v0 v1 v2).lookup ("become" : Str) = none := by
  unfold fs_Ledger
  rw [List.lookup_cons, show (("become" : Str) == "kept") = false by decide +kernel]
  dsimp only
  rw [List.lookup_cons, show (("become" : Str) == "now_worth") = false by decide +kernel]
  dsimp only
  rw [List.lookup_cons, show (("become" : Str) == "former") = false by decide +kernel]
  dsimp only
  rfl
theorem lk_Ledger_need_entry_ {v0 v1 v2 : V} : (fs_Ledger v0 v1 v2).lookup ("need_entry" : Str) = none := by
  unfold fs_Ledger
  rw [List.lookup_cons, show (("need_entry" : Str) == "kept") = false by decide +kernel]
  dsimp only
  rw [List.lookup_cons, show (("need_entry" : Str) == "now_worth") = false by decide +kernel]
  dsimp only
  rw [List.lookup_cons, show (("need_entry" : Str) == "former") = false by decide +kernel]
  dsimp only
  rfl
theorem lk_Ledger_put_ {v0 v1 v2 : V} : (fs_Ledger v0 v1 v2).lookup ("put" : Str) = none := by
  unfold fs_Ledger
  rw [List.lookup_cons, show (("put" : Str) == "kept") = false by decide +kernel]
  dsimp only
  rw [List.lookup_cons, show (("put" : Str) == "now_worth") = false by decide +kernel]
  dsimp only
  rw [List.lookup_cons, show (("put" : Str) == "former") = false by decide +kernel]
  dsimp only
  rfl
theorem lk_Ledger_drop_ {v0 v1 v2 : V} : (fs_Ledger v0 v1 v2).lookup ("drop" : Str) = none := by
  unfold fs_Ledger
  rw [List.lookup_cons, show (("drop" : Str) == "kept") = false by decide +kernel]
  dsimp only
  rw [List.lookup_cons, show (("drop" : Str) == "now_worth") = false by decide +kernel]
  dsimp only
  rw [List.lookup_cons, show (("drop" : Str) == "former") = false by decide +kernel]
  dsimp only
  rfl
theorem lk_Ledger_change_ {v0 v1 v2 : V} : (fs_Ledger v0 v1 v2).lookup ("change" : Str) = none := by
  unfold fs_Ledger
  rw [List.lookup_cons, show (("change" : Str) == "kept") = false by decide +kernel]
  dsimp only
  rw [List.lookup_cons, show (("change" : Str) == "now_worth") = false by decide +kernel]
  dsimp only
  rw [List.lookup_cons, show (("change" : Str) == "former") = false by decide +kernel]
  dsimp only
  rfl
theorem lk_Ledger_back_ {v0 v1 v2 : V} : (fs_Ledger v0 v1 v2).lookup ("back" : Str) = none := by
  unfold fs_Ledger
  rw [List.lookup_cons, show (("back" : Str) == "kept") = false by decide +kernel]
  dsimp only
  rw [List.lookup_cons, show (("back" : Str) == "now_worth") = false by decide +kernel]
  dsimp only
  rw [List.lookup_cons, show (("back" : Str) == "former") = false by decide +kernel]
  dsimp only
  rfl
theorem lk_Ledger_entries_ {v0 v1 v2 : V} : (fs_Ledger v0 v1 v2).lookup ("entries" : Str) = none := by
  unfold fs_Ledger
  rw [List.lookup_cons, show (("entries" : Str) == "kept") = false by decide +kernel]
  dsimp only
  rw [List.lookup_cons, show (("entries" : Str) == "now_worth") = false by decide +kernel]
  dsimp only
  rw [List.lookup_cons, show (("entries" : Str) == "former") = false by decide +kernel]
  dsimp only
  rfl
theorem lk_Ledger_worth_ {v0 v1 v2 : V} : (fs_Ledger v0 v1 v2).lookup ("worth" : Str) = none := by
  unfold fs_Ledger
  rw [List.lookup_cons, show (("worth" : Str) == "kept") = false by decide +kernel]
  dsimp only
  rw [List.lookup_cons, show (("worth" : Str) == "now_worth") = false by decide +kernel]
  dsimp only
  rw [List.lookup_cons, show (("worth" : Str) == "former") = false by decide +kernel]
  dsimp only
  rfl
theorem lk_Ledger_worth_at_ {v0 v1 v2 : V} : (fs_Ledger v0 v1 v2).lookup ("worth_at" : Str) = none := by
  unfold fs_Ledger
  rw [List.lookup_cons, show (("worth_at" : Str) == "kept") = false by decide +kernel]
  dsimp only
  rw [List.lookup_cons, show (("worth_at" : Str) == "now_worth") = false by decide +kernel]
  dsimp only
  rw [List.lookup_cons, show (("worth_at" : Str) == "former") = false by decide +kernel]
  dsimp only
  rfl
theorem mk_Ledger {v0 v1 v2 : V} : putF "former" v2 (putF "now_worth" v1 (putF "kept" v0 [])) = fs_Ledger v0 v1 v2 := by
  unfold fs_Ledger
  try simp only [putF]
  try simp only [putF]
  try rw [if_neg (show ¬ (("kept" : Str) = "now_worth") by decide +kernel)]
  try simp only [putF]
  try rw [if_neg (show ¬ (("kept" : Str) = "former") by decide +kernel)]
  try rw [if_neg (show ¬ (("now_worth" : Str) = "former") by decide +kernel)]
local macro_rules | `(tactic| walk_at "lk") => `(tactic| first
  | with_reducible exact lk_Ledger_kept
  | with_reducible exact lk_Ledger_now_worth
  | with_reducible exact lk_Ledger_former
  | with_reducible exact lk_Ledger_become_
  | with_reducible exact lk_Ledger_need_entry_
  | with_reducible exact lk_Ledger_put_
  | with_reducible exact lk_Ledger_drop_
  | with_reducible exact lk_Ledger_change_
  | with_reducible exact lk_Ledger_back_
  | with_reducible exact lk_Ledger_entries_
  | with_reducible exact lk_Ledger_worth_
  | with_reducible exact lk_Ledger_worth_at_
  | fail "no step")

/-! whole parts -/
theorem div_split (a b k : Int) {m : Int} (hm : 0 < m) : (a * k + b) / m = a / m * k + b / m + (a % m * k + b % m) / m := by
  have ea := Int.emod_add_mul_ediv a m
  have eb := Int.emod_add_mul_ediv b m
  have e : a * k + b = (a % m * k + b % m) + m * (a / m * k + b / m) := by
    have h1 : a * k = a % m * k + m * (a / m) * k := by
      rw [← Int.add_mul, ea]
    rw [h1, Int.mul_add, Int.mul_assoc]
    omega
  rw [e, Int.add_mul_ediv_left _ _ (by omega : m ≠ 0)]
  omega
theorem mod_split (a b k : Int) {m : Int} : (a * k + b) % m = (a % m * k + b % m) % m := by
  have ea := Int.emod_add_mul_ediv a m
  have eb := Int.emod_add_mul_ediv b m
  have e : a * k + b = (a % m * k + b % m) + m * (a / m * k + b / m) := by
    have h1 : a * k = a % m * k + m * (a / m) * k := by
      rw [← Int.add_mul, ea]
    rw [h1, Int.mul_add, Int.mul_assoc]
    omega
  rw [e, Int.add_mul_emod_self_left]

--@ needs Div
/-! sums, whole parts of many fractions -/
def sm (f : Nat → Int) : Nat → Int
  | 0 => 0
  | n + 1 => sm f n + f n
theorem sm_congr {f g : Nat → Int} : ∀ {n : Nat}, (∀ i, i < n → f i = g i) → sm f n = sm g n
  | 0, _ => rfl
  | n + 1, h => by
    show sm f n + f n = sm g n + g n
    rw [sm_congr (fun i hi => h i (by omega)), h n (by omega)]
theorem sm_add {f : Nat → Int} (n : Nat) : ∀ k : Nat, sm f (n + k) = sm f n + sm (fun i => f (n + i)) k
  | 0 => by
    show sm f n = sm f n + 0
    omega
  | k + 1 => by
    show sm f (n + k) + f (n + k) = sm f n + (sm (fun i => f (n + i)) k + f (n + k))
    rw [sm_add n k]
    omega
theorem sm_plus {f g : Nat → Int} : ∀ n : Nat, sm (fun i => f i + g i) n = sm f n + sm g n
  | 0 => rfl
  | n + 1 => by
    show sm (fun i => f i + g i) n + (f n + g n) = sm f n + f n + (sm g n + g n)
    rw [sm_plus n]
    omega
theorem sm_mul {f : Nat → Int} (c : Int) : ∀ n : Nat, sm (fun i => c * f i) n = c * sm f n
  | 0 => by show (0 : Int) = c * 0; rw [Int.mul_zero]
  | n + 1 => by
    show sm (fun i => c * f i) n + c * f n = c * (sm f n + f n)
    rw [sm_mul c n, Int.mul_add]
theorem sm_const (c : Int) : ∀ n : Nat, sm (fun _ => c) n = c * n
  | 0 => by show (0 : Int) = c * 0; rw [Int.mul_zero]
  | n + 1 => by
    show sm (fun _ => c) n + c = c * ((n : Int) + 1)
    rw [sm_const c n, Int.mul_add, Int.mul_one]
theorem sm_first {f : Nat → Int} : ∀ n : Nat, sm f (n + 1) = f 0 + sm (fun i => f (i + 1)) n
  | 0 => by
    show 0 + f 0 = f 0 + 0
    omega
  | n + 1 => by
    show sm f (n + 1) + f (n + 1) = f 0 + (sm (fun i => f (i + 1)) n + f (n + 1))
    rw [sm_first n]
    omega
theorem sm_rev {f : Nat → Int} : ∀ n : Nat, sm f n = sm (fun i => f (n - 1 - i)) n
  | 0 => rfl
  | n + 1 => by
    rw [sm_first (f := fun i => f (n + 1 - 1 - i))]
    show sm f n + f n = f (n + 1 - 1 - 0) + sm (fun i => f (n + 1 - 1 - (i + 1))) n
    rw [sm_rev n, sm_congr (g := fun i => f (n + 1 - 1 - (i + 1))) (fun i hi => by
      show f (n - 1 - i) = f (n + 1 - 1 - (i + 1))
      congr 1
      omega)]
    show _ + f n = f n + _
    omega
theorem sm_tri : ∀ n : Nat, 2 * sm (fun i => (i : Int)) n = (n : Int) * (n - 1)
  | 0 => rfl
  | n + 1 => by
    show 2 * (sm (fun i => (i : Int)) n + n) = ((n : Int) + 1) * ((n : Int) + 1 - 1)
    rw [Int.mul_add, sm_tri n, show (n : Int) + 1 - 1 = n by omega, Int.add_mul, Int.mul_sub]
    omega
theorem sm_tri2 (n : Nat) : (n : Int) * (n - 1) / 2 = sm (fun i => (i : Int)) n := by
  rw [← sm_tri n]
  omega
/-- the sum of the whole parts of (a k + b) / m over the first n places -/
@[irreducible] def fs (n : Nat) (a b m : Int) : Int := sm (fun k => (a * k + b) / m) n
theorem fs_zero (a b m : Int) : fs 0 a b m = 0 := by unfold fs; rfl
theorem fs_succ (n : Nat) (a b m : Int) : fs (n + 1) a b m = fs n a b m + (a * n + b) / m := by unfold fs; rfl
theorem fs_split (n : Nat) (a b : Int) {m : Int} (hm : 0 < m) : fs n a b m = a / m * ((n : Int) * (n - 1) / 2) + b / m * n + fs n (a % m) (b % m) m := by
  rw [sm_tri2]
  unfold fs
  rw [sm_congr (g := fun k : Nat => (a / m * (k : Int) + b / m) + (a % m * k + b % m) / m) (fun i _ => div_split a b i hm)]
  rw [sm_plus, sm_plus, sm_mul, sm_const]
theorem ediv_is {x m q : Int} (hm : 0 < m) (h0 : q * m ≤ x) (h1 : x < (q + 1) * m) : x / m = q := by
  have e1 : q ≤ x / m := (Int.le_ediv_iff_mul_le hm).mpr h0
  have e2 : x / m < q + 1 := (Int.ediv_lt_iff_lt_mul hm).mpr h1
  omega
/-- the places below a height -/
@[irreducible] def fsH (n : Int) (s m r : Int) (c : Nat) : Int := sm (fun i => n + (s - m * ((i : Int) + 1)) / r) c
theorem fsH_step (n s m r : Int) (c : Nat) : fsH (n + 1) s m r c = fsH n s m r c + c := by
  unfold fsH
  rw [sm_congr (g := fun i : Nat => (n + (s - m * ((i : Int) + 1)) / r) + 1) (fun i _ => by omega), sm_plus, sm_const]
  omega
/-- the turn: (r k + s) / m over n places, by m and r exchanged -/
theorem fs_turnH (s : Int) {m r : Int} (hr : 0 < r) (s0 : 0 ≤ s) (s1 : s < m) : ∀ n : Nat, fs n r s m = fsH n s m r ((r * n + s) / m).toNat := by
  have hm : 0 < m := by omega
  intro n
  induction n with
  | zero =>
    rw [show r * ((0 : Nat) : Int) + s = s by rw [show ((0 : Nat) : Int) = 0 from rfl, Int.mul_zero]; omega, Int.ediv_eq_zero_of_lt s0 s1]
    unfold fs fsH
    rfl
  | succ n ih =>
    rw [fs_succ, ih]
    generalize hy : (r * (n : Int) + s) / m = y
    generalize hz : (r * ((n + 1 : Nat) : Int) + s) / m = z
    have hn1 : r * ((n + 1 : Nat) : Int) + s = r * n + s + r := by
      rw [show ((n + 1 : Nat) : Int) = (n : Int) + 1 from rfl, Int.mul_add, Int.mul_one]
      omega
    have rn : 0 ≤ r * (n : Int) := Int.mul_nonneg (by omega) (by omega)
    have y0 : 0 ≤ y := by
      rw [← hy]
      exact Int.ediv_nonneg (by omega) (by omega)
    have yz : y ≤ z := by
      rw [← hy, ← hz, hn1]
      exact Int.ediv_le_ediv hm (by omega)
    obtain ⟨Y, hY⟩ : ∃ Y : Nat, y = Y := ⟨y.toNat, by omega⟩
    obtain ⟨D, hD⟩ : ∃ D : Nat, z = Y + D := ⟨(z - y).toNat, by omega⟩
    have eY : y.toNat = Y := by omega
    have eZ : z.toNat = Y + D := by omega
    rw [eY, eZ]
    show fsH n s m r Y + y = fsH (((n : Nat) : Int) + 1) s m r (Y + D)
    have e3 : fsH (((n : Nat) : Int) + 1) s m r (Y + D) = fsH (((n : Nat) : Int) + 1) s m r Y + sm (fun i => ((n : Nat) : Int) + 1 + (s - m * (((Y + i : Nat) : Int) + 1)) / r) D := by
      unfold fsH
      exact sm_add Y D
    rw [e3, fsH_step, sm_congr (g := fun _ => 0) (fun i hi => ?_), sm_const]
    · omega
    · have b1 : m * (((Y + i : Nat) : Int) + 1) ≤ r * n + s + r := by
        have h1 : z * m ≤ r * n + s + r := by
          rw [← hz, hn1]
          exact Int.ediv_mul_le _ (by omega)
        have h2 : (((Y + i : Nat) : Int) + 1) * m ≤ z * m := Int.mul_le_mul_of_nonneg_right (by omega) (by omega)
        rw [Int.mul_comm]
        omega
      have b2 : r * n + s < m * (((Y + i : Nat) : Int) + 1) := by
        have h1 : r * n + s < (y + 1) * m := by
          rw [← hy]
          exact Int.lt_ediv_add_one_mul_self _ hm
        have h2 : (y + 1) * m ≤ (((Y + i : Nat) : Int) + 1) * m := Int.mul_le_mul_of_nonneg_right (by omega) (by omega)
        rw [Int.mul_comm m]
        omega
      have q : (s - m * (((Y + i : Nat) : Int) + 1)) / r = -((n : Int) + 1) := by
        refine ediv_is hr ?_ ?_
        · rw [Int.neg_mul, Int.add_mul, Int.one_mul, Int.mul_comm (n : Int) r]
          omega
        · rw [show -((n : Int) + 1) + 1 = -(n : Int) by omega, Int.neg_mul, Int.mul_comm (n : Int) r]
          omega
      show ((n : Nat) : Int) + 1 + (s - m * (((Y + i : Nat) : Int) + 1)) / r = 0
      rw [q]
      omega
theorem fs_turn (n : Nat) (s : Int) {m r : Int} (hr : 0 ≤ r) (s0 : 0 ≤ s) (s1 : s < m) : fs n r s m = fs ((r * n + s) / m).toNat m ((r * n + s) % m) r := by
  have hm : 0 < m := by omega
  by_cases h : r = 0
  · subst h
    rw [Int.zero_mul, Int.zero_add, Int.ediv_eq_zero_of_lt s0 s1]
    rw [show Int.toNat 0 = 0 from rfl, fs_zero]
    unfold fs
    rw [sm_congr (g := fun _ => 0) (fun i _ => by rw [Int.zero_mul, Int.zero_add, Int.ediv_eq_zero_of_lt s0 s1]), sm_const]
    omega
  · rw [fs_turnH s (by omega) s0 s1 n]
    generalize hy : (r * (n : Int) + s) / m = y
    have rn : 0 ≤ r * (n : Int) := Int.mul_nonneg hr (by omega)
    have y0 : 0 ≤ y := by
      rw [← hy]
      exact Int.ediv_nonneg (by omega) (by omega)
    unfold fsH fs
    rw [sm_rev]
    refine sm_congr fun i hi => ?_
    have e := Int.emod_add_mul_ediv (r * n + s) m
    rw [hy] at e
    have c : (((y.toNat - 1 - i : Nat) : Int) + 1) = y - i := by omega
    show (n : Int) + (s - m * (((y.toNat - 1 - i : Nat) : Int) + 1)) / r = (m * (i : Int) + (r * n + s) % m) / r
    rw [c, show m * (i : Int) + (r * n + s) % m = (s - m * (y - i)) + r * n by rw [Int.mul_sub]; omega, Int.add_mul_ediv_left _ _ h]
    omega
theorem fs_loop (n : Nat) (a b : Int) {m : Int} (hm : 0 < m) :
    fs n a b m = a / m * ((n : Int) * (n - 1) / 2) + b / m * n + fs ((a % m * n + b % m) / m).toNat m ((a % m * n + b % m) % m) (a % m) := by
  rw [fs_split n a b hm, fs_turn n (b % m) (Int.emod_nonneg _ (by omega)) (Int.emod_nonneg _ (by omega)) (Int.emod_lt_of_pos _ hm)]
/-- the law's own turn, from the last place -/
theorem fs_quick (b : Int) {m a : Int} (a0 : 0 ≤ a) (b0 : 0 ≤ b) (b1 : b < m) : ∀ L : Nat, fs (L + 1) a b m = (L : Int) * ((a * L + b) / m) - fs ((a * L + b) / m).toNat m (m - b - 1) a := by
  have hm : 0 < m := by omega
  intro L
  induction L with
  | zero =>
    rw [show a * ((0 : Nat) : Int) + b = b by rw [show ((0 : Nat) : Int) = 0 from rfl, Int.mul_zero]; omega, Int.ediv_eq_zero_of_lt b0 b1, fs_succ]
    rw [show a * ((0 : Nat) : Int) + b = b by rw [show ((0 : Nat) : Int) = 0 from rfl, Int.mul_zero]; omega, Int.ediv_eq_zero_of_lt b0 b1, fs_zero, show Int.toNat 0 = 0 from rfl, fs_zero]
    rfl
  | succ n ih =>
    rw [fs_succ, ih]
    generalize hy : (a * (n : Int) + b) / m = y
    generalize hz : (a * ((n + 1 : Nat) : Int) + b) / m = z
    have hn1 : a * ((n + 1 : Nat) : Int) + b = a * n + b + a := by
      rw [show ((n + 1 : Nat) : Int) = (n : Int) + 1 from rfl, Int.mul_add, Int.mul_one]
      omega
    have rn : 0 ≤ a * (n : Int) := Int.mul_nonneg a0 (by omega)
    have y0 : 0 ≤ y := by
      rw [← hy]
      exact Int.ediv_nonneg (by omega) (by omega)
    have yz : y ≤ z := by
      rw [← hy, ← hz, hn1]
      exact Int.ediv_le_ediv hm (by omega)
    obtain ⟨Y, hY⟩ : ∃ Y : Nat, y = Y := ⟨y.toNat, by omega⟩
    obtain ⟨D, hD⟩ : ∃ D : Nat, z = Y + D := ⟨(z - y).toNat, by omega⟩
    have eY : y.toNat = Y := by omega
    have eZ : z.toNat = Y + D := by omega
    rw [eY, eZ]
    have e3 : fs (Y + D) m (m - b - 1) a = fs Y m (m - b - 1) a + sm (fun i => (m * ((Y + i : Nat) : Int) + (m - b - 1)) / a) D := by
      unfold fs
      exact sm_add Y D
    rw [e3, sm_congr (g := fun _ => (n : Int)) (fun i hi => ?_), sm_const, hD, hY]
    · rw [show ((n + 1 : Nat) : Int) = (n : Int) + 1 from rfl, Int.add_mul, Int.one_mul, Int.mul_add]
      omega
    · have b1' : (((Y + i : Nat) : Int) + 1) * m ≤ a * n + b + a := by
        have h1 : z * m ≤ a * n + b + a := by
          rw [← hz, hn1]
          exact Int.ediv_mul_le _ (by omega)
        have h2 : (((Y + i : Nat) : Int) + 1) * m ≤ z * m := Int.mul_le_mul_of_nonneg_right (by omega) (by omega)
        omega
      have b2 : a * n + b < (((Y + i : Nat) : Int) + 1) * m := by
        have h1 : a * n + b < (y + 1) * m := by
          rw [← hy]
          exact Int.lt_ediv_add_one_mul_self _ hm
        have h2 : (y + 1) * m ≤ (((Y + i : Nat) : Int) + 1) * m := Int.mul_le_mul_of_nonneg_right (by omega) (by omega)
        omega
      have ap : 0 < a := by omega
      show (m * ((Y + i : Nat) : Int) + (m - b - 1)) / a = (n : Int)
      have h3 : (((Y + i : Nat) : Int) + 1) * m = m * ((Y + i : Nat) : Int) + m := by rw [Int.add_mul, Int.one_mul, Int.mul_comm m]
      rw [h3] at b1' b2
      refine ediv_is ap ?_ ?_
      · rw [Int.mul_comm (n : Int) a]
        omega
      · rw [Int.add_mul, Int.one_mul, Int.mul_comm (n : Int) a]
        omega
theorem fs_add (n k : Nat) (a b m : Int) : fs (n + k) a b m = fs n a b m + fs k a (a * n + b) m := by
  unfold fs
  rw [sm_add]
  congr 1
  refine sm_congr fun i _ => ?_
  show (a * ((n + i : Nat) : Int) + b) / m = (a * (i : Int) + (a * (n : Int) + b)) / m
  rw [show ((n + i : Nat) : Int) = (n : Int) + i from rfl, Int.mul_add]
  congr 1
  omega
theorem fs_a (n : Nat) (a b y : Int) {m : Int} (hm : 0 < m) : fs n (a + y * m) b m = fs n a b m + y * ((n : Int) * (n - 1) / 2) := by
  rw [sm_tri2, ← sm_mul]
  unfold fs
  rw [← sm_plus]
  refine sm_congr fun i _ => ?_
  show ((a + y * m) * (i : Int) + b) / m = (a * (i : Int) + b) / m + y * (i : Int)
  rw [show (a + y * m) * (i : Int) + b = (a * i + b) + m * (y * i) by
    rw [Int.add_mul, Int.mul_comm y m, Int.mul_assoc]
    omega, Int.add_mul_ediv_left _ _ (by omega : m ≠ 0)]
theorem fs_b (n : Nat) (a b y : Int) {m : Int} (hm : 0 < m) : fs n a (b + y * m) m = fs n a b m + y * n := by
  rw [← sm_const]
  unfold fs
  rw [← sm_plus]
  refine sm_congr fun i _ => ?_
  show (a * (i : Int) + (b + y * m)) / m = (a * (i : Int) + b) / m + y
  rw [show a * (i : Int) + (b + y * m) = (a * i + b) + m * y by
    rw [Int.mul_comm y m]
    omega, Int.add_mul_ediv_left _ _ (by omega : m ≠ 0)]
theorem fs_rev (n : Nat) (a b m : Int) : fs n (0 - a) (a * (n - 1) + b) m = fs n a b m := by
  unfold fs
  rw [sm_rev]
  refine sm_congr fun i hi => ?_
  show ((0 - a) * ((n - 1 - i : Nat) : Int) + (a * ((n : Int) - 1) + b)) / m = (a * (i : Int) + b) / m
  rw [show ((n - 1 - i : Nat) : Int) = (n : Int) - 1 - i by omega, Int.sub_mul, Int.zero_mul, Int.mul_sub a _ (i : Int)]
  congr 1
  omega

--@ needs Sum
/-! ledgers -/
structure Ent where
  a : Int
  b : Int
  m : Int
  k : Int
  n : Int
  t : Int
  deriving DecidableEq
/-- what an entry is worth -/
def wE (e : Ent) : Int := e.t * fs e.n.toNat e.a (e.a * e.k + e.b) e.m
def wL : List Ent → Int
  | [] => 0
  | e :: es => wE e + wL es
theorem wL_app : ∀ es es' : List Ent, wL (es ++ es') = wL es + wL es'
  | [], es' => by
    show wL es' = 0 + wL es'
    omega
  | e :: es, es' => by
    show wE e + wL (es ++ es') = wE e + wL es + wL es'
    rw [wL_app es es']
    omega
theorem wL_one (e : Ent) : wL [e] = wE e := by
  show wE e + 0 = wE e
  omega
theorem take_at {α : Type} {xs : List α} {i : Nat} {x : α} (h : xs[i]? = some x) : xs = xs.take i ++ [x] ++ xs.drop (i + 1) := by
  obtain ⟨hl, he⟩ := List.getElem?_eq_some_iff.mp h
  rw [List.append_assoc, ← he]
  show xs = xs.take i ++ (xs[i] :: xs.drop (i + 1))
  rw [List.getElem_cons_drop, List.take_append_drop]
theorem wL_at {es : List Ent} {i : Nat} {e : Ent} (h : es[i]? = some e) : wL es = wL (es.take i) + wE e + wL (es.drop (i + 1)) := by
  have h1 := take_at h
  have h2 : wL es = wL (es.take i ++ [e] ++ es.drop (i + 1)) := congrArg wL h1
  rw [h2, wL_app, wL_app, wL_one]
theorem wL_drop {es : List Ent} {i : Nat} {e : Ent} (h : es[i]? = some e) : wL (es.take i ++ es.drop (i + 1)) = wL es - wE e := by
  have := wL_at h
  rw [wL_app]
  omega
theorem wL_change {es : List Ent} {i : Nat} {e e' : Ent} (h : es[i]? = some e) : wL (es.take i ++ [e'] ++ es.drop (i + 1)) = wL es - wE e + wE e' := by
  have := wL_at h
  rw [wL_app, wL_app, wL_one]
  omega
theorem fs_bnd {a b m : Int} (hm : 0 < m) (B : Nat) : ∀ n : Nat, (∀ k : Nat, k < n → (a * (k : Int) + b).natAbs ≤ B) → (fs n a b m).natAbs ≤ n * B
  | 0, _ => by
    rw [fs_zero]
    show 0 ≤ _
    omega
  | n + 1, h => by
    have ih := fs_bnd hm B n (fun k hk => h k (by omega))
    have h1 := h n (by omega)
    have h2 : ((a * (n : Int) + b) / m).natAbs ≤ (a * (n : Int) + b).natAbs := by
      generalize a * (n : Int) + b = x
      have e := Int.emod_add_mul_ediv x m
      have r0 := Int.emod_nonneg x (show m ≠ 0 by omega)
      have r1 := Int.emod_lt_of_pos x hm
      by_cases hx : 0 ≤ x
      · have q0 : 0 ≤ x / m := Int.ediv_nonneg hx (by omega)
        have q1 : x / m ≤ x := Int.ediv_le_self _ hx
        omega
      · have q0 : x / m < 0 := Int.ediv_neg_of_neg_of_pos (by omega) hm
        have q1 : (x / m + 1) * m ≤ (x / m + 1) * 1 := Int.mul_le_mul_of_nonpos_left (by omega) (by omega)
        have q2 : (x / m + 1) * m = x / m * m + m := by rw [Int.add_mul, Int.one_mul]
        have q3 : m * (x / m) = x / m * m := Int.mul_comm _ _
        by_cases hq : x / m = -1
        · omega
        · omega
    rw [fs_succ, Nat.succ_mul]
    omega
/-- what an entry is worth at a place -/
def wA (k : Int) (e : Ent) : Int := if e.k ≤ k ∧ k < e.k + e.n then e.t * ((e.a * k + e.b) / e.m) else 0
def wAs (k : Int) : List Ent → Int
  | [] => 0
  | e :: es => wA k e + wAs k es
theorem wAs_app (k : Int) : ∀ es es' : List Ent, wAs k (es ++ es') = wAs k es + wAs k es'
  | [], es' => by
    show wAs k es' = 0 + wAs k es'
    omega
  | e :: es, es' => by
    show wA k e + wAs k (es ++ es') = wA k e + wAs k es + wAs k es'
    rw [wAs_app k es es']
    omega
theorem wAs_take (k : Int) {es : List Ent} {i : Nat} {e : Ent} (h : es[i]? = some e) : wAs k (es.take (i + 1)) = wAs k (es.take i) + wA k e := by
  rw [List.take_add_one, h, wAs_app]
  show _ + (wA k e + 0) = _
  omega

--@ needs C_Ledger
--@ needs LedgM
structure EntZ (e : Ent) : Prop where
  m0 : 0 < e.m
  za : Sz 620 e.a
  zb : Sz 620 e.b
  zm : Sz 200 e.m
  zk : Sz 620 e.k
  n0 : 0 ≤ e.n
  n1 : e.n < 1000000000000000000000000000000
  zt : Sz 620 e.t
theorem EntZ.zf {e : Ent} (z : EntZ e) : Sz 2200 (fs e.n.toNat e.a (e.a * e.k + e.b) e.m) := by
  have z1 : Sz 1981 (e.a * (0 : Int) + 0 + (e.a * e.k + e.b)) := by
    rw [Int.mul_zero, Int.add_zero, Int.zero_add]
    exact ((z.za.mul z.zk).add z.zb).mono (by decide)
  have h := fs_bnd z.m0 (a := e.a) (b := e.a * e.k + e.b) (2 ^ 2000) e.n.toNat fun k hk => by
    have zk : Sz 110 (k : Int) := by
      show (k : Int).natAbs < 2 ^ 110
      have := z.n0
      have := z.n1
      omega
    have h1 : (e.a * (k : Int)).natAbs < 2 ^ (620 + 110) := z.za.mul zk
    have h2 : (e.a * e.k).natAbs < 2 ^ (620 + 620) := z.za.mul z.zk
    have h3 : e.b.natAbs < 2 ^ 620 := z.zb
    have l1 : 2 ^ (620 + 110) < 2 ^ 1990 := Nat.pow_lt_pow_right (by decide) (by decide)
    have l2 : 2 ^ (620 + 620) < 2 ^ 1990 := Nat.pow_lt_pow_right (by decide) (by decide)
    have l3 : 2 ^ 620 < 2 ^ 1990 := Nat.pow_lt_pow_right (by decide) (by decide)
    have l4 : 2 ^ 2000 = 1024 * 2 ^ 1990 := by rw [show 2000 = 10 + 1990 from rfl, Nat.pow_add]
    omega
  have hn : e.n.toNat < 2 ^ 110 := by
    have := z.n0
    have := z.n1
    omega
  have h2 : e.n.toNat * 2 ^ 2000 ≤ 2 ^ 110 * 2 ^ 2000 := Nat.mul_le_mul_right _ (by omega)
  rw [← Nat.pow_add] at h2
  have l : 2 ^ (110 + 2000) < 2 ^ 2200 := Nat.pow_lt_pow_right (by decide) (by decide)
  show Int.natAbs _ < 2 ^ 2200
  omega
/-- an entry by a value -/
def EntA (F : Hp) (v : V) (e : Ent) : Prop := ∃ p s, v = .ref p ∧ F p = some (.tup [.ref s, .int e.k, .int e.n, .int e.t]) ∧ F s = some (.tup [.int e.a, .int e.b, .int e.m])
theorem EntA.ex {F F' : Hp} {v : V} {e : Ent} (h : EntA F v e) (x : Ex F F') : EntA F' v e := by
  obtain ⟨p, s, e1, h1, h2⟩ := h
  exact ⟨p, s, e1, x _ _ h1, x _ _ h2⟩
def EntsA (F : Hp) : List V → List Ent → Prop
  | [], [] => True
  | v :: vs, e :: es => EntA F v e ∧ EntsA F vs es
  | _, _ => False
theorem EntsA.ex {F F' : Hp} (x : Ex F F') : ∀ {vs : List V} {es : List Ent}, EntsA F vs es → EntsA F' vs es
  | [], [], _ => trivial
  | _ :: _, _ :: _, ⟨h, r⟩ => ⟨h.ex x, EntsA.ex x r⟩
  | [], _ :: _, h => h.elim
  | _ :: _, [], h => h.elim
theorem EntsA.len {F : Hp} : ∀ {vs : List V} {es : List Ent}, EntsA F vs es → vs.length = es.length
  | [], [], _ => rfl
  | _ :: _, _ :: _, ⟨_, r⟩ => by rw [List.length_cons, List.length_cons, EntsA.len r]
  | [], _ :: _, h => h.elim
  | _ :: _, [], h => h.elim
theorem EntsA.get {F : Hp} : ∀ {vs : List V} {es : List Ent} {i : Nat} {v : V}, EntsA F vs es → vs[i]? = some v → ∃ e, es[i]? = some e ∧ EntA F v e
  | _ :: _, e :: _, 0, _, ⟨h, _⟩, g => ⟨e, rfl, by cases g; exact h⟩
  | _ :: _, _ :: _, i + 1, _, ⟨_, h⟩, g => EntsA.get (i := i) h g
  | [], _, _, _, _, g => by simp at g
  | _ :: _, [], _, _, h, _ => h.elim
theorem EntsA.app {F : Hp} : ∀ {vs us : List V} {es fs : List Ent}, EntsA F vs es → EntsA F us fs → EntsA F (vs ++ us) (es ++ fs)
  | [], _, [], _, _, h => h
  | _ :: _, _, _ :: _, _, ⟨h, r⟩, h' => ⟨h, EntsA.app r h'⟩
  | [], _, _ :: _, _, h, _ => h.elim
  | _ :: _, _, [], _, h, _ => h.elim
theorem EntsA.take {F : Hp} : ∀ {vs : List V} {es : List Ent} (i : Nat), EntsA F vs es → EntsA F (vs.take i) (es.take i)
  | _, _, 0, _ => trivial
  | [], [], _ + 1, _ => trivial
  | _ :: _, _ :: _, i + 1, ⟨h, r⟩ => ⟨h, EntsA.take i r⟩
  | [], _ :: _, _ + 1, h => h.elim
  | _ :: _, [], _ + 1, h => h.elim
theorem EntsA.drop {F : Hp} : ∀ {vs : List V} {es : List Ent} (i : Nat), EntsA F vs es → EntsA F (vs.drop i) (es.drop i)
  | _, _, 0, h => h
  | [], [], _ + 1, _ => trivial
  | _ :: _, _ :: _, i + 1, ⟨_, r⟩ => EntsA.drop i r
  | [], _ :: _, _ + 1, h => h.elim
  | _ :: _, [], _ + 1, h => h.elim
def KeptA (F : Hp) (l : Addr) (es : List Ent) : Prop := ∃ vs, F l = some (.lst vs) ∧ EntsA F vs es
theorem KeptA.ex {F F' : Hp} {l : Addr} {es : List Ent} (h : KeptA F l es) (x : Ex F F') : KeptA F' l es := by
  obtain ⟨vs, h1, h2⟩ := h
  exact ⟨vs, x _ _ h1, h2.ex x⟩
/-- what was ahead -/
def HisA (F : Hp) : List V → List (List Ent) → Prop
  | [], [] => True
  | v :: vs, es :: hs => (∃ t l, v = .ref t ∧ F t = some (.tup [.ref l, .int (wL es)]) ∧ KeptA F l es) ∧ HisA F vs hs
  | _, _ => False
theorem HisA.ex {F F' : Hp} (x : Ex F F') : ∀ {vs : List V} {hs : List (List Ent)}, HisA F vs hs → HisA F' vs hs
  | [], [], _ => trivial
  | _ :: _, _ :: _, ⟨⟨t, l, e, h, k⟩, r⟩ => ⟨⟨t, l, e, x _ _ h, k.ex x⟩, HisA.ex x r⟩
  | [], _ :: _, h => h.elim
  | _ :: _, [], h => h.elim
theorem HisA.len {F : Hp} : ∀ {vs : List V} {hs : List (List Ent)}, HisA F vs hs → vs.length = hs.length
  | [], [], _ => rfl
  | _ :: _, _ :: _, ⟨_, r⟩ => by rw [List.length_cons, List.length_cons, HisA.len r]
  | [], _ :: _, h => h.elim
  | _ :: _, [], h => h.elim
theorem HisA.app {F : Hp} : ∀ {vs us : List V} {hs ks : List (List Ent)}, HisA F vs hs → HisA F us ks → HisA F (vs ++ us) (hs ++ ks)
  | [], _, [], _, _, h => h
  | _ :: _, _, _ :: _, _, ⟨h, r⟩, h' => ⟨h, HisA.app r h'⟩
  | [], _, _ :: _, _, h, _ => h.elim
  | _ :: _, _, [], _, h, _ => h.elim
theorem HisA.last {F : Hp} : ∀ {vs : List V} {hs : List (List Ent)} {es : List Ent}, HisA F vs (hs ++ [es]) → ∃ us t l, vs = us ++ [.ref t] ∧ HisA F us hs ∧ F t = some (.tup [.ref l, .int (wL es)]) ∧ KeptA F l es
  | [], [], _, h => h.elim
  | [], _ :: _, _, h => h.elim
  | [v], [], _, ⟨⟨t, l, e, h, k⟩, _⟩ => ⟨[], t, l, by rw [e]; rfl, trivial, h, k⟩
  | _ :: _ :: _, [], _, ⟨_, h⟩ => h.elim
  | v :: vs, k :: hs, es, ⟨h, r⟩ => by
    obtain ⟨us, t, l, e, h1, h2, h3⟩ := HisA.last (hs := hs) r
    exact ⟨v :: us, t, l, by rw [e]; rfl, ⟨h, h1⟩, h2, h3⟩
/-- the part F of the heap never changes -/
structure Fz (F H : Hp) (p fl : Addr) : Prop where
  sub : Ex F H
  np : F p = none
  nf : F fl = none
/-- F has grown by what was new -/
structure Gr (F H F' : Hp) : Prop where
  ex : Ex F F'
  eq : ∀ a o, H a = some o → F' a = F a
theorem Gr.refl {F H : Hp} : Gr F H F := ⟨Ex.refl, fun _ _ _ => rfl⟩
theorem Gr.add {F H : Hp} {q : Addr} {o : HO} (e : Ex F H) (n : H q = none) : Gr F H (upd F q o) :=
  ⟨Ex.new (free_back e n), fun a u h => upd_ne (ne_of_none h n)⟩
theorem Gr.trans {F H F1 H1 F2 : Hp} (a : Gr F H F1) (b : Gr F1 H1 F2) (k : ∀ a o, H a = some o → ∃ o', H1 a = some o') : Gr F H F2 :=
  ⟨a.ex.trans b.ex, fun x o h => by
    obtain ⟨o', h'⟩ := k x o h
    rw [b.eq x o' h', a.eq x o h]⟩
theorem Gr.tr {F H F1 H1 F2 : Hp} (a : Gr F H F1) (b : Gr F1 H1 F2) (k : Ex H H1) : Gr F H F2 := a.trans b fun x o h => ⟨o, k _ _ h⟩
theorem Gr.none {F H F' : Hp} {a : Addr} {o : HO} (g : Gr F H F') (h : H a = some o) (n : F a = none) : F' a = none := by rw [g.eq a o h, n]
/-- a ledger at p, its entries es, what was ahead hs -/
structure LgAt (C : Addr) (F H : Hp) (p fl : Addr) (es : List Ent) (hs : List (List Ent)) : Prop where
  ob : ∃ dx kl, H p = some (.ins C dx (fs_Ledger (.ref kl) (.int (wL es)) (.ref fl))) ∧ KeptA F kl es
  fo : ∃ us, H fl = some (.lst us) ∧ HisA F us hs
theorem LgAt.grow {C : Addr} {F F' H H' : Hp} {p fl : Addr} {es : List Ent} {hs : List (List Ent)} (L : LgAt C F H p fl es hs) (e : Ex H H') (f : Ex F F') : LgAt C F' H' p fl es hs := by
  obtain ⟨⟨dx, kl, h1, h2⟩, us, h3, h4⟩ := L
  exact ⟨⟨dx, kl, e _ _ h1, h2.ex f⟩, us, e _ _ h3, h4.ex f⟩
theorem LgAt.ex {C : Addr} {F H H' : Hp} {p fl : Addr} {es : List Ent} {hs : List (List Ent)} (L : LgAt C F H p fl es hs) (e : Ex H H') : LgAt C F H' p fl es hs := L.grow e Ex.refl
theorem cut_fromN (xs : List V) {i : Int} (h0 : 0 ≤ i) (h : i ≤ xs.length) : cutV xs (some i) none = xs.drop i.toNat := by
  have e1 : HT.sIx xs.length 0 (some i) = i.toNat := by
    show (if i < 0 then (i + (xs.length : Int)).toNat else min i.toNat xs.length) = _
    rw [if_neg (by omega)]
    omega
  have e2 : HT.sIx xs.length xs.length none = xs.length := rfl
  unfold cutV
  rw [e1, e2, List.take_of_length_le (by rw [List.length_drop]; omega)]
theorem cut_toN (xs : List V) {i : Int} (h0 : 0 ≤ i) (h : i ≤ xs.length) : cutV xs none (some i) = xs.take i.toNat := by
  unfold cutV
  have e1 : HT.sIx xs.length 0 none = 0 := rfl
  have e2 : HT.sIx xs.length xs.length (some i) = i.toNat := by
    show (if i < 0 then (i + (xs.length : Int)).toNat else min i.toNat xs.length) = _
    rw [if_neg (by omega)]
    omega
  rw [e1, e2]
  rfl
theorem r_atN {K : PySem.W.Frag} {H : Hp} {Q : VK} {p : Addr} {xs : List V} {i : Int} {v : V} (h : SqL K H p xs) (i0 : 0 ≤ i) (g : xs[i.toNat]? = some v) (k : Q v H) : rIxL K (.ref p) (.int i) H Q :=
  r_ixL h (at_of (j := i.toNat) (by omega) g) k
/-- what is new joins the part that never changes -/
theorem Fz.add {F H H' : Hp} {p fl q : Addr} {o : HO} (Z : Fz F H p fl) (n : H q = none) (e : Ex H H') (h : H' q = some o) (np : q ≠ p) (nf : q ≠ fl) : Fz (upd F q o) H' p fl := by
  refine ⟨fun a u ha => ?_, ?_, ?_⟩
  · by_cases z : a = q
    · subst z
      rw [upd_same] at ha
      rw [← ha]
      exact h
    · rw [upd_ne z] at ha
      exact e _ _ (Z.sub _ _ ha)
  · rw [upd_ne np.symm]
    exact Z.np
  · rw [upd_ne nf.symm]
    exact Z.nf
/-- an entry with other times -/
def Ent.times (e : Ent) (t : Int) : Ent := { e with t := t }
theorem EntZ.times {e : Ent} (z : EntZ e) {t : Int} (zt : Sz 620 t) : EntZ (e.times t) := ⟨z.m0, z.za, z.zb, z.zm, z.zk, z.n0, z.n1, zt⟩
def AllZ (es : List Ent) : Prop := ∀ e ∈ es, EntZ e
theorem AllZ.at {es : List Ent} {i : Nat} {e : Ent} (h : AllZ es) (g : es[i]? = some e) : EntZ e := h e (List.mem_of_getElem? g)
/-! entries as data -/
def entD (e : Ent) : PyData := .tuple [.tuple [.int e.a, .int e.b, .int e.m], .int e.k, .int e.n, .int e.t]
def keptD (es : List Ent) : PyData := .list (es.map entD)
def hisD (es : List Ent) : PyData := .tuple [keptD es, .int (wL es)]
theorem dp_ent {K : PySem.W.Frag} {F : Hp} {v : V} {e : Ent} (h : EntA F v e) : Dp K F v (entD e) := by
  obtain ⟨p, s, rfl, h1, h2⟩ := h
  exact .tup (SqT.of h1) (.cons (.tup (SqT.of h2) (dp_ints [e.a, e.b, e.m])) (dp_ints [e.k, e.n, e.t]))
theorem dp_ents {K : PySem.W.Frag} {F : Hp} : ∀ {vs : List V} {es : List Ent}, EntsA F vs es → DpAll K F vs (es.map entD)
  | [], [], _ => .nil
  | _ :: _, _ :: _, ⟨h, r⟩ => .cons (dp_ent h) (dp_ents r)
  | [], _ :: _, h => h.elim
  | _ :: _, [], h => h.elim
theorem dp_his {K : PySem.W.Frag} {F : Hp} : ∀ {vs : List V} {hs : List (List Ent)}, HisA F vs hs → DpAll K F vs (hs.map hisD)
  | [], [], _ => .nil
  | _ :: _, es :: _, ⟨⟨t, l, e, h, us, k1, k2⟩, r⟩ => by
    subst e
    exact .cons (.tup (SqT.of h) (.cons (.lst (SqL.of k1) (dp_ents k2)) (dp_ints [wL es]))) (dp_his r)
  | [], _ :: _, h => h.elim
  | _ :: _, [], h => h.elim
theorem lay_ents : ∀ es : List Ent, PyData.canLayAll0 (es.map entD) = true
  | [] => rfl
  | e :: es => by
    show (PyData.canLay0 (entD e) && PyData.canLayAll0 (es.map entD)) = true
    rw [lay_ents es, Bool.and_true]
    rfl
theorem dep_ents : ∀ es : List Ent, PyData.depthAll (es.map entD) ≤ 3
  | [] => Nat.zero_le _
  | e :: es => by
    show max (PyData.depth (entD e)) (PyData.depthAll (es.map entD)) ≤ 3
    have h1 : PyData.depth (entD e) ≤ 3 := by
      unfold entD
      simp [PyData.depth, PyData.depthAll]
    have := dep_ents es
    omega
theorem lay_his : ∀ hs : List (List Ent), PyData.canLayAll0 (hs.map hisD) = true
  | [] => rfl
  | es :: hs => by
    show (PyData.canLay0 (hisD es) && PyData.canLayAll0 (hs.map hisD)) = true
    rw [lay_his hs, Bool.and_true]
    show (PyData.canLay0 (keptD es) && (PyData.canLay0 (.int (wL es)) && true)) = true
    have h1 : PyData.canLay0 (keptD es) = true := by
      unfold keptD PyData.canLay0
      exact lay_ents es
    rw [h1]
    rfl
theorem dep_his : ∀ hs : List (List Ent), PyData.depthAll (hs.map hisD) ≤ 5
  | [] => Nat.zero_le _
  | es :: hs => by
    show max (PyData.depth (hisD es)) (PyData.depthAll (hs.map hisD)) ≤ 5
    have h1 : PyData.depth (hisD es) ≤ 5 := by
      have := dep_ents es
      unfold hisD keptD
      simp only [PyData.depth, PyData.depthAll]
      omega
    have := dep_his hs
    omega
theorem shp_ents (es : List Ent) : SeqAt.shaped (.list (es.map entD)) = true := by
  unfold SeqAt.shaped
  rw [Bool.and_eq_true]
  refine ⟨?_, decide_eq_true ?_⟩
  · unfold PyData.canLay0
    exact lay_ents es
  · unfold PyData.depth
    have := dep_ents es
    omega
theorem shp_his (hs : List (List Ent)) : SeqAt.shaped (.list (hs.map hisD)) = true := by
  unfold SeqAt.shaped
  rw [Bool.and_eq_true]
  refine ⟨?_, decide_eq_true ?_⟩
  · unfold PyData.canLay0
    exact lay_his hs
  · unfold PyData.depth
    have := dep_his hs
    omega
theorem eqv_ent (e f : Ent) : PyData.eqv (entD e) (entD f) = decide (e = f) := by
  have h1 : PyData.eqv (entD e) (entD f) = (PyData.eqv (.tuple ([e.a, e.b, e.m].map PyData.int)) (.tuple ([f.a, f.b, f.m].map PyData.int)) && PyData.eqvAll ([e.k, e.n, e.t].map PyData.int) ([f.k, f.n, f.t].map PyData.int)) := rfl
  rw [h1, eqvT, eqv_ints]
  obtain ⟨a, b, m, k, n, t⟩ := e
  obtain ⟨a', b', m', k', n', t'⟩ := f
  by_cases h : (⟨a, b, m, k, n, t⟩ : Ent) = ⟨a', b', m', k', n', t'⟩
  · cases h
    rw [decide_eq_true rfl, decide_eq_true rfl, decide_eq_true rfl]
    rfl
  · rw [decide_eq_false h]
    by_cases h2 : [a, b, m] = [a', b', m']
    · have h3 : ¬ [k, n, t] = [k', n', t'] := fun z => h (by
        injection h2 with h4 h5
        injection h5 with h5 h6
        injection h6 with h6 _
        injection z with z1 z2
        injection z2 with z2 z3
        injection z3 with z3 _
        subst h4 h5 h6 z1 z2 z3
        rfl)
      rw [decide_eq_false h3, Bool.and_false]
    · rw [decide_eq_false h2, Bool.false_and]
theorem eqv_ents : ∀ xs ys : List Ent, PyData.eqvAll (xs.map entD) (ys.map entD) = decide (xs = ys)
  | [], [] => by rw [decide_eq_true rfl]; rfl
  | [], y :: ys => by rw [decide_eq_false (by intro h; cases h)]; rfl
  | x :: xs, [] => by rw [decide_eq_false (by intro h; cases h)]; rfl
  | x :: xs, y :: ys => by
    show (PyData.eqv (entD x) (entD y) && PyData.eqvAll (xs.map entD) (ys.map entD)) = _
    rw [eqv_ents xs ys, eqv_ent]
    by_cases h : x = y
    · subst h
      by_cases h2 : xs = ys
      · subst h2
        rw [decide_eq_true rfl, decide_eq_true rfl, decide_eq_true rfl]
        rfl
      · rw [decide_eq_false h2, decide_eq_false (fun z => h2 (List.cons.inj z).2), Bool.and_false]
    · rw [decide_eq_false h, decide_eq_false (fun z => h (List.cons.inj z).1), Bool.false_and]
theorem eqv_entL (xs ys : List Ent) : PyData.eqv (.list (xs.map entD)) (.list (ys.map entD)) = decide (xs = ys) := by
  unfold PyData.eqv
  exact eqv_ents xs ys
section
variable {K : PySem.W.Frag} {H : Hp} {Q : VK} {p q : Addr} {vs us : List V} {xs ys : List Ent}
theorem r_neE (h : H p = some (.lst vs)) (h1 : EntsA H vs xs) (h' : H q = some (.lst us)) (h2 : EntsA H us ys) (k : Q (.bl (!decide (xs = ys))) H) : rNeD K (.ref p) (.ref q) H Q :=
  r_neD (.lst (SqL.of h) (dp_ents h1)) (.lst (SqL.of h') (dp_ents h2)) (shp_ents _) (shp_ents _) (by rw [eqv_entL]; exact k)
theorem r_eqE (h : H p = some (.lst vs)) (h1 : EntsA H vs xs) (h' : H q = some (.lst us)) (h2 : EntsA H us ys) (k : Q (.bl (decide (xs = ys))) H) : rEqD K (.ref p) (.ref q) H Q :=
  r_eqD (.lst (SqL.of h) (dp_ents h1)) (.lst (SqL.of h') (dp_ents h2)) (shp_ents _) (shp_ents _) (by rw [eqv_entL]; exact k)
/-- a list that is not empty, and the empty list -/
theorem r_eqNil {ds : List PyData} (h : SqL K H p vs) (h' : SqL K H q []) (dp : DpAll K H vs ds) (sh : SeqAt.shaped (.list ds) = true) (ne : vs ≠ []) (k : Q (.bl false) H) : rEqD K (.ref p) (.ref q) H Q := by
  refine r_eqD (.lst h dp) (.lst h' .nil) sh (by rfl) ?_
  cases dp with
  | nil => exact (ne rfl).elim
  | cons _ _ => exact k
end

def sp_Ledger___init__ (_ : PySem.W.Frag) (C : Addr) : Sp := fun vs H Q _ => ∃ (x dx : Addr) (F : Hp), vs = [.ref x] ∧ H x = some (.ins C dx []) ∧ Ex F H ∧ F x = none ∧
  ∀ fl F' H', H fl = none → Kp x H H' → Gr F H F' → Fz F' H' x fl → LgAt C F' H' x fl [] [] → Q .non H'
theorem use_Ledger___init__ {K : PySem.W.Frag} {C : Addr} {H : Hp} {Q : VK} {E : XK} {x dx : Addr} {F : Hp} (hx : H x = some (.ins C dx [])) (eF : Ex F H) (nF : F x = none) (q : ∀ fl F' H', H fl = none → Kp x H H' → Gr F H F' → Fz F' H' x fl → LgAt C F' H' x fl [] [] → Q .non H') : sp_Ledger___init__ K C [.ref x] H Q E := ⟨x, dx, F, rfl, hx, eF, nF, q⟩
abbrev s_Ledger___init__ : Stmt := inClass (topS 24) 0
abbrev nm_Ledger___init__ : List Str := ["self"]
theorem sc_Ledger___init__ : FnScope nm_Ledger___init__ ["self"] (defScope s_Ledger___init__) := ⟨rfl, rfl, rfl, by decide +kernel, rfl, by decide +kernel, by decide +kernel⟩
theorem st_Ledger___init__ {v0 : V} : start nm_Ledger___init__ [v0] = [some v0] := rfl
section
variable {P : Program} {w : World} {K : PySem.W.Frag} {mg : Str → Option Value} {base : Heap}
theorem ok_Ledger___init__ {C_Ledger : Addr} (D : IniAt K C_Ledger "Ledger.__init__" s_Ledger___init__ ["self"]) (U_Ledger : TxC K mg "Ledger" C_Ledger ["kept", "now_worth", "former"]) : HasI P w K mg base CX0 2 C_Ledger ["self"] (sp_Ledger___init__ K C_Ledger) := by
  refine D.ok sc_Ledger___init__ (by rintro _ _ _ _ ⟨_, _, _, rfl, _⟩; rfl) (fun f cdv A outer s H vs Q E hr h => ?_)
  obtain ⟨cl_Ledger, mg_Ledger, n_Ledger_kept, n_Ledger_now_worth, n_Ledger_former, _⟩ := U_Ledger
  obtain ⟨x, dx, F, rfl, hx, eF, nF, q⟩ := h
  refine ⟨_, (pss_cons (ps_fld (pv 0) (pe_lst pa_nil) rfl)
      (pss_cons (ps_fld (pv 0) pe_int rfl)
      (pss_one (ps_fld (pv 0) (pe_lst pa_nil) rfl)))), ?_⟩
  rw [st_Ledger___init__]
  try dsimp only [Cx.nox, Cx.wish, Cx.blk, cx_K]
  walk_at "go"
  rename_i kl H1 n1 e1 h1
  refine r_fldW (e1.at hx) cl_Ledger n_Ledger_kept (by show 0 < 1000; decide) rfl fun H2 k2 h2 => ?_
  walk_at "go"
  refine r_fldW h2 cl_Ledger n_Ledger_now_worth (by show 1 < 1000; decide) rfl fun H3 k3 h3 => ?_
  walk_at "go"
  rename_i fl H4 n4 e4 h4
  refine r_fldW (e4.at h3) cl_Ledger n_Ledger_former (by show 2 < 1000; decide) rfl fun H5 k5 h5 => ?_
  walk_at "go"
  rw [mk_Ledger] at h5
  have kx : kl ≠ x := (ne_of_none hx n1).symm
  have fx : fl ≠ x := fun z => by
    rw [z, h3] at n4
    cases n4
  have k23 := k2.trans k3
  have hk3 := k23 _ _ kx h1
  have kf : kl ≠ fl := ne_of_none hk3 n4
  have nfl : H fl = none := by
    cases hl : H fl with
    | none => rfl
    | some o =>
      rw [k23 _ _ fx (e1.at hl)] at n4
      cases n4
  have Fk : upd F kl (.lst []) kl = some (.lst []) := upd_same
  refine q fl (upd F kl (.lst [])) H5 nfl ((e1.kp.trans k23).trans (e4.kp.trans k5)) (Gr.add eF n1) ⟨fun a o h => ?_, ?_, ?_⟩ ⟨⟨dx, kl, h5, [], Fk, trivial⟩, [], k5 _ _ fx h4, trivial⟩
  · by_cases z : a = kl
    · subst z
      rw [upd_same] at h
      rw [← h]
      exact k5 _ _ kx (e4.at hk3)
    · rw [upd_ne z] at h
      have ax : a ≠ x := ne_of_none h nF
      exact k5 _ _ ax (e4.at (k23 _ _ ax (e1.at (eF _ _ h))))
  · rw [upd_ne kx.symm]
    exact nF
  · rw [upd_ne kf.symm]
    exact free_back eF nfl

end
/-! things of any kind -/
def isW : V → Bool
  | .int _ => true
  | _ => false
/-- a thing by its kind -/
def Kd1 (H : Hp) (v : V) : Prop := (∃ i, v = .int i) ∨ (∃ b, v = .bl b) ∨ v = .non ∨ (∃ z, v = .str z) ∨ (∃ p xs, v = .ref p ∧ H p = some (.lst xs)) ∨ ∃ p xs, v = .ref p ∧ H p = some (.tup xs)
theorem Kd1.ex {H H' : Hp} {v : V} (h : Kd1 H v) (e : Ex H H') : Kd1 H' v := by
  rcases h with h | h | h | h | ⟨p, xs, h1, h2⟩ | ⟨p, xs, h1, h2⟩
  · exact .inl h
  · exact .inr (.inl h)
  · exact .inr (.inr (.inl h))
  · exact .inr (.inr (.inr (.inl h)))
  · exact .inr (.inr (.inr (.inr (.inl ⟨p, xs, h1, e _ _ h2⟩))))
  · exact .inr (.inr (.inr (.inr (.inr ⟨p, xs, h1, e _ _ h2⟩))))
def stB : List V → Bool
  | [.int _, .int _, .int m] => decide (1 ≤ m)
  | _ => false
section
variable {K : PySem.W.Frag} {H : Hp} {Q : VK}
theorem r_isi {x : V} {t : Value} {n : String} {b : Bool} (ty : TyOf K H x t) (e : PySem.W.kitOne K t (.type n) = some b) (k : Q (.bl b) H) : rIsi K [x, .ty n] H Q := ⟨_, _, _, _, _, rfl, .ty _, .base ty, e, k⟩
end
/-- what is no stair -/
def NoSt (H : Hp) (v : V) : Prop := (∃ p xs, v = .ref p ∧ H p = some (.tup xs) ∧ xs.length ≤ 1000 ∧ (∀ x ∈ xs, Kd1 H x) ∧ stB xs = false) ∨ (Kd1 H v ∧ ∀ p xs, v = .ref p → H p ≠ some (.tup xs))
theorem NoSt.ex {H H' : Hp} {v : V} (h : NoSt H v) (e : Ex H H') (nd : ∃ o, ∀ p, v = .ref p → H p = some o) : NoSt H' v := by
  rcases h with ⟨p, xs, h1, h2, h3, h4, h5⟩ | ⟨h1, h2⟩
  · exact .inl ⟨p, xs, h1, e _ _ h2, h3, fun x hx => (h4 x hx).ex e, h5⟩
  · refine .inr ⟨h1.ex e, fun p xs hp h' => ?_⟩
    obtain ⟨o, ho⟩ := nd
    have := ho p hp
    rw [e _ _ this] at h'
    cases h'
    exact h2 p xs hp this
theorem NoSt.up {H H' : Hp} {v : V} (h : NoSt H v) (e : Ex H H') : NoSt H' v := by
  refine h.ex e ?_
  rcases h with ⟨p, xs, h1, h2, _⟩ | ⟨h1, _⟩
  · exact ⟨_, fun q hq => by rw [h1] at hq; cases hq; exact h2⟩
  · rcases h1 with ⟨i, rfl⟩ | ⟨b, rfl⟩ | rfl | ⟨z, rfl⟩ | ⟨p, xs, h1, h2⟩ | ⟨p, xs, h1, h2⟩
    · exact ⟨.lst [], by intro p z; cases z⟩
    · exact ⟨.lst [], by intro p z; cases z⟩
    · exact ⟨.lst [], by intro p z; cases z⟩
    · exact ⟨.lst [], by intro p z; cases z⟩
    · exact ⟨_, fun q hq => by rw [h1] at hq; cases hq; exact h2⟩
    · exact ⟨_, fun q hq => by rw [h1] at hq; cases hq; exact h2⟩

def sp_is_whole (_ : PySem.W.Frag) : Sp := fun vs H Q _ => ∃ v : V, vs = [v] ∧ Kd1 H v ∧ Q (.bl (isW v)) H
theorem use_is_whole {K : PySem.W.Frag} {H : Hp} {Q : VK} {E : XK} {i : Int} (k : Q (.bl true) H) : sp_is_whole K [.int i] H Q E := ⟨.int i, rfl, .inl ⟨i, rfl⟩, k⟩
theorem use_is_wholeV {K : PySem.W.Frag} {H : Hp} {Q : VK} {E : XK} {v : V} (h : Kd1 H v) (k : Q (.bl (isW v)) H) : sp_is_whole K [v] H Q E := ⟨v, rfl, h, k⟩
abbrev s_is_whole : Stmt := topS 9
abbrev nm_is_whole : List Str := ["thing"]
theorem sc_is_whole : FnScope nm_is_whole ["thing"] (defScope s_is_whole) := ⟨rfl, rfl, rfl, by decide +kernel, rfl, by decide +kernel, by decide +kernel⟩
theorem st_is_whole {v0 : V} : start nm_is_whole [v0] = [some v0] := rfl
section
variable {P : Program} {w : World} {K : PySem.W.Frag} {mg : Str → Option Value} {base : Heap}
theorem ok_is_whole (D : DefAt K mg "is_whole" s_is_whole ["thing"]) (B_isinstance : mg "isinstance" = none) (B_int : mg "int" = none) (B_bool : mg "bool" = none) : Has P w K mg base CX0 2 "is_whole" ["thing"] (sp_is_whole K) := by
  refine D.ok sc_is_whole (by rintro _ _ _ _ ⟨_, rfl, _⟩; rfl) (fun f cdv A outer s H vs Q E hr h => ?_)
  obtain ⟨v, rfl, h, k⟩ := h
  refine ⟨_, (pss_one (ps_ret (pe_and (pe_callB call_isi (by rfl) B_isinstance (by decide +kernel) (pa_cons (pv 0) (pa_cons (pe_bltn (v := .ty "int") (by rfl) B_int (by decide +kernel) rfl) pa_nil))) (pe_one (pe_not (pe_callB call_isi (by rfl) B_isinstance (by decide +kernel) (pa_cons (pv 0) (pa_cons (pe_bltn (v := .ty "bool") (by rfl) B_bool (by decide +kernel) rfl) pa_nil)))))))), ?_⟩
  rw [st_is_whole]
  try dsimp only [Cx.nox, Cx.wish, Cx.blk, cx_K]
  rcases h with ⟨i, rfl⟩ | ⟨b, rfl⟩ | rfl | ⟨z, rfl⟩ | ⟨p, xs, rfl, hp⟩ | ⟨p, xs, rfl, hp⟩
  · walk_at "go"
    exact k
  · walk_at "go"
    refine r_isi (.bl b) (b := true) (kit_ty (by decide +kernel)) ?_
    walk_at "go"
    exact k
  · walk_at "go"
    refine r_isi .non (b := false) (kit_ty (by decide +kernel)) ?_
    walk_at "go"
    exact k
  · walk_at "go"
    refine r_isi (.str z) (b := false) (kit_ty (by decide +kernel)) ?_
    walk_at "go"
    exact k
  · walk_at "go"
    refine r_isi (.lst hp) (b := false) (kit_ty (by decide +kernel)) ?_
    walk_at "go"
    exact k
  · walk_at "go"
    refine r_isi (.tup hp) (b := false) (kit_ty (by decide +kernel)) ?_
    walk_at "go"
    exact k

end
/-- at p stands the stair (a, b, m) -/
def StAt (H : Hp) (p : Addr) (a b m : Int) : Prop := H p = some (.tup [.int a, .int b, .int m])
def sp_is_stair (_ : PySem.W.Frag) : Sp := fun vs H Q _ => ∃ v : V, vs = [v] ∧ ((∃ (p : Addr) (xs : List V), v = .ref p ∧ H p = some (.tup xs) ∧ xs.length ≤ 1000 ∧ (∀ x ∈ xs, Kd1 H x) ∧ ∀ H', Ex H H' → Q (.bl (stB xs)) H') ∨
  (Kd1 H v ∧ (∀ p xs, v = .ref p → H p ≠ some (.tup xs)) ∧ ∀ H', Ex H H' → Q (.bl false) H'))
theorem kd_ints {H : Hp} {a b m : Int} : ∀ x ∈ [V.int a, .int b, .int m], Kd1 H x := fun x hx => by
  simp only [List.mem_cons, List.not_mem_nil, or_false] at hx
  rcases hx with rfl | rfl | rfl
  all_goals exact .inl ⟨_, rfl⟩
theorem use_is_stair {K : PySem.W.Frag} {H : Hp} {Q : VK} {E : XK} {p : Addr} {a b m : Int} (h : H p = some (.tup [.int a, .int b, .int m])) (hm : 0 < m) (k : ∀ H', Ex H H' → Q (.bl true) H') : sp_is_stair K [.ref p] H Q E :=
  ⟨.ref p, rfl, .inl ⟨p, _, rfl, h, (show 3 ≤ 1000 by decide), kd_ints, fun H' e => by
    rw [show stB [V.int a, .int b, .int m] = true from decide_eq_true (show 1 ≤ m by omega)]
    exact k H' e⟩⟩
theorem use_is_stairT {K : PySem.W.Frag} {H : Hp} {Q : VK} {E : XK} {p : Addr} {xs : List V} (h : H p = some (.tup xs)) (l : xs.length ≤ 1000) (kd : ∀ x ∈ xs, Kd1 H x) (k : ∀ H', Ex H H' → Q (.bl (stB xs)) H') : sp_is_stair K [.ref p] H Q E := ⟨.ref p, rfl, .inl ⟨p, xs, rfl, h, l, kd, k⟩⟩
theorem use_is_stairN {K : PySem.W.Frag} {H : Hp} {Q : VK} {E : XK} {v : V} (h : Kd1 H v) (n : ∀ p xs, v = .ref p → H p ≠ some (.tup xs)) (k : ∀ H', Ex H H' → Q (.bl false) H') : sp_is_stair K [v] H Q E := ⟨v, rfl, .inr ⟨h, n, k⟩⟩
abbrev s_is_stair : Stmt := topS 10
abbrev nm_is_stair : List Str := ["thing", "number"]
theorem sc_is_stair : FnScope nm_is_stair ["thing"] (defScope s_is_stair) := ⟨rfl, rfl, rfl, by decide +kernel, rfl, by decide +kernel, by decide +kernel⟩
theorem st_is_stair {v0 : V} : start nm_is_stair [v0] = [some v0, none] := rfl
section
variable {P : Program} {w : World} {K : PySem.W.Frag} {mg : Str → Option Value} {base : Heap}
theorem ok_is_stair (D : DefAt K mg "is_stair" s_is_stair ["thing"]) (B_len : mg "len" = none) (B_isinstance : mg "isinstance" = none) (B_tuple : mg "tuple" = none) (B_all : mg "all" = none) (G_is_whole : Has P w K mg base CX0 2 "is_whole" ["thing"] (sp_is_whole K)) : Has P w K mg base CX0 3 "is_stair" ["thing"] (sp_is_stair K) := by
  refine D.ok sc_is_stair (by rintro _ _ _ _ ⟨_, rfl, _⟩; rfl) (fun f cdv A outer s H vs Q E hr h => ?_)
  obtain ⟨v, rfl, h⟩ := h
  refine ⟨_, (pss_cons (ps_if (PW.pt (pw_or (pt_not (pt_val (pe_callB call_isi (by rfl) B_isinstance (by decide +kernel) (pa_cons (pv 0) (pa_cons (pe_bltn (v := .ty "tuple") (by rfl) B_tuple (by decide +kernel) rfl) pa_nil))))) (pw_or1 (pt_cmpR op_ne (pe_callB cl_len (by rfl) B_len (by decide +kernel) (pa_cons (pv 0) pa_nil)) pe_int (nomark _))))) (pss_one (ps_ret pe_bl)) pss_nil)
      (pss_one (ps_ret (pe_and (pe_callB (cr_all rfl) (by rfl) B_all (by decide +kernel) (pa_cons (pe_lc rfl sc_is_stair.nd (pi_tup (pv 0)) (blkOk_by (own := [("number", 1)]) (N := nm_is_stair) (sc := defScope s_is_stair) (by decide +kernel)) (fun _ _ _ _ _ => (pg_name (i := 1) sc_is_stair.nd rfl (Or.inl rfl))) (fun _ _ _ _ _ => pts_nil) (fun _ _ _ _ _ => (pcall G_is_whole (hr.mono (by decide)) (pa_cons (pv 1) pa_nil)))) pa_nil)) (pe_one (pe_cmpR op_ge (pe_ix ix_tup (pv 0) pe_int (fun _ _ => rfl)) pe_int (nomark _))))))), ?_⟩
  rw [st_is_stair]
  try dsimp only [Cx.nox, Cx.wish, Cx.blk, cx_K]
  rcases h with ⟨p, xs, rfl, hp, lx, kd, k⟩ | ⟨kd, no, k⟩
  · walk_at "go"
    refine if_2 (fun h3 => ?_) (fun h3 => ?_)
    · have h3 : ¬ ((xs.length : Int) = 3) := fun z => by
        rw [decide_eq_true z] at h3
        cases h3
      walk_at "go"
      have e : stB xs = false := by
        unfold stB
        split
        · exact (h3 rfl).elim
        · rfl
      rw [e] at k
      exact k _ Ex.refl
    · have h3 : (xs.length : Int) = 3 := by
        cases hd : decide ((xs.length : Int) = 3) with
        | true => exact of_decide_eq_true hd
        | false =>
          rw [hd] at h3
          cases h3
      walk_at "go"
      refine lc_tupP (fun v => .bl (isW v)) (SqT.of hp) (by omega) (fun _ => rfl) (fun i x hx H1 e1 QE kE => ?_) (fun l H1 nl e1 hl => ?_)
      · walk_at "go"
        exact use_is_wholeV ((kd x (List.mem_of_getElem? hx)).ex e1) (kE _ Ex.refl)
      · walk_at "go"
        refine r_all (bs := xs.map isW) (SqL.of (by rw [hl, List.map_map]; rfl)) ?_
        have hx3 : xs.length = 3 := by omega
        match xs, hx3 with
        | [x, y, z], _ =>
          have ht := e1.at hp
          cases x with
          | int a =>
            cases y with
            | int b =>
              cases z with
              | int m =>
                walk_at "go"
                refine if_T rfl ?_
                walk_at "go"
                exact k _ e1
              | _ => exact ⟨false, rfl, if_F rfl (k _ e1)⟩
            | _ => exact ⟨false, rfl, if_F rfl (k _ e1)⟩
          | _ => exact ⟨false, rfl, if_F rfl (k _ e1)⟩
  · rcases kd with ⟨i, rfl⟩ | ⟨b, rfl⟩ | rfl | ⟨z, rfl⟩ | ⟨p, xs, rfl, hp⟩ | ⟨p, xs, rfl, hp⟩
    · walk_at "go"
      refine r_isi (.int i) (b := false) (kit_ty (by decide +kernel)) ?_
      walk_at "go"
      exact k _ Ex.refl
    · walk_at "go"
      refine r_isi (.bl b) (b := false) (kit_ty (by decide +kernel)) ?_
      walk_at "go"
      exact k _ Ex.refl
    · walk_at "go"
      refine r_isi .non (b := false) (kit_ty (by decide +kernel)) ?_
      walk_at "go"
      exact k _ Ex.refl
    · walk_at "go"
      refine r_isi (.str z) (b := false) (kit_ty (by decide +kernel)) ?_
      walk_at "go"
      exact k _ Ex.refl
    · walk_at "go"
      refine r_isi (.lst hp) (b := false) (kit_ty (by decide +kernel)) ?_
      walk_at "go"
      exact k _ Ex.refl
    · exact (no p xs rfl hp).elim

end
def sp_need_stair (_ : PySem.W.Frag) : Sp := fun vs H Q _ => ∃ (p : Addr) (a b m : Int), vs = [.ref p] ∧ H p = some (.tup [.int a, .int b, .int m]) ∧ 0 < m ∧ ∀ H', Ex H H' → Q .non H'
theorem use_need_stair {K : PySem.W.Frag} {H : Hp} {Q : VK} {E : XK} {p : Addr} {a b m : Int} (h : H p = some (.tup [.int a, .int b, .int m])) (hm : 0 < m) (k : ∀ H', Ex H H' → Q .non H') : sp_need_stair K [.ref p] H Q E := ⟨p, a, b, m, rfl, h, hm, k⟩
abbrev s_need_stair : Stmt := topS 11
abbrev nm_need_stair : List Str := ["thing"]
theorem sc_need_stair : FnScope nm_need_stair ["thing"] (defScope s_need_stair) := ⟨rfl, rfl, rfl, by decide +kernel, rfl, by decide +kernel, by decide +kernel⟩
theorem st_need_stair {v0 : V} : start nm_need_stair [v0] = [some v0] := rfl
section
variable {P : Program} {w : World} {K : PySem.W.Frag} {mg : Str → Option Value} {base : Heap}
theorem ok_need_stair (D : DefAt K mg "need_stair" s_need_stair ["thing"]) (G_is_stair : Has P w K mg base CX0 3 "is_stair" ["thing"] (sp_is_stair K)) : Has P w K mg base CX0 4 "need_stair" ["thing"] (sp_need_stair K) := by
  refine D.ok sc_need_stair (by rintro _ _ _ _ ⟨_, _, _, _, rfl, _⟩; rfl) (fun f cdv A outer s H vs Q E hr h => ?_)
  obtain ⟨p, a, b, m, rfl, hp, hm, k⟩ := h
  refine ⟨_, (pss_one (ps_if (pt_not (pt_val (pcall G_is_stair (hr.mono (by decide)) (pa_cons (pv 0) pa_nil)))) (pss_one ps_never) pss_nil)), ?_⟩
  rw [st_need_stair]
  try dsimp only [Cx.nox, Cx.wish, Cx.blk, cx_K]
  walk_at "go"
  refine use_is_stair hp hm fun H1 e1 => ?_
  walk_at "go"
  exact k _ e1

end
abbrev COUNTS_BELOW_val : Int := 1000000000000000000000000000000
def sp_need_count (_ : PySem.W.Frag) : Sp := fun vs H Q _ => ∃ (n : Int), vs = [.int n] ∧ 0 ≤ n ∧ n < 1000000000000000000000000000000 ∧ Q .non H
theorem use_need_count {K : PySem.W.Frag} {H : Hp} {Q : VK} {E : XK} {n : Int} (h0 : 0 ≤ n) (h1 : n < 1000000000000000000000000000000) (q : Q .non H) : sp_need_count K [.int n] H Q E := ⟨n, rfl, h0, h1, q⟩
abbrev s_need_count : Stmt := topS 16
abbrev nm_need_count : List Str := ["n"]
theorem sc_need_count : FnScope nm_need_count ["n"] (defScope s_need_count) := ⟨rfl, rfl, rfl, by decide +kernel, rfl, by decide +kernel, by decide +kernel⟩
theorem st_need_count {v0 : V} : start nm_need_count [v0] = [some v0] := rfl
section
variable {P : Program} {w : World} {K : PySem.W.Frag} {mg : Str → Option Value} {base : Heap}
theorem ok_need_count (D : DefAt K mg "need_count" s_need_count ["n"]) (T_COUNTS_BELOW : ∃ t, mg "COUNTS_BELOW" = some (.int COUNTS_BELOW_val t)) : Has P w K mg base CX0 2 "need_count" ["n"] (sp_need_count K) := by
  refine D.ok sc_need_count (by rintro _ _ _ _ ⟨_, rfl, _⟩; rfl) (fun f cdv A outer s H vs Q E hr h => ?_)
  obtain ⟨_, T_COUNTS_BELOW⟩ := T_COUNTS_BELOW
  obtain ⟨n, rfl, h0, h1, q⟩ := h
  refine ⟨_, (pss_one (ps_if (PW.pt (pw_or (pt_cmpR op_lt (pv 0) pe_int (nomark _)) (pw_or1 (pt_cmpR op_ge (pv 0) (pe_glob (v := .int (1000000000000000000000000000000)) rfl T_COUNTS_BELOW ⟨_, rfl⟩) (nomark _))))) (pss_one ps_never) pss_nil)), ?_⟩
  rw [st_need_count]
  try dsimp only [Cx.nox, Cx.wish, Cx.blk, cx_K]
  walk_at "go"
  exact q

end
def sp_summed (_ : PySem.W.Frag) : Sp := fun vs H Q _ => ∃ (n a b m : Int), vs = [.int n, .int a, .int b, .int m] ∧ 0 < m ∧ Sz 4000 n ∧ Sz 4000 a ∧ Sz 4000 b ∧ Sz 4000 m ∧ Q (.int (fs n.toNat a b m)) H
theorem use_summed {K : PySem.W.Frag} {H : Hp} {Q : VK} {E : XK} {n a b m : Int} (hm : 0 < m) (zn : Sz 4000 n) (za : Sz 4000 a) (zb : Sz 4000 b) (zm : Sz 4000 m) (q : Q (.int (fs n.toNat a b m)) H) : sp_summed K [.int n, .int a, .int b, .int m] H Q E := ⟨n, a, b, m, rfl, hm, zn, za, zb, zm, q⟩
theorem summed_n {n r s m : Int} (hn : 0 ≤ n) (r0 : 0 ≤ r) (r1 : r < m) (s1 : s < m) : (r * n + s) / m ≤ n := by
  have h : (r * n + s) / m < n + 1 := by
    refine (Int.ediv_lt_iff_lt_mul (by omega)).mpr ?_
    have h1 : r * n ≤ (m - 1) * n := Int.mul_le_mul_of_nonneg_right (by omega) hn
    rw [Int.sub_mul, Int.one_mul] at h1
    rw [Int.add_mul, Int.one_mul, Int.mul_comm n m]
    omega
  omega
abbrev s_summed : Stmt := topS 19
abbrev nm_summed : List Str := ["n", "a", "b", "m", "total", "top"]
theorem sc_summed : FnScope nm_summed ["n", "a", "b", "m"] (defScope s_summed) := ⟨rfl, rfl, rfl, by decide +kernel, rfl, by decide +kernel, by decide +kernel⟩
theorem st_summed {v0 v1 v2 v3 : V} : start nm_summed [v0, v1, v2, v3] = [some v0, some v1, some v2, some v3, none, none] := rfl
section
variable {P : Program} {w : World} {K : PySem.W.Frag} {mg : Str → Option Value} {base : Heap}
theorem ok_summed (D : DefAt K mg "summed" s_summed ["n", "a", "b", "m"]) : Has P w K mg base CX0 2 "summed" ["n", "a", "b", "m"] (sp_summed K) := by
  refine D.ok sc_summed (by rintro _ _ _ _ ⟨_, _, _, _, rfl, _⟩; rfl) (fun f cdv A outer s H vs Q E hr h => ?_)
  obtain ⟨n, a, b, m, rfl, hm, zn, za, zb, zm, q⟩ := h
  refine ⟨_, (pss_cons (ps_set (i := 4) sc_summed.nd rfl (Or.inl rfl) pe_int)
      (pss_cons (ps_while PassesOwn.never (pt_cmpR op_gt (pv 0) pe_int (nomark _)) (pss_cons (ps_aug (i := 4) sc_summed.nd rfl (Or.inl rfl) (pe_op op_add (pe_op op_mulX (pe_op op_fdivW (pv 1) (pv 3)) (pe_op op_fdivW (pe_op op_mulX (pv 0) (pe_op op_sub (pv 0) pe_int)) pe_int)) (pe_op op_mulX (pe_op op_fdivW (pv 2) (pv 3)) (pv 0))) ip_add)
        (pss_cons (ps_set (i := 1) sc_summed.nd rfl (Or.inl rfl) (pe_op op_mod (pv 1) (pv 3)))
        (pss_cons (ps_set (i := 5) sc_summed.nd rfl (Or.inl rfl) (pe_op op_add (pe_op op_mulX (pv 1) (pv 0)) (pe_op op_mod (pv 2) (pv 3))))
        (pss_cons (ps_par (i := 0) (j := 2) (by rfl) sc_summed.nd rfl rfl (by decide) rfl rfl (pa_cons (pe_op op_fdivW (pv 5) (pv 3)) (pa_cons (pe_op op_mod (pv 5) (pv 3)) pa_nil)) (by rfl))
        (pss_one (ps_par (i := 1) (j := 3) (by rfl) sc_summed.nd rfl rfl (by decide) rfl rfl (pa_cons (pv 3) (pa_cons (pv 1) pa_nil)) (by rfl))))))))
      (pss_one (ps_ret (pv 4))))), ?_⟩
  rw [st_summed]
  try dsimp only [Cx.nox, Cx.wish, Cx.blk, cx_K]
  walk_at "go"
  refine while_m (fun μ σ H' => H' = H ∧ ∃ (n' a' b' m' t : Int) (o : Option V), σ = [some (.int n'), some (.int a'), some (.int b'), some (.int m'), some (.int t), o] ∧ μ = m'.toNat ∧ 0 ≤ m' ∧ (0 < n' → 0 < m') ∧ Sz 4000 n' ∧ Sz 4000 a' ∧ Sz 4000 b' ∧ Sz 4000 m' ∧ t + fs n'.toNat a' b' m' = fs n.toNat a b m)
    m.toNat ⟨rfl, n, a, b, m, 0, none, rfl, rfl, by omega, fun _ => hm, zn, za, zb, zm, by omega⟩ ?_
  rintro μ σ H1 ⟨eH, n', a', b', m', t, o, rfl, rfl, m0, hnm, zn', za', zb', zm', e⟩
  walk_at "go"
  refine if_2 (fun hx => ?_) (fun hx => ?_)
  · have hx := of_decide_eq_true hx
    have mp := hnm hx
    refine r_body (fun σ H' => ∃ (n1 a1 b1 m1 t1 : Int) (o : Option V), σ = [some (.int n1), some (.int a1), some (.int b1), some (.int m1), some (.int t1), o] ∧ H' = H ∧ m1.toNat < m'.toNat ∧ 0 ≤ m1 ∧ (0 < n1 → 0 < m1) ∧ Sz 4000 n1 ∧ Sz 4000 a1 ∧ Sz 4000 b1 ∧ Sz 4000 m1 ∧ t1 + fs n1.toNat a1 b1 m1 = fs n.toNat a b m) ?_ ?_
    · rintro σ H2 ⟨n1, a1, b1, m1, t1, o, rfl, e2, lt, r⟩
      exact ⟨_, lt, e2, n1, a1, b1, m1, t1, o, rfl, rfl, r⟩
    walk_at "go"
    have r0 := Int.emod_nonneg a' (show m' ≠ 0 by omega)
    have r1 := Int.emod_lt_of_pos a' mp
    have s0 := Int.emod_nonneg b' (show m' ≠ 0 by omega)
    have s1 := Int.emod_lt_of_pos b' mp
    have hN : ((n'.toNat : Nat) : Int) = n' := by omega
    have rn : 0 ≤ a' % m' * n' := Int.mul_nonneg r0 (by omega)
    have y0 : 0 ≤ (a' % m' * n' + b' % m') / m' := Int.ediv_nonneg (by omega) (by omega)
    have y1 := summed_n (n := n') (by omega) r0 r1 s1
    refine ⟨_, _, _, _, _, _, rfl, eH, by omega, r0, fun yp => ?_, zn'.le (by omega) (by omega), zm', Sz.mod zm' mp, Sz.mod zm' mp, ?_⟩
    · by_cases z : a' % m' = 0
      · rw [z, Int.zero_mul, Int.zero_add, Int.ediv_eq_zero_of_lt s0 s1] at yp
        omega
      · omega
    · rw [← e, fs_loop n'.toNat a' b' mp, hN]
      omega
  · have hx := of_decide_eq_false hx
    walk_at "go"
    have e0 : n'.toNat = 0 := by omega
    rw [e0, fs_zero] at e
    rw [show t = fs n.toNat a b m by omega, eH]
    exact q

end
def sp_summed_from (_ : PySem.W.Frag) : Sp := fun vs H Q _ => ∃ (p : Addr) (a b m k n : Int), vs = [.ref p, .int k, .int n] ∧ H p = some (.tup [.int a, .int b, .int m]) ∧ 0 < m ∧ Sz 1300 a ∧ Sz 1300 b ∧ Sz 4000 m ∧ Sz 1300 k ∧ Sz 4000 n ∧ Q (.int (fs n.toNat a (a * k + b) m)) H
theorem use_summed_from {K : PySem.W.Frag} {H : Hp} {Q : VK} {E : XK} {p : Addr} {a b m k n : Int} (h : H p = some (.tup [.int a, .int b, .int m])) (hm : 0 < m) (za : Sz 1300 a) (zb : Sz 1300 b) (zm : Sz 4000 m) (zk : Sz 1300 k) (zn : Sz 4000 n) (q : Q (.int (fs n.toNat a (a * k + b) m)) H) : sp_summed_from K [.ref p, .int k, .int n] H Q E :=
  ⟨p, a, b, m, k, n, rfl, h, hm, za, zb, zm, zk, zn, q⟩
abbrev s_summed_from : Stmt := topS 20
abbrev nm_summed_from : List Str := ["stair", "k", "n", "a", "b", "m"]
theorem sc_summed_from : FnScope nm_summed_from ["stair", "k", "n"] (defScope s_summed_from) := ⟨rfl, rfl, rfl, by decide +kernel, rfl, by decide +kernel, by decide +kernel⟩
theorem st_summed_from {v0 v1 v2 : V} : start nm_summed_from [v0, v1, v2] = [some v0, some v1, some v2, none, none, none] := rfl
section
variable {P : Program} {w : World} {K : PySem.W.Frag} {mg : Str → Option Value} {base : Heap}
theorem ok_summed_from (D : DefAt K mg "summed_from" s_summed_from ["stair", "k", "n"]) (G_summed : Has P w K mg base CX0 2 "summed" ["n", "a", "b", "m"] (sp_summed K)) : Has P w K mg base CX0 3 "summed_from" ["stair", "k", "n"] (sp_summed_from K) := by
  refine D.ok sc_summed_from (by rintro _ _ _ _ ⟨_, _, _, _, _, _, rfl, _⟩; rfl) (fun f cdv A outer s H vs Q E hr h => ?_)
  obtain ⟨p, a, b, m, k, n, rfl, hp, hm, za, zb, zm, zk, zn, q⟩ := h
  refine ⟨_, (pss_cons (ps_asg (pv 0) (pg_tup (by rfl) (pgs_cons (pg_name (i := 3) sc_summed_from.nd rfl (Or.inl rfl)) (pgs_cons (pg_name (i := 4) sc_summed_from.nd rfl (Or.inl rfl)) (pgs_cons (pg_name (i := 5) sc_summed_from.nd rfl (Or.inl rfl)) pgs_nil)))))
      (pss_one (ps_ret (pcall G_summed (hr.mono (by decide)) (pa_cons (pv 2) (pa_cons (pv 3) (pa_cons (pe_op op_add (pe_op op_mulX (pv 3) (pv 1)) (pv 4)) (pa_cons (pv 5) pa_nil)))))))), ?_⟩
  rw [st_summed_from]
  try dsimp only [Cx.nox, Cx.wish, Cx.blk, cx_K]
  walk_at "go"
  have zb' : Sz 3901 (a * k + b) := (za.mul zk).add zb
  refine use_summed hm zn (za.mono (by decide)) (zb'.mono (by decide)) zm ?_
  exact q

end
def sp_worth_of (_ : PySem.W.Frag) : Sp := fun vs H Q _ => ∃ (v : V) (e : Ent), vs = [v] ∧ EntA H v e ∧ EntZ e ∧ Q (.int (wE e)) H
theorem use_worth_of {K : PySem.W.Frag} {H : Hp} {Q : VK} {E : XK} {v : V} {e : Ent} (h : EntA H v e) (z : EntZ e) (q : Q (.int (wE e)) H) : sp_worth_of K [v] H Q E := ⟨v, e, rfl, h, z, q⟩
abbrev s_worth_of : Stmt := topS 23
abbrev nm_worth_of : List Str := ["entry", "stair", "k", "n", "times"]
theorem sc_worth_of : FnScope nm_worth_of ["entry"] (defScope s_worth_of) := ⟨rfl, rfl, rfl, by decide +kernel, rfl, by decide +kernel, by decide +kernel⟩
theorem st_worth_of {v0 : V} : start nm_worth_of [v0] = [some v0, none, none, none, none] := rfl
section
variable {P : Program} {w : World} {K : PySem.W.Frag} {mg : Str → Option Value} {base : Heap}
theorem ok_worth_of (D : DefAt K mg "worth_of" s_worth_of ["entry"]) (G_summed_from : Has P w K mg base CX0 3 "summed_from" ["stair", "k", "n"] (sp_summed_from K)) : Has P w K mg base CX0 4 "worth_of" ["entry"] (sp_worth_of K) := by
  refine D.ok sc_worth_of (by rintro _ _ _ _ ⟨_, _, rfl, _⟩; rfl) (fun f cdv A outer s H vs Q E hr h => ?_)
  obtain ⟨v, e, rfl, ⟨p, s, rfl, hp, hs⟩, z, q⟩ := h
  have zt := z.zt
  have zf := z.zf
  refine ⟨_, (pss_cons (ps_asg (pv 0) (pg_tup (by rfl) (pgs_cons (pg_name (i := 1) sc_worth_of.nd rfl (Or.inl rfl)) (pgs_cons (pg_name (i := 2) sc_worth_of.nd rfl (Or.inl rfl)) (pgs_cons (pg_name (i := 3) sc_worth_of.nd rfl (Or.inl rfl)) (pgs_cons (pg_name (i := 4) sc_worth_of.nd rfl (Or.inl rfl)) pgs_nil))))))
      (pss_one (ps_ret (pe_op op_mulX (pv 4) (pcall G_summed_from (hr.mono (by decide)) (pa_cons (pv 1) (pa_cons (pv 2) (pa_cons (pv 3) pa_nil)))))))), ?_⟩
  rw [st_worth_of]
  try dsimp only [Cx.nox, Cx.wish, Cx.blk, cx_K]
  walk_at "go"
  refine use_summed_from hs z.m0 (z.za.mono (by decide)) (z.zb.mono (by decide)) (z.zm.mono (by decide)) (z.zk.mono (by decide)) ((sz_n z.n0 z.n1).mono (by decide)) ?_
  walk_at "go"
  exact q

end
def sp_Ledger_become (_ : PySem.W.Frag) (C : Addr) : Sp := fun vs H Q _ => ∃ (p fl kl : Addr) (F : Hp) (es es' : List Ent) (hs : List (List Ent)), vs = [.ref p, .ref kl, .int (wL es')] ∧ LgAt C F H p fl es hs ∧ Fz F H p fl ∧ KeptA F kl es' ∧ hs.length ≤ 50000 ∧
  ∀ F' H', Gr F H F' → Kq [p, fl] H H' → Fz F' H' p fl → LgAt C F' H' p fl es' (hs ++ [es]) → Q (.int (wL es')) H'
theorem use_Ledger_become {K : PySem.W.Frag} {C : Addr} {H : Hp} {Q : VK} {E : XK} {p fl kl : Addr} {F : Hp} {es es' : List Ent} {hs : List (List Ent)} (L : LgAt C F H p fl es hs) (Z : Fz F H p fl) (k : KeptA F kl es') (lh : hs.length ≤ 50000)
  (q : ∀ F' H', Gr F H F' → Kq [p, fl] H H' → Fz F' H' p fl → LgAt C F' H' p fl es' (hs ++ [es]) → Q (.int (wL es')) H') : sp_Ledger_become K C [.ref p, .ref kl, .int (wL es')] H Q E := ⟨p, fl, kl, F, es, es', hs, rfl, L, Z, k, lh, q⟩
abbrev s_Ledger_become : Stmt := inClass (topS 24) 1
abbrev nm_Ledger_become : List Str := ["self", "kept", "total"]
theorem sc_Ledger_become : FnScope nm_Ledger_become ["self", "kept", "total"] (defScope s_Ledger_become) := ⟨rfl, rfl, rfl, by decide +kernel, rfl, by decide +kernel, by decide +kernel⟩
theorem st_Ledger_become {v0 v1 v2 : V} : start nm_Ledger_become [v0, v1, v2] = [some v0, some v1, some v2] := rfl
section
variable {P : Program} {w : World} {K : PySem.W.Frag} {mg : Str → Option Value} {base : Heap}
theorem ok_Ledger_become {C_Ledger : Addr} (D : MetAt K C_Ledger "become" "Ledger.become" s_Ledger_become ["self", "kept", "total"]) (U_Ledger : TxC K mg "Ledger" C_Ledger ["kept", "now_worth", "former"]) : HasM P w K mg base CX0 2 C_Ledger "become" ["self", "kept", "total"] (sp_Ledger_become K C_Ledger) := by
  refine D.ok sc_Ledger_become (by rintro _ _ _ _ ⟨_, _, _, _, _, _, _, rfl, _⟩; rfl) (fun f cdv A outer s H vs Q E hr h => ?_)
  obtain ⟨cl_Ledger, mg_Ledger, n_Ledger_kept, n_Ledger_now_worth, n_Ledger_former, _⟩ := U_Ledger
  obtain ⟨p, fl, kl, F, es, es', hs, rfl, ⟨⟨dx, k0, hp, hk0⟩, us, hf, hh⟩, Z, k, lh, q⟩ := h
  refine ⟨_, (pss_cons (ps_expr (pe_bm PySem.F.plainAttrs_list PySem.F.slot_list_append PySem.F.type_list_append mt_append (pe_fld (pv 0) rfl) (pa_cons (pe_tup (pa_cons (pe_fld (pv 0) rfl) (pa_cons (pe_fld (pv 0) rfl) pa_nil))) pa_nil)))
      (pss_cons (ps_fld (pv 0) (pv 1) rfl)
      (pss_cons (ps_fld (pv 0) (pv 2) rfl)
      (pss_one (ps_ret (pv 2)))))), ?_⟩
  rw [st_Ledger_become]
  try dsimp only [Cx.nox, Cx.wish, Cx.blk, cx_K]
  walk_at "go"
  rename_i t H1 n1 e1 h1
  have hf1 := e1.at hf
  have pf : p ≠ fl := ne_of hp hf (by intro z; cases z)
  refine r_app hf1 (by rw [hh.len]; omega) fun H2 k2 h2 => ?_
  have hp2 := k2 _ _ pf (e1.at hp)
  walk_at "go"
  refine r_fldW hp2 cl_Ledger n_Ledger_kept ln_Ledger pf_Ledger_kept fun H3 k3 h3 => ?_
  walk_at "go"
  refine r_fldW h3 cl_Ledger n_Ledger_now_worth ln_Ledger pf_Ledger_now_worth fun H4 k4 h4 => ?_
  walk_at "go"
  have k34 := k3.trans k4
  have tp : t ≠ p := (ne_of_none hp n1).symm
  have tf : t ≠ fl := (ne_of_none hf n1).symm
  have G : Gr F H (upd F t (.tup [.ref k0, .int (wL es)])) := Gr.add Z.sub n1
  refine q _ H4 G (((e1.kq.trans (k2.kq (by simp))).trans (k34.kq (by simp)))) ⟨fun a o h => ?_, ?_, ?_⟩ ⟨⟨dx, kl, h4, k.ex G.ex⟩, _, k34 _ _ pf.symm h2, (hh.ex G.ex).app ⟨⟨t, k0, rfl, upd_same, hk0.ex G.ex⟩, trivial⟩⟩
  · by_cases z : a = t
    · subst z
      rw [upd_same] at h
      rw [← h]
      exact k34 _ _ tp (k2 _ _ tf h1)
    · rw [upd_ne z] at h
      exact k34 _ _ (ne_of_none h Z.np) (k2 _ _ (ne_of_none h Z.nf) (e1.at (Z.sub _ _ h)))
  · rw [upd_ne tp.symm]
    exact Z.np
  · rw [upd_ne tf.symm]
    exact Z.nf

end
abbrev MOST_ENTRIES_val : Int := 200
def sp_Ledger_put (_ : PySem.W.Frag) (C : Addr) : Sp := fun vs H Q _ => ∃ (p fl s : Addr) (F : Hp) (es : List Ent) (hs : List (List Ent)) (e : Ent), vs = [.ref p, .ref s, .int e.k, .int e.n, .int e.t] ∧ LgAt C F H p fl es hs ∧ Fz F H p fl ∧ F s = some (.tup [.int e.a, .int e.b, .int e.m]) ∧ EntZ e ∧ es.length < 200 ∧ hs.length ≤ 50000 ∧
  ∀ F' H', Gr F H F' → Kq [p, fl] H H' → Fz F' H' p fl → LgAt C F' H' p fl (es ++ [e]) (hs ++ [es]) → Q (.int (wL (es ++ [e]))) H'
theorem use_Ledger_put {K : PySem.W.Frag} {C : Addr} {H : Hp} {Q : VK} {E : XK} {p fl s : Addr} {F : Hp} {es : List Ent} {hs : List (List Ent)} {e : Ent} (L : LgAt C F H p fl es hs) (Z : Fz F H p fl) (h : F s = some (.tup [.int e.a, .int e.b, .int e.m])) (z : EntZ e) (le : es.length < 200) (lh : hs.length ≤ 50000)
  (q : ∀ F' H', Gr F H F' → Kq [p, fl] H H' → Fz F' H' p fl → LgAt C F' H' p fl (es ++ [e]) (hs ++ [es]) → Q (.int (wL (es ++ [e]))) H') : sp_Ledger_put K C [.ref p, .ref s, .int e.k, .int e.n, .int e.t] H Q E := ⟨p, fl, s, F, es, hs, e, rfl, L, Z, h, z, le, lh, q⟩
abbrev s_Ledger_put : Stmt := inClass (topS 24) 3
abbrev nm_Ledger_put : List Str := ["self", "stair", "k", "n", "times", "entry"]
theorem sc_Ledger_put : FnScope nm_Ledger_put ["self", "stair", "k", "n", "times"] (defScope s_Ledger_put) := ⟨rfl, rfl, rfl, by decide +kernel, rfl, by decide +kernel, by decide +kernel⟩
theorem st_Ledger_put {v0 v1 v2 v3 v4 : V} : start nm_Ledger_put [v0, v1, v2, v3, v4] = [some v0, some v1, some v2, some v3, some v4, none] := rfl
section
variable {P : Program} {w : World} {K : PySem.W.Frag} {mg : Str → Option Value} {base : Heap}
theorem ok_Ledger_put {C_Ledger : Addr} (D : MetAt K C_Ledger "put" "Ledger.put" s_Ledger_put ["self", "stair", "k", "n", "times"]) (U_Ledger : TxC K mg "Ledger" C_Ledger ["kept", "now_worth", "former"]) (B_len : mg "len" = none) (T_MOST_ENTRIES : ∃ t, mg "MOST_ENTRIES" = some (.int MOST_ENTRIES_val t)) (G_need_stair : Has P w K mg base CX0 4 "need_stair" ["thing"] (sp_need_stair K)) (G_need_count : Has P w K mg base CX0 2 "need_count" ["n"] (sp_need_count K)) (G_worth_of : Has P w K mg base CX0 4 "worth_of" ["entry"] (sp_worth_of K)) (G_Ledger_become : HasM P w K mg base CX0 2 C_Ledger "become" ["self", "kept", "total"] (sp_Ledger_become K C_Ledger)) : HasM P w K mg base CX0 5 C_Ledger "put" ["self", "stair", "k", "n", "times"] (sp_Ledger_put K C_Ledger) := by
  refine D.ok sc_Ledger_put (by rintro _ _ _ _ ⟨_, _, _, _, _, _, _, rfl, _⟩; rfl) (fun f cdv A outer s H vs Q E hr h => ?_)
  obtain ⟨_, T_MOST_ENTRIES⟩ := T_MOST_ENTRIES
  obtain ⟨cl_Ledger, mg_Ledger, n_Ledger_kept, n_Ledger_now_worth, n_Ledger_former, _⟩ := U_Ledger
  obtain ⟨p, fl, s, F, es, hs, e, rfl, L, Z, hs', z, le, lh, q⟩ := h
  obtain ⟨⟨dx, k0, hp, vs, hk, he⟩, us, hf, hh⟩ := id L
  have hsH := Z.sub _ _ hs'
  have hkH := Z.sub _ _ hk
  have hl := he.len
  refine ⟨_, (pss_cons (ps_expr (pcall G_need_stair (hr.mono (by decide)) (pa_cons (pv 1) pa_nil)))
      (pss_cons (ps_expr (pcall G_need_count (hr.mono (by decide)) (pa_cons (pv 3) pa_nil)))
      (pss_cons (ps_if (pt_cmpR op_eq (pe_callB cl_len (by rfl) B_len (by decide +kernel) (pa_cons (pe_fld (pv 0) rfl) pa_nil)) (pe_glob (v := .int (200)) rfl T_MOST_ENTRIES ⟨_, rfl⟩) (nomark _)) (pss_one ps_never) pss_nil)
      (pss_cons (ps_set (i := 5) sc_Ledger_put.nd rfl (Or.inl rfl) (pe_tup (pa_cons (pv 1) (pa_cons (pv 2) (pa_cons (pv 3) (pa_cons (pv 4) pa_nil))))))
      (pss_one (ps_ret (pmeth cl_Ledger G_Ledger_become (hr.mono (by decide)) (pv 0) (pa_cons (pe_op op_cat (pe_fld (pv 0) rfl) (pe_lst (pa_cons (pv 5) pa_nil))) (pa_cons (pe_op op_add (pe_fld (pv 0) rfl) (pcall G_worth_of (hr.mono (by decide)) (pa_cons (pv 5) pa_nil))) pa_nil))))))))), ?_⟩
  rw [st_Ledger_put]
  try dsimp only [Cx.nox, Cx.wish, Cx.blk, cx_K]
  walk_at "go"
  refine use_need_stair hsH z.m0 fun H1 e1 => ?_
  walk_at "go"
  refine use_need_count z.n0 z.n1 ?_
  walk_at "go"
  rename_i t H2 n2 e2 h2 l3 H3 n3 e3 h3
  have n2' : H t = none := free_back e1 n2
  have e12 := e1.trans e2
  have tp : t ≠ p := (ne_of_none hp n2').symm
  have tf : t ≠ fl := (ne_of_none hf n2').symm
  have Z2 : Fz (upd F t (.tup [.ref s, .int e.k, .int e.n, .int e.t])) H2 p fl := Z.add n2' e12 h2 tp tf
  have G2 : Gr F H (upd F t (.tup [.ref s, .int e.k, .int e.n, .int e.t])) := Gr.add Z.sub n2'
  have L2 := L.grow e12 G2.ex
  have A2 : EntA (upd F t (.tup [.ref s, .int e.k, .int e.n, .int e.t])) (.ref t) e := ⟨t, s, rfl, upd_same, G2.ex _ _ hs'⟩
  have hp2 := e12.at hp
  have hk2 := e12.at hkH
  refine r_catL (e3.at hk2) h3 (by rw [hl]; show es.length + 1 ≤ _; omega) fun l4 H4 n4 e4 h4 => ?_
  have e34 := e3.trans e4
  have n4' : H2 l4 = none := free_back e3 n4
  have lp : l4 ≠ p := (ne_of_none hp2 n4').symm
  have lf : l4 ≠ fl := (ne_of_none (e12.at hf) n4').symm
  have Z4 := Z2.add n4' e34 h4 lp lf
  have G4 := Gr.add (o := .lst (vs ++ [.ref t])) Z2.sub n4'
  have L4 := L2.grow e34 G4.ex
  have K4 : KeptA (upd (upd F t (.tup [.ref s, .int e.k, .int e.n, .int e.t])) l4 (.lst (vs ++ [.ref t]))) l4 (es ++ [e]) := ⟨_, upd_same, (he.ex (G2.ex.trans G4.ex)).app ⟨A2.ex G4.ex, trivial⟩⟩
  have hp4 := e34.at hp2
  clear e3 e4 n4
  walk_at "go"
  refine use_worth_of ((A2.ex G4.ex).ex Z4.sub) z ?_
  walk_at "go"
  rw [show wL es + wE e = wL (es ++ [e]) by rw [wL_app, wL_one]]
  refine use_Ledger_become L4 Z4 K4 lh fun F5 H5 G5 k5 Z5 L5 => ?_
  walk_at "go"
  exact q F5 H5 ((G2.tr G4 e12).tr G5 (e12.trans e34)) ((e12.trans e34).kq.trans k5) Z5 L5

end
--@ needs Sum
/-! papers -/
/-- the rows are a paper -/
inductive Ppr : Int → Int → Int → Int → List (List Int) → Prop
  | last {n a b m r : Int} : 0 < m → r * m ≤ a → (a - r * m) * n + b % m < m → Ppr n a b m [[n, a, b, m, r]]
  | more {n a b m r : Int} {rs : List (List Int)} : 0 < m → r * m ≤ a → m ≤ (a - r * m) * n + b % m → Ppr (((a - r * m) * n + b % m) / m) m (((a - r * m) * n + b % m) % m) (a - r * m) rs → Ppr n a b m ([n, a, b, m, r] :: rs)
/-- the same by the greatest rises -/
inductive Gpr : Int → Int → Int → Int → List (List Int) → Prop
  | last {n a b m : Int} : 0 < m → (a % m) * n + b % m < m → Gpr n a b m [[n, a, b, m, a / m]]
  | more {n a b m : Int} {rs : List (List Int)} : 0 < m → m ≤ (a % m) * n + b % m → Gpr (((a % m) * n + b % m) / m) m (((a % m) * n + b % m) % m) (a % m) rs → Gpr n a b m ([n, a, b, m, a / m] :: rs)
theorem sub_div (a m : Int) : a - a / m * m = a % m := by
  have := Int.emod_add_mul_ediv a m
  rw [Int.mul_comm] at this
  omega
theorem Gpr.ppr {n a b m : Int} {rs : List (List Int)} (h : Gpr n a b m rs) : Ppr n a b m rs := by
  induction h with
  | last h0 h1 => exact .last h0 (Int.ediv_mul_le _ (by omega)) (by rw [sub_div]; exact h1)
  | more h0 h1 _ ih => exact .more h0 (Int.ediv_mul_le _ (by omega)) (by rw [sub_div]; exact h1) (by rw [sub_div]; exact ih)
theorem Gpr.one {n a b m : Int} {rs rs' : List (List Int)} (h : Gpr n a b m rs) (h' : Gpr n a b m rs') : rs = rs' := by
  induction h generalizing rs' with
  | last h0 h1 =>
    cases h' with
    | last _ _ => rfl
    | more _ h2 _ => omega
  | more h0 h1 _ ih =>
    cases h' with
    | last _ h2 => omega
    | more _ _ h3 => rw [ih h3]
theorem Gpr.m0 {n a b m : Int} {rs : List (List Int)} (h : Gpr n a b m rs) : 0 < m := by
  cases h <;> assumption
/-- what the rows take -/
def tkn : List (List Int) → Int
  | [] => 0
  | [n, a, b, m, r] :: rs => r * (n * (n - 1) / 2) + b / m * n + tkn rs
  | _ :: rs => tkn rs
/-- what stands behind a row -/
def fol (n a b m r : Int) : Option (List Int) := if (a - r * m) * n + b % m < m then none else some [((a - r * m) * n + b % m) / m, m, ((a - r * m) * n + b % m) % m, a - r * m]
/-- whether rows are a paper -/
def isP : Option (List Int) → List (List Int) → Bool
  | none, [] => true
  | none, _ :: _ => false
  | some _, [] => false
  | some g, [n, a, b, m, r] :: rs => if [n, a, b, m] = g then (if a < r * m then false else isP (fol n a b m r) rs) else false
  | some _, _ :: _ => false
theorem Ppr.isP {n a b m : Int} {rs : List (List Int)} (h : Ppr n a b m rs) : isP (some [n, a, b, m]) rs = true := by
  induction h with
  | last h0 h1 h2 =>
    unfold Sd.isP fol
    rw [if_pos rfl, if_neg (by omega), if_pos h2]
    rfl
  | more h0 h1 h2 _ ih =>
    unfold Sd.isP fol
    rw [if_pos rfl, if_neg (by omega), if_neg (by omega)]
    exact ih
theorem pos_of_mul {x y : Int} (hy : 0 ≤ y) (h : 0 < x * y) : 0 < x := by
  by_cases z : 0 < x
  · exact z
  · have := Int.mul_nonneg (show 0 ≤ -x by omega) hy
    rw [Int.neg_mul] at this
    omega
theorem fol_m {s n b m : Int} (hm : 0 < m) (hn : 0 ≤ n) (hs : 0 ≤ s) (h : m ≤ s * n + b % m) : 0 < s ∧ 0 < n := by
  have h1 := Int.emod_lt_of_pos b hm
  have h2 : 0 < s * n := by omega
  exact ⟨pos_of_mul hn h2, pos_of_mul hs (by rw [Int.mul_comm]; exact h2)⟩
theorem Ppr.tkn {n a b m : Int} {rs : List (List Int)} (h : Ppr n a b m rs) (hn : 0 ≤ n) : tkn rs = fs n.toNat a b m := by
  have key : ∀ {n a b m r : Int}, 0 ≤ n → 0 < m → fs n.toNat a b m = r * (n * (n - 1) / 2) + b / m * n + fs n.toNat (a - r * m) (b % m) m := by
    intro n a b m r hn hm
    have e1 := fs_a n.toNat (a - r * m) b r hm
    have e2 := fs_b n.toNat (a - r * m) (b % m) (b / m) hm
    rw [show a - r * m + r * m = a by omega] at e1
    rw [show b % m + b / m * m = b by
      have := Int.emod_add_mul_ediv b m
      rw [Int.mul_comm] at this
      omega] at e2
    rw [e1, e2, show ((n.toNat : Nat) : Int) = n by omega]
    omega
  induction h with
  | @last n a b m r h0 h1 h2 =>
    rw [key (r := r) hn h0]
    have r0 := Int.emod_nonneg b (show m ≠ 0 by omega)
    have r1 := Int.emod_lt_of_pos b h0
    rw [fs_turn n.toNat (b % m) (by omega) r0 r1, show ((n.toNat : Nat) : Int) = n by omega]
    have t0 : 0 ≤ (a - r * m) * n := Int.mul_nonneg (by omega) hn
    rw [Int.ediv_eq_zero_of_lt (by omega) h2, show Int.toNat 0 = 0 from rfl, fs_zero]
    rfl
  | @more n a b m r rs h0 h1 h2 h3 ih =>
    rw [key (r := r) hn h0]
    have r0 := Int.emod_nonneg b (show m ≠ 0 by omega)
    have r1 := Int.emod_lt_of_pos b h0
    have t0 : 0 ≤ (a - r * m) * n := Int.mul_nonneg (by omega) hn
    rw [fs_turn n.toNat (b % m) (by omega) r0 r1, show ((n.toNat : Nat) : Int) = n by omega, ← ih (Int.ediv_nonneg (by omega) (by omega))]
    rfl
/-- the product of slope and bottom is halved -/
theorem mod_half {a m : Int} (hm : 0 < m) (h : m < a) : 2 * (m * (a % m)) ≤ a * m := by
  have e := Int.emod_add_mul_ediv a m
  have r0 := Int.emod_nonneg a (show m ≠ 0 by omega)
  have r1 := Int.emod_lt_of_pos a hm
  have q : 1 ≤ a / m := (Int.le_ediv_iff_mul_le hm).mpr (by omega)
  have h1 : m * 1 ≤ m * (a / m) := Int.mul_le_mul_of_nonneg_left q (by omega)
  have h2 : m * (2 * (a % m)) ≤ m * a := Int.mul_le_mul_of_nonneg_left (by omega) (by omega)
  grind
theorem len_halves {x : Int} {c B : Nat} (h0 : 0 < x) (h : x * 2 ^ c ≤ 2 ^ B) : c ≤ B := by
  have h1 : 1 * (2 : Int) ^ c ≤ x * 2 ^ c := Int.mul_le_mul_of_nonneg_right (by omega) (by
    have := Int.pow_pos (n := 2) (m := c) (by decide)
    omega)
  have h2 : (2 : Int) ^ c ≤ 2 ^ B := by omega
  have h3 : (2 : Nat) ^ c ≤ 2 ^ B := by exact_mod_cast h2
  exact (Nat.pow_le_pow_iff_right (by decide)).mp h3
theorem summed_n' {n r s m : Int} (hn : 0 ≤ n) (r0 : 0 ≤ r) (r1 : r < m) (s1 : s < m) : (r * n + s) / m ≤ n := by
  have h : (r * n + s) / m < n + 1 := by
    refine (Int.ediv_lt_iff_lt_mul (by omega)).mpr ?_
    have h1 : r * n ≤ (m - 1) * n := Int.mul_le_mul_of_nonneg_right (by omega) hn
    grind
  omega
/-- the bottom of a row -/
def bot : List Int → Int
  | [_, _, _, m, _] => m
  | _ => 0
theorem Gpr.head {n a b m : Int} {rs : List (List Int)} (h : Gpr n a b m rs) : ∃ rest, rs = [n, a, b, m, a / m] :: rest ∧ (rest = [] ∨ ∃ n' b', Gpr n' m b' (a % m) rest) := by
  cases h with
  | last _ _ => exact ⟨_, rfl, .inl rfl⟩
  | more _ _ h => exact ⟨_, rfl, .inr ⟨_, _, h⟩⟩
theorem half_mod {x y : Int} (hy : 0 < y) (h : y ≤ x) : 2 * (x % y) ≤ x := by
  have e := Int.emod_add_mul_ediv x y
  have r1 := Int.emod_lt_of_pos x hy
  have q : 1 ≤ x / y := (Int.le_ediv_iff_mul_le hy).mpr (by omega)
  have h1 : y * 1 ≤ y * (x / y) := Int.mul_le_mul_of_nonneg_left q (by omega)
  omega
theorem Gpr.shr {n a b m : Int} {rs : List (List Int)} (h : Gpr n a b m rs) : (∀ i, i + 1 < rs.length → (rs.map bot).getD (i + 1) 0 < (rs.map bot).getD i 0) ∧ (∀ i, i + 2 < rs.length → 2 * (rs.map bot).getD (i + 2) 0 ≤ (rs.map bot).getD i 0) := by
  induction h with
  | last h0 h1 => exact ⟨fun i hi => by simp at hi, fun i hi => by simp at hi⟩
  | @more n a b m rs h0 h1 h2 ih =>
    obtain ⟨rest, e, c⟩ := h2.head
    have s0 := h2.m0
    have s1 := Int.emod_lt_of_pos a h0
    subst e
    obtain ⟨ih1, ih2⟩ := ih
    refine ⟨fun i hi => ?_, fun i hi => ?_⟩
    · cases i with
      | zero => exact s1
      | succ i => exact ih1 i (by simp at hi ⊢; omega)
    · cases i with
      | zero =>
        rcases c with c | ⟨n', b', c⟩
        · subst c
          simp at hi
        · obtain ⟨rest', e', _⟩ := c.head
          subst e'
          exact half_mod s0 (by omega)
      | succ i => exact ih2 i (by simp at hi ⊢; omega)

def sp_follows (_ : PySem.W.Frag) : Sp := fun vs H Q _ => ∃ (n a b m r : Int), vs = [.int n, .int a, .int b, .int m, .int r] ∧ 0 < m ∧ Sz 7000 n ∧ Sz 7000 a ∧ Sz 7000 m ∧ Sz 7000 r ∧ ((a - r * m) * n + b % m < m → Q .non H) ∧
  (m ≤ (a - r * m) * n + b % m → ∀ p H', H p = none → Ex H H' → H' p = some (.tup [.int (((a - r * m) * n + b % m) / m), .int m, .int (((a - r * m) * n + b % m) % m), .int (a - r * m)]) → Q (.ref p) H')
theorem use_follows {K : PySem.W.Frag} {H : Hp} {Q : VK} {E : XK} {n a b m r : Int} (hm : 0 < m) (zn : Sz 7000 n) (za : Sz 7000 a) (zm : Sz 7000 m) (zr : Sz 7000 r) (q : (a - r * m) * n + b % m < m → Q .non H)
  (q2 : m ≤ (a - r * m) * n + b % m → ∀ p H', H p = none → Ex H H' → H' p = some (.tup [.int (((a - r * m) * n + b % m) / m), .int m, .int (((a - r * m) * n + b % m) % m), .int (a - r * m)]) → Q (.ref p) H') : sp_follows K [.int n, .int a, .int b, .int m, .int r] H Q E :=
  ⟨n, a, b, m, r, rfl, hm, zn, za, zm, zr, q, q2⟩
abbrev s_follows : Stmt := topS 35
abbrev nm_follows : List Str := ["n", "a", "b", "m", "rise", "slope", "top"]
theorem sc_follows : FnScope nm_follows ["n", "a", "b", "m", "rise"] (defScope s_follows) := ⟨rfl, rfl, rfl, by decide +kernel, rfl, by decide +kernel, by decide +kernel⟩
theorem st_follows {v0 v1 v2 v3 v4 : V} : start nm_follows [v0, v1, v2, v3, v4] = [some v0, some v1, some v2, some v3, some v4, none, none] := rfl
section
variable {P : Program} {w : World} {K : PySem.W.Frag} {mg : Str → Option Value} {base : Heap}
theorem ok_follows (D : DefAt K mg "follows" s_follows ["n", "a", "b", "m", "rise"]) : Has P w K mg base CX0 2 "follows" ["n", "a", "b", "m", "rise"] (sp_follows K) := by
  refine D.ok sc_follows (by rintro _ _ _ _ ⟨_, _, _, _, _, rfl, _⟩; rfl) (fun f cdv A outer s H vs Q E hr h => ?_)
  obtain ⟨n, a, b, m, r, rfl, hm, zn, za, zm, zr, q, q2⟩ := h
  refine ⟨_, (pss_cons (ps_set (i := 5) sc_follows.nd rfl (Or.inl rfl) (pe_op op_sub (pv 1) (pe_op op_mulX (pv 4) (pv 3))))
      (pss_cons (ps_set (i := 6) sc_follows.nd rfl (Or.inl rfl) (pe_op op_add (pe_op op_mulX (pv 5) (pv 0)) (pe_op op_mod (pv 2) (pv 3))))
      (pss_cons (ps_if (pt_cmpR op_lt (pv 6) (pv 3) (nomark _)) (pss_one (ps_ret pe_non)) pss_nil)
      (pss_one (ps_ret (pe_tup (pa_cons (pe_op op_fdivW (pv 6) (pv 3)) (pa_cons (pv 3) (pa_cons (pe_op op_mod (pv 6) (pv 3)) (pa_cons (pv 5) pa_nil)))))))))), ?_⟩
  rw [st_follows]
  try dsimp only [Cx.nox, Cx.wish, Cx.blk, cx_K]
  walk_at "go"
  refine if_2 (fun hx => ?_) (fun hx => ?_)
  · have hx := of_decide_eq_true hx
    walk_at "go"
    exact q hx
  · have hx := of_decide_eq_false hx
    walk_at "go"
    rename_i t H' nt e ht
    exact q2 (by omega) t H' nt e ht

end
--@ needs Paper
theorem len_first {a m : Int} (hm : 0 < m) (z : Sz 900 m) : m * (a % m) * 2 ^ 1 ≤ 2 ^ 1801 := by
  have z' : m.natAbs < 2 ^ 900 := z
  have z'' : m < 2 ^ 900 := by
    have e : ((2 ^ 900 : Nat) : Int) = (2 : Int) ^ 900 := Int.natCast_pow 2 900
    omega
  have r0 := Int.emod_nonneg a (show m ≠ 0 by omega)
  have r1 := Int.emod_lt_of_pos a hm
  have h1 : m * (a % m) ≤ 2 ^ 900 * (a % m) := Int.mul_le_mul_of_nonneg_right (by omega) r0
  have h2 : (2 : Int) ^ 900 * (a % m) ≤ 2 ^ 900 * 2 ^ 900 := Int.mul_le_mul_of_nonneg_left (by omega) (by omega)
  have h3 : (2 : Int) ^ 900 * 2 ^ 900 = 2 ^ 1800 := by rw [← Int.pow_add]
  have h4 : (2 : Int) ^ 1801 = 2 ^ 1800 * 2 := Int.pow_succ ..
  omega
theorem len_step {a m B : Int} {c : Nat} (hm : 0 < m) (h : m < a) (hb : a * m * 2 ^ c ≤ B) : m * (a % m) * 2 ^ (c + 1) ≤ B := by
  have h1 := mod_half hm h
  have h2 : 2 * (m * (a % m)) * 2 ^ c ≤ a * m * 2 ^ c := Int.mul_le_mul_of_nonneg_right h1 (by
    have := Int.pow_pos (n := 2) (m := c) (by decide)
    omega)
  rw [Int.pow_succ]
  grind
theorem len_end {a m : Int} {c : Nat} (hm : 0 < m) (h : m < a) (hb : a * m * 2 ^ c ≤ 2 ^ 1801) : c ≤ 1801 :=
  len_halves (Int.mul_pos (by omega) hm) hb
/-- how long the rows may be -/
def LenI (c : Nat) (a m : Int) : Prop := c = 0 ∨ (m < a ∧ a * m * 2 ^ c ≤ 2 ^ 1801)
theorem LenI.le {c : Nat} {a m : Int} (h : LenI c a m) (hm : 0 < m) : c ≤ 1801 := by
  rcases h with h | ⟨h1, h2⟩
  · omega
  · exact len_end hm h1 h2
theorem LenI.up {c : Nat} {a m : Int} (h : LenI c a m) (hm : 0 < m) (z : Sz 900 m) : LenI (c + 1) m (a % m) := by
  refine .inr ⟨Int.emod_lt_of_pos a hm, ?_⟩
  rcases h with h | ⟨h1, h2⟩
  · subst h
    exact len_first hm z
  · exact len_step hm h1 h2
def PfG (n a b m : Int) (rs : List (List Int)) (n' a' b' m' : Int) : Prop := ∀ rest, Gpr n' a' b' m' rest → Gpr n a b m (rs ++ rest)

def sp_paper_of (_ : PySem.W.Frag) : Sp := fun vs H Q _ => ∃ (p : Addr) (a b m n : Int), vs = [.ref p, .int n] ∧ H p = some (.tup [.int a, .int b, .int m]) ∧ 0 < m ∧ Sz 3000 a ∧ Sz 3000 b ∧ Sz 900 m ∧ 0 ≤ n ∧ n < 1000000000000000000000000000000 ∧
  ∀ l rs H', H l = none → Ex H H' → RwL H' l rs → RowsZ rs → rs.length ≤ 1802 → Gpr n a b m rs → Q (.ref l) H'
theorem use_paper_of {K : PySem.W.Frag} {H : Hp} {Q : VK} {E : XK} {p : Addr} {a b m n : Int} (hp : H p = some (.tup [.int a, .int b, .int m])) (hm : 0 < m) (za : Sz 3000 a) (zb : Sz 3000 b) (zm : Sz 900 m) (n0 : 0 ≤ n) (n1 : n < 1000000000000000000000000000000)
  (q : ∀ l rs H', H l = none → Ex H H' → RwL H' l rs → RowsZ rs → rs.length ≤ 1802 → Gpr n a b m rs → Q (.ref l) H') : sp_paper_of K [.ref p, .int n] H Q E := ⟨p, a, b, m, n, rfl, hp, hm, za, zb, zm, n0, n1, q⟩
abbrev s_paper_of : Stmt := topS 36
abbrev nm_paper_of : List Str := ["stair", "n", "rows", "begin", "a", "b", "m"]
theorem sc_paper_of : FnScope nm_paper_of ["stair", "n"] (defScope s_paper_of) := ⟨rfl, rfl, rfl, by decide +kernel, rfl, by decide +kernel, by decide +kernel⟩
theorem st_paper_of {v0 v1 : V} : start nm_paper_of [v0, v1] = [some v0, some v1, none, none, none, none, none] := rfl
section
variable {P : Program} {w : World} {K : PySem.W.Frag} {mg : Str → Option Value} {base : Heap}
theorem ok_paper_of (D : DefAt K mg "paper_of" s_paper_of ["stair", "n"]) (G_need_stair : Has P w K mg base CX0 4 "need_stair" ["thing"] (sp_need_stair K)) (G_need_count : Has P w K mg base CX0 2 "need_count" ["n"] (sp_need_count K)) (G_follows : Has P w K mg base CX0 2 "follows" ["n", "a", "b", "m", "rise"] (sp_follows K)) : Has P w K mg base CX0 5 "paper_of" ["stair", "n"] (sp_paper_of K) := by
  refine D.ok sc_paper_of (by rintro _ _ _ _ ⟨_, _, _, _, _, rfl, _⟩; rfl) (fun f cdv A outer s H vs Q E hr h => ?_)
  obtain ⟨p, a, b, m, n, rfl, hp, hm, za, zb, zm, n0, n1, q⟩ := h
  have zn : Sz 3000 n := Sz.mono (n := 110) (by
    show n.natAbs < 2 ^ 110
    omega) (by decide)
  refine ⟨_, (pss_cons (ps_expr (pcall G_need_stair (hr.mono (by decide)) (pa_cons (pv 0) pa_nil)))
      (pss_cons (ps_expr (pcall G_need_count (hr.mono (by decide)) (pa_cons (pv 1) pa_nil)))
      (pss_cons (ps_set (i := 2) sc_paper_of.nd rfl (Or.inl rfl) (pe_lst pa_nil))
      (pss_cons (ps_set (i := 3) sc_paper_of.nd rfl (Or.inl rfl) (pe_op op_catA (pe_tup (pa_cons (pv 1) pa_nil)) (pv 0)))
      (pss_cons (ps_while PassesOwn.never (pt_cmpR op_notNn (pv 3) pe_non (nomark _)) (pss_cons (ps_asg (pv 3) (pg_tup (by rfl) (pgs_cons (pg_name (i := 1) sc_paper_of.nd rfl (Or.inl rfl)) (pgs_cons (pg_name (i := 4) sc_paper_of.nd rfl (Or.inl rfl)) (pgs_cons (pg_name (i := 5) sc_paper_of.nd rfl (Or.inl rfl)) (pgs_cons (pg_name (i := 6) sc_paper_of.nd rfl (Or.inl rfl)) pgs_nil))))))
        (pss_cons (ps_expr (pe_bm PySem.F.plainAttrs_list PySem.F.slot_list_append PySem.F.type_list_append mt_append (pv 2) (pa_cons (pe_op op_catA (pv 3) (pe_tup (pa_cons (pe_op op_fdivW (pv 4) (pv 6)) pa_nil))) pa_nil)))
        (pss_one (ps_set (i := 3) sc_paper_of.nd rfl (Or.inl rfl) (pcall G_follows (hr.mono (by decide)) (pa_cons (pv 1) (pa_cons (pv 4) (pa_cons (pv 5) (pa_cons (pv 6) (pa_cons (pe_op op_fdivW (pv 4) (pv 6)) pa_nil)))))))))))
      (pss_one (ps_ret (pv 2)))))))), ?_⟩
  rw [st_paper_of]
  try dsimp only [Cx.nox, Cx.wish, Cx.blk, cx_K]
  walk_at "go"
  refine use_need_stair hp hm fun H0 e0 => ?_
  walk_at "go"
  refine use_need_count n0 n1 ?_
  walk_at "go"
  rename_i l H1 nl e1 h1 t2 H2 n2 e2 h2 t3 H3 n3 e3 h3
  have nl0 : H l = none := free_back e0 nl
  have hl3 : H3 l = some (.lst []) := e3 _ _ (e2 _ _ h1)
  refine while_m (fun μ σ H' => Ex H H' ∧ ∃ (vs : List V) (rs : List (List Int)) (v : V) (o1 o4 o5 o6 : Option V), σ = [some (.ref p), o1, some (.ref l), some v, o4, o5, o6] ∧ H' l = some (.lst vs) ∧ RowsA H' vs rs ∧ RowsZ rs ∧
    ((v = .non ∧ Gpr n a b m rs ∧ rs.length ≤ 1802 ∧ μ = 0) ∨ ∃ (r : Addr) (n' a' b' m' : Int), v = .ref r ∧ H' r = some (.tup [.int n', .int a', .int b', .int m']) ∧ 0 ≤ n' ∧ 0 < m' ∧ Sz 3000 n' ∧ Sz 3000 a' ∧ Sz 3000 b' ∧ Sz 900 m' ∧ PfG n a b m rs n' a' b' m' ∧ LenI rs.length a' m' ∧ μ = m'.toNat))
    m.toNat ?_ ?_
  · refine ⟨e0.trans (e1.trans (e2.trans e3)), [], [], _, _, none, none, none, rfl, hl3, trivial, ?_, .inr ⟨_, _, _, _, _, rfl, h3, n0, hm, zn, za, zb, zm, fun _ h => h, .inl rfl, rfl⟩⟩
    intro _ h
    cases h
  rintro μ σ H4 ⟨e4, vs, rs, v, o1, o4, o5, o6, rfl, hl4, R4, Z4, C4⟩
  rcases C4 with ⟨rfl, C4, len, rfl⟩ | ⟨r, n', a', b', m', rfl, hr4, n0', m0', zn', za', zb', zm', C4, L4, rfl⟩
  · walk_at "go"
    exact q l rs H4 nl0 e4 ⟨vs, hl4, R4⟩ Z4 len C4
  · walk_at "go"
    refine r_body (fun σ H' => Ex H H' ∧ ∃ (vs : List V) (rs : List (List Int)) (v : V) (o1 o4 o5 o6 : Option V), σ = [some (.ref p), o1, some (.ref l), some v, o4, o5, o6] ∧ H' l = some (.lst vs) ∧ RowsA H' vs rs ∧ RowsZ rs ∧
    ((v = .non ∧ Gpr n a b m rs ∧ rs.length ≤ 1802) ∨ ∃ (r : Addr) (n'' a'' b'' m'' : Int), v = .ref r ∧ H' r = some (.tup [.int n'', .int a'', .int b'', .int m'']) ∧ 0 ≤ n'' ∧ 0 < m'' ∧ Sz 3000 n'' ∧ Sz 3000 a'' ∧ Sz 3000 b'' ∧ Sz 900 m'' ∧ PfG n a b m rs n'' a'' b'' m'' ∧ LenI rs.length a'' m'' ∧ m'' < m')) ?_ ?_
    · rintro σ' H' ⟨e, vs, rs, v, o1, o4, o5, o6, rfl, g1, g2, g3, g4⟩
      rcases g4 with ⟨rfl, g4, g5⟩ | ⟨r, n'', a'', b'', m'', rfl, g5, g6, g7, g8, g9, g10, g11, g12, g13, g14⟩
      · exact ⟨0, by omega, e, vs, rs, _, o1, o4, o5, o6, rfl, g1, g2, g3, .inl ⟨rfl, g4, g5, rfl⟩⟩
      · exact ⟨_, by omega, e, vs, rs, _, o1, o4, o5, o6, rfl, g1, g2, g3, .inr ⟨r, n'', a'', b'', m'', rfl, g5, g6, g7, g8, g9, g10, g11, g12, g13, rfl⟩⟩
    walk_at "go"
    rename_i t5 H5 n5 e5 h5 t6 H6 n6 e6 h6
    have hl6 := e6 _ _ (e5 _ _ hl4)
    have R6 := (R4.ex e5).ex e6
    have lR := L4.le m0'
    refine r_app hl6 (by rw [R6.len]; omega) fun H7 k7 h7 => ?_
    have R7 : RowsA H7 (vs ++ [.ref t6]) (rs ++ [[n', a', b', m', a' / m']]) := RowsA.app (r := [n', a', b', m', a' / m']) (k7.tupL hl6 h6) (R6.kpL k7 hl6)
    have e7 : Ex H H7 := ((e4.trans e5).trans e6).kpd nl0 k7
    have Z7 : RowsZ (rs ++ [[n', a', b', m', a' / m']]) := Z4.app m0' (zn'.mono (by decide)) (za'.mono (by decide)) (zb'.mono (by decide)) (zm'.mono (by decide)) (by walk_at "szm")
    have ll : (rs ++ [[n', a', b', m', a' / m']]).length = rs.length + 1 := by
      rw [List.length_append]
      rfl
    have sl : a' - a' / m' * m' = a' % m' := sub_div a' m'
    have r0 := Int.emod_nonneg a' (show m' ≠ 0 by omega)
    have r1 := Int.emod_lt_of_pos a' m0'
    have b0 := Int.emod_nonneg b' (show m' ≠ 0 by omega)
    have b1 := Int.emod_lt_of_pos b' m0'
    walk_at "go"
    refine use_follows m0' (zn'.mono (by decide)) (za'.mono (by decide)) (zm'.mono (by decide)) (by walk_at "szm") (fun ht => ?_) (fun ht p8 H8 n8 e8 h8 => ?_)
    · rw [sl] at ht
      walk_at "go"
      exact ⟨e7, _, _, _, _, _, _, _, rfl, h7, R7, Z7, .inl ⟨rfl, C4 _ (.last m0' ht), by omega⟩⟩
    · rw [sl] at ht h8
      walk_at "go"
      have y0 : 0 ≤ (a' % m' * n' + b' % m') / m' := Int.ediv_nonneg (by omega) (by omega)
      have y1 := summed_n' n0' r0 r1 b1
      refine ⟨e7.trans e8, _, _, _, _, _, _, _, rfl, e8 _ _ h7, R7.ex e8, Z7, .inr ⟨_, _, _, _, _, rfl, h8, y0, (fol_m m0' n0' r0 ht).1, zn'.le (by omega) (by omega), zm'.mono (by decide), (Sz.mod zm' m0').mono (by decide), Sz.mod zm' m0', ?_, ?_, r1⟩⟩
      · intro rest hrest
        rw [List.append_assoc]
        exact C4 _ (.more m0' ht hrest)
      · rw [ll]
        exact L4.up m0' zm'

end
def sp_need_text (_ : PySem.W.Frag) : Sp := fun vs H Q _ => ∃ z : Str, vs = [.str z] ∧ Q .non H
theorem use_need_text {K : PySem.W.Frag} {H : Hp} {Q : VK} {E : XK} {z : Str} (q : Q .non H) : sp_need_text K [.str z] H Q E := ⟨z, rfl, q⟩
abbrev s_need_text : Stmt := topS 55
abbrev nm_need_text : List Str := ["thing"]
theorem sc_need_text : FnScope nm_need_text ["thing"] (defScope s_need_text) := ⟨rfl, rfl, rfl, by decide +kernel, rfl, by decide +kernel, by decide +kernel⟩
theorem st_need_text {v0 : V} : start nm_need_text [v0] = [some v0] := rfl
section
variable {P : Program} {w : World} {K : PySem.W.Frag} {mg : Str → Option Value} {base : Heap}
theorem ok_need_text (D : DefAt K mg "need_text" s_need_text ["thing"]) (B_isinstance : mg "isinstance" = none) (B_str : mg "str" = none) : Has P w K mg base CX0 2 "need_text" ["thing"] (sp_need_text K) := by
  refine D.ok sc_need_text (by rintro _ _ _ _ ⟨_, rfl, _⟩; rfl) (fun f cdv A outer s H vs Q E hr h => ?_)
  obtain ⟨z, rfl, q⟩ := h
  refine ⟨_, (pss_one (ps_if (pt_not (pt_val (pe_callB call_isi (by rfl) B_isinstance (by decide +kernel) (pa_cons (pv 0) (pa_cons (pe_bltn (v := .ty "str") (by rfl) B_str (by decide +kernel) rfl) pa_nil))))) (pss_one ps_never) pss_nil)), ?_⟩
  rw [st_need_text]
  try dsimp only [Cx.nox, Cx.wish, Cx.blk, cx_K]
  walk_at "go"
  exact q

end
abbrev MOST_FIGURES_val : Int := 30
/-! texts as lists of signs -/
abbrev TS1 (l : List Nat) : Str := SX.S l
def lit (s : String) : List Nat := s.toList.map Char.toNat
theorem lit_S (s : String) : Str.ofString s = SX.S (lit s) := TL.ext_tl (TL.tl_ofString s)
theorem lit_e : lit "" = [] := by decide +kernel
theorem lit_k : lit "k" = [107] := by decide +kernel
theorem lit_plus : lit "+" = [43] := by decide +kernel
theorem lit_minus : lit "-" = [45] := by decide +kernel
theorem lit_m0 : lit "-0" = [45, 48] := by decide +kernel
theorem lit_z : lit "0" = [48] := by decide +kernel
theorem lit_bar : lit "/" = [47] := by decide +kernel
theorem lit_sp : lit " " = [32] := by decide +kernel
theorem lit_nl : lit "\n" = [10] := by decide +kernel
theorem lit_dig : lit "0123456789" = [48, 49, 50, 51, 52, 53, 54, 55, 56, 57] := by decide +kernel
theorem lit_pm : lit "+-" = [43, 45] := by decide +kernel
/-! the rules, with names -/
def rInSg (neg : Bool) : R2 := fun x y H Q => ∃ (c : Nat) (z : Str), x = .str ⟨#[c]⟩ ∧ y = .str z ∧ Q (.bl (if neg then !decide (c ∈ z.cps.toList) else decide (c ∈ z.cps.toList))) H
theorem op_inS {X : Cx} : OpR X (compareOp .In) (rInSg false) := op_in_sign
theorem op_notInS {X : Cx} : OpR X (compareOp .NotIn) (rInSg true) := op_notIn_sign
def rAddS : R2 := fun x y H Q => ∃ i j, x = .str i ∧ y = .str j ∧ i.length + j.length ≤ sizeLine ∧ Q (.str (i ++ j)) H
theorem op_addS {X : Cx} : OpR X (binaryOp .Add) rAddS := op_add_str
def rSplitS : V → List V → Hp → VK → Prop := fun x xs H Q => ∃ a b, x = .str a ∧ xs = [.str b] ∧ (b.length == 0) = false ∧ a.length + 2 ≤ sizeLine ∧ rNewStrs (Txt.split a b) H Q
theorem mt_splitR {X : Cx} : MtR X "str.split" rSplitS := mt_split
def rFindS : V → List V → Hp → VK → Prop := fun x xs H Q => ∃ a b, x = .str a ∧ xs = [.str b] ∧ Q (.int (Txt.find a b)) H
theorem mt_findR {X : Cx} : MtR X "str.find" rFindS := mt_find
def rIntS : List V → Hp → VK → Prop := fun xs H Q => ∃ a n, xs = [.str a] ∧ PySem.intText? a = some n ∧ a.length ≤ 640 ∧ Q (.int n) H
theorem call_intS {X : Cx} : CallR X (.type "int") rIntS := call_int_str
def rRepS : R2 := fun x y H Q => ∃ a k, x = .str a ∧ y = .int k ∧ 0 ≤ k ∧ k ≤ 100 ∧ a.length ≤ 100000 ∧ Q (.str (Txt.mul a k)) H
theorem op_repS {X : Cx} : OpR X (binaryOp .Mult) rRepS := by
  intro pins s σ H x y v u Q I rx ry h
  obtain ⟨a, k, rfl, rfl, k0, k1, hl, q⟩ := h
  obtain ⟨t, rfl⟩ := rx
  obtain ⟨t', rfl⟩ := ry
  refine SB.mul ⟨?_, fun h1 h2 => ?_, fun h1 h2 => ?_⟩ fun t2 tk => ⟨.str (Txt.mul a k), H, I.tok _, ⟨_, rfl⟩, q⟩
  · rw [decide_eq_false (show ¬ k < -(2 ^ 63 : Int) by omega), decide_eq_false (show ¬ k ≥ 2 ^ 63 by omega)]; rfl
  · have k2 : 1 ≤ k := by omega
    have h3 : (a.length : Int) ≤ (2 ^ 63 - 1) / k := by
      refine (Int.le_ediv_iff_mul_le (by omega)).mpr ?_
      have h4 : (a.length : Int) * k ≤ 100000 * 100 := Int.mul_le_mul (by omega) k1 k0 (by decide)
      exact Int.le_trans h4 (by decide)
    omega
  · have : a.length * k.toNat ≤ 100000 * 100 := Nat.mul_le_mul hl (by omega)
    have h5 : 100000 * 100 ≤ sizeLine := by decide
    exact decide_eq_false (by omega)
theorem tcut_to {l : List Nat} {i : Int} (h : 0 ≤ i) : cutS (SX.S l) none (some i) = SX.S (l.take i.toNat) := (C8.cutS_slice _ _ _).trans (SX.slice_to h)
theorem tcut_from {l : List Nat} {i : Int} (h : 0 ≤ i) : cutS (SX.S l) (some i) none = SX.S (l.drop i.toNat) := (C8.cutS_slice _ _ _).trans (SX.slice_from h)
theorem tcut_mid {l : List Nat} {i j : Int} (h : 0 ≤ i) (h' : 0 ≤ j) : cutS (SX.S l) (some i) (some j) = SX.S ((l.take j.toNat).drop i.toNat) := by
  have e1 : HT.sIx (SX.S l).length 0 (some i) = min i.toNat l.length := by
    rw [SX.S_len]
    unfold HT.sIx
    simp
    omega
  have e2 : HT.sIx (SX.S l).length (SX.S l).length (some j) = min j.toNat l.length := by
    rw [SX.S_len]
    unfold HT.sIx
    simp
    omega
  unfold cutS
  rw [e1, e2]
  show SX.S ((l.drop (min i.toNat l.length)).take (min j.toNat l.length - min i.toNat l.length)) = _
  congr 1
  rw [List.drop_take]
  by_cases c : i.toNat ≤ l.length
  · rw [Nat.min_eq_left c]
    by_cases c2 : j.toNat ≤ l.length
    · rw [Nat.min_eq_left c2]
    · rw [Nat.min_eq_right (a := j.toNat) (b := l.length) (by omega), List.take_of_length_le (by rw [List.length_drop]; omega), List.take_of_length_le (by rw [List.length_drop]; omega)]
  · rw [Nat.min_eq_right (a := i.toNat) (b := l.length) (by omega), List.drop_eq_nil_of_le (Nat.le_refl _), List.drop_eq_nil_of_le (by omega), List.take_nil, List.take_nil]
theorem len_S {l : List Nat} (h : l.length ≤ 1000000) : (SX.S l).length ≤ sizeLine := by
  rw [SX.S_len]
  exact Nat.le_trans h (by decide)
/-- a whole number, written -/
def numI (i : Int) : List Nat := if i < 0 then 45 :: TL.numL i.natAbs else TL.numL i.natAbs
theorem strI_S (i : Int) : Str.ofString (toString i) = SX.S (numI i) := by
  unfold numI
  cases i with
  | ofNat n =>
    rw [if_neg (by show ¬ ((n : Int) < 0); omega)]
    exact SX.num_S n
  | negSucc n =>
    rw [if_pos (Int.negSucc_lt_zero n)]
    have e : toString (Int.negSucc n) = "-" ++ toString ((n + 1 : Nat) : Int) := rfl
    have e2 := congrArg (fun x : Str => x.cps.toList) (SX.num_S (n + 1))
    rw [e, lit_S]
    congr 1
    unfold lit
    rw [String.toList_append, List.map_append]
    have e3 : (toString ((n + 1 : Nat) : Int)).toList.map Char.toNat = TL.numL (n + 1) := by
      have := TL.tl_ofString (toString ((n + 1 : Nat) : Int))
      rw [← this]
      exact e2
    rw [e3]
    rfl
theorem find_S {l : List Nat} {c : Nat} : Txt.find (SX.S l) (SX.S [c]) = if c ∈ l then (l.idxOf c : Int) else -1 := by
  unfold Txt.find
  have at1 : ∀ i, StrLaws.At (SX.S l) (SX.S [c]) (SX.S l).length i ↔ l[i]? = some c := fun i => by
    rw [TL.at_iff (by simp) i]
    show ((l.drop i).take 1 == [c]) = true ↔ _
    rw [beq_iff_eq]
    cases hd : l.drop i with
    | nil =>
      have := List.drop_eq_nil_iff.mp hd
      rw [List.getElem?_eq_none this]
      simp
    | cons x r =>
      have : l[i]? = some x := by
        rw [← List.head?_drop, hd]
        rfl
      rw [this]
      simp
  rcases StrLaws.occ_head (SX.S l) (SX.S [c]) 1 (Nat.le_refl _) with ⟨h0, hn⟩ | ⟨i, r, h0, hi, hn⟩
  · rw [h0, if_neg]
    intro hm
    obtain ⟨j, hj⟩ := List.getElem?_of_mem hm
    exact hn j ((at1 j).mpr hj)
  · have gi := (at1 i).mp hi
    have lt := (List.getElem?_eq_some_iff.mp gi).1
    rw [h0, if_pos (List.mem_of_getElem? gi)]
    show (i : Int) = _
    have e : l.idxOf c = i := by
      have h2 : l.idxOf c ≤ i := by
        have := List.getElem?_eq_some_iff.mp gi
        refine Nat.le_of_not_lt fun hlt => ?_
        have := List.not_of_lt_findIdx (p := (· == c)) (xs := l) (i := i) hlt
        simp_all
      have h3 : ¬ l.idxOf c < i := fun hlt => hn _ hlt ((at1 _).mpr (by
        rw [List.getElem?_eq_getElem (by omega)]
        rw [List.getElem_idxOf]))
      omega
    rw [e]
section
variable {K : PySem.W.Frag} {σ : L2.St} {H : Hp} {Q : VK} {te : TE} {tt : TT} {x y : Str} {l m : List Nat} {i j k : Int} {c : Nat} {p : Addr} {xs : List V}
theorem r_slTo (hx : x = SX.S l) (h : 0 ≤ i) (n : l.length ≤ 1000000) (q : Q (.str (SX.S (l.take i.toNat))) H) : rSlS (.str x) none (some i) H Q := by
  subst hx
  exact ⟨_, rfl, len_S n, by rw [tcut_to h]; exact q⟩
theorem r_slFrom (hx : x = SX.S l) (h : 0 ≤ i) (n : l.length ≤ 1000000) (q : Q (.str (SX.S (l.drop i.toNat))) H) : rSlS (.str x) (some i) none H Q := by
  subst hx
  exact ⟨_, rfl, len_S n, by rw [tcut_from h]; exact q⟩
theorem r_slMid (hx : x = SX.S l) (h : 0 ≤ i) (h' : 0 ≤ j) (n : l.length ≤ 1000000) (q : Q (.str (SX.S ((l.take j.toNat).drop i.toNat))) H) : rSlS (.str x) (some i) (some j) H Q := by
  subst hx
  exact ⟨_, rfl, len_S n, by rw [tcut_mid h h']; exact q⟩
theorem r_addS (hx : x = SX.S l) (hy : y = SX.S m) (n : l.length ≤ 1000000) (n' : m.length ≤ 1000000) (q : Q (.str (SX.S (l ++ m))) H) : rAddS (.str x) (.str y) H Q := by
  subst hx hy
  refine ⟨_, _, rfl, rfl, ?_, by rw [SX.S_cat]; exact q⟩
  rw [SX.S_len, SX.S_len]
  exact Nat.le_trans (Nat.add_le_add n n') (by decide)
theorem r_eqSS' (hx : x = SX.S l) (hy : y = SX.S m) (q : Q (.bl (decide (l = m))) H) : rEq (.str x) (.str y) H Q := by
  subst hx hy
  refine r_eqS ?_
  rw [SX.S_beq_eq]
  exact q
theorem r_neSS' (hx : x = SX.S l) (hy : y = SX.S m) (q : Q (.bl (!decide (l = m))) H) : rNe (.str x) (.str y) H Q := by
  subst hx hy
  refine r_neS ?_
  rw [SX.S_beq_eq]
  exact q
theorem r_inS (hy : y = SX.S m) (q : Q (.bl (decide (c ∈ m))) H) : rInSg false (.str (SX.S [c])) (.str y) H Q := by
  subst hy
  exact ⟨c, _, rfl, rfl, q⟩
theorem r_ninS (hy : y = SX.S m) (q : Q (.bl (!decide (c ∈ m))) H) : rInSg true (.str (SX.S [c])) (.str y) H Q := by
  subst hy
  exact ⟨c, _, rfl, rfl, q⟩
theorem r_ixS (hx : x = SX.S l) (h : 0 ≤ i) (g : l[i.toNat]? = some c) (n : l.length ≤ 1000000) (q : Q (.str (SX.S [c])) H) : rIxS (.str x) (.int i) H Q := by
  subst hx
  refine ⟨_, _, c, rfl, rfl, len_S n, ?_, q⟩
  have lt := (List.getElem?_eq_some_iff.mp g).1
  show (ixN l.length i).bind (fun j => l[j]?) = some c
  have e : ixN l.length i = some i.toNat := by
    unfold ixN
    repeat' split
    all_goals first | rfl | omega | (congr 1; omega)
  rw [e]
  exact g
theorem r_lenSS (hx : x = SX.S l) (n : l.length ≤ 1000000) (q : Q (.int (l.length : Nat)) H) : rLenStr [.str x] H Q := by
  subst hx
  refine r_lenS (len_S n) ?_
  rw [SX.S_len]
  exact q
theorem r_strI (n : Sz 1900 i) (q : Q (.str (SX.S (numI i))) H) : rStrI [.int i] H Q := ⟨i, rfl, by
  have := n
  unfold Sz at this
  by_cases z : i.natAbs = 0
  · rw [z]; decide
  · exact Nat.lt_of_lt_of_le ((Nat.log2_lt z).mpr this) (by decide), by
  show Q (.str (Str.ofString (toString i))) H
  rw [strI_S]
  exact q⟩
theorem r_findS (hx : x = SX.S l) (hy : y = SX.S [c]) (q : Q (.int (if c ∈ l then (l.idxOf c : Int) else -1)) H) : rFindS (.str x) [.str y] H Q := by
  subst hx hy
  exact ⟨_, _, rfl, rfl, by rw [find_S]; exact q⟩
theorem r_splitS (hx : x = SX.S l) (hy : y = SX.S [c]) (hc : c < 256) (n : l.length ≤ 1000000) (q : ∀ p H1, H p = none → Ex H H1 → H1 p = some (.lst ((TL.spl [c] 0 [] l).map fun z => .str (SX.S z))) → Q (.ref p) H1) : rSplitS (.str x) [.str y] H Q := by
  subst hx hy
  refine ⟨_, _, rfl, rfl, rfl, ?_, fun p hp => q p _ hp (Ex.new hp) ?_⟩
  · rw [SX.S_len]
    exact Nat.le_trans (Nat.add_le_add_right n 2) (by decide)
  · rw [upd_same, SX.split_S (by simp) (by simp [hc]), List.map_map]
    rfl
theorem r_intS {n : Int} (hx : x = SX.S l) (g : PySem.intText? (SX.S l) = some n) (hl : l.length ≤ 640) (q : Q (.int n) H) : rIntS [.str x] H Q := by
  subst hx
  exact ⟨_, n, rfl, g, by rw [SX.S_len]; exact hl, q⟩
theorem mul_S {k : Int} (k0 : 0 ≤ k) : Txt.mul (SX.S l) k = SX.S (List.replicate k.toNat l).flatten := by
  unfold Txt.mul
  by_cases h1 : k < 1
  · rw [if_pos h1, show k.toNat = 0 by omega]
    rfl
  · rw [if_neg h1]
    have fl : ∀ (n : Nat) (acc : Array Nat), ((List.replicate n l.toArray).foldl (· ++ ·) acc).toList = acc.toList ++ (List.replicate n l).flatten := by
      intro n
      induction n with
      | zero => intro acc; simp
      | succ n ih =>
        intro acc
        rw [List.replicate_succ, List.foldl_cons, ih, List.replicate_succ, List.flatten_cons]
        simp
    by_cases h2 : (k == 1 || (SX.S l).length == 0) = true
    · rw [if_pos h2]
      rw [Bool.or_eq_true, beq_iff_eq, beq_iff_eq, SX.S_len] at h2
      rcases h2 with rfl | h2
      · simp
      · rw [List.eq_nil_of_length_eq_zero h2]
        congr 1
        simp
    · rw [if_neg h2]
      refine TL.ext_tl ?_
      show ((List.replicate k.toNat l.toArray).foldl (· ++ ·) #[]).toList = _
      rw [fl]
      rfl
theorem r_inL (h : SqL K H p xs) {v : V} (fx : flatV v = true) (fs : xs.all flatV = true) (q : Q (.bl (inV v xs)) H) : rIn K false v (.ref p) H Q := ⟨p, xs, rfl, .inl h, fx, fs, q⟩
theorem r_inT (h : SqT K H p xs) {v : V} (fx : flatV v = true) (fs : xs.all flatV = true) (q : Q (.bl (inV v xs)) H) : rIn K false v (.ref p) H Q := ⟨p, xs, rfl, .inr h, fx, fs, q⟩
theorem r_ninL (h : SqL K H p xs) {v : V} (fx : flatV v = true) (fs : xs.all flatV = true) (q : Q (.bl (!inV v xs)) H) : rIn K true v (.ref p) H Q := ⟨p, xs, rfl, .inl h, fx, fs, q⟩
theorem r_ninT (h : SqT K H p xs) {v : V} (fx : flatV v = true) (fs : xs.all flatV = true) (q : Q (.bl (!inV v xs)) H) : rIn K true v (.ref p) H Q := ⟨p, xs, rfl, .inr h, fx, fs, q⟩
theorem r_iStr {R : It → Hp → Prop} (k : te σ H fun v H1 => ∃ z, v = .str z ∧ R (Its z) H1) : iStr te σ H R := k
/-- [e for a sign in a text if t] -/
theorem lc_strF {vs : List Nat} {jj : Nat} (b : Nat → Bool) (f : Nat → V) (hn : l.length ≤ 1000000) (hw : ∀ v, wipe ((wipe σ vs).set jj (some v)) vs = wipe σ vs)
    (ht : ∀ z ∈ l, PureT tt ((wipe σ vs).set jj (some (.str (SX.S [z])))) H (b z)) (he : ∀ z ∈ l, b z = true → PureE te ((wipe σ vs).set jj (some (.str (SX.S [z])))) H (f z))
    (q : ∀ p H1, H p = none → Ex H H1 → H1 p = some (.lst ((l.filter b).map f)) → Q (.ref p) H1) : LcB (Its (SX.S l)) (gName jj) tt te vs σ H Q := fun Dl hD => by
  have sz : (SX.S l).cps.size = l.length := by simp [SX.S]
  refine lc_it walk_str (fun i H' => Ex H H' ∧ H' Dl = some (.lst (((l.take i).filter b).map f))) ⟨Ex.new hD, upd_same⟩ (fun _ _ _ _ => trivial) (fun i v G G' hi pv y => ?_) (fun H' p => q Dl H' hD p.1 (by rw [p.2, sz, List.take_length]))
  obtain ⟨rfl, c, hc, rfl⟩ := y
  have hc : l[i]? = some c := by
    have : (l.toArray)[i]? = some c := hc
    simpa using this
  have mem := List.mem_of_getElem? hc
  have tk : l.take (i + 1) = l.take i ++ [c] := by rw [List.take_add_one, hc]; rfl
  refine ⟨hw _, ht c mem _ pv.1 _ fun H2 e2 => ?_⟩
  cases hb : b c with
  | true =>
    rw [if_pos rfl]
    refine he c mem hb H2 (pv.1.trans e2) _ fun H3 e3 => ⟨_, e3 _ _ (e2 _ _ pv.2), ?_, ?_⟩
    · rw [List.length_map]
      have := List.length_filter_le b (l.take i)
      rw [List.length_take] at this
      exact Nat.lt_of_le_of_lt (show _ ≤ 1000000 by omega) (by decide)
    · refine ⟨fun a o ho => ?_, ?_⟩
      · rw [upd_ne (ne_of_none ho hD)]
        exact e3 _ _ (e2 _ _ (pv.1 _ _ ho))
      · rw [upd_same, tk, List.filter_append, List.map_append]
        simp [hb]
  | false =>
    rw [if_neg Bool.false_ne_true]
    refine ⟨pv.1.trans e2, ?_⟩
    rw [tk, List.filter_append, List.map_append]
    simp [hb, e2 _ _ pv.2]
end
theorem L_e : Str.ofString "" = SX.S [] := (lit_S _).trans (congrArg SX.S lit_e)
theorem L_k : Str.ofString "k" = SX.S [107] := (lit_S _).trans (congrArg SX.S lit_k)
theorem L_plus : Str.ofString "+" = SX.S [43] := (lit_S _).trans (congrArg SX.S lit_plus)
theorem L_minus : Str.ofString "-" = SX.S [45] := (lit_S _).trans (congrArg SX.S lit_minus)
theorem L_m0 : Str.ofString "-0" = SX.S [45, 48] := (lit_S _).trans (congrArg SX.S lit_m0)
theorem L_z : Str.ofString "0" = SX.S [48] := (lit_S _).trans (congrArg SX.S lit_z)
theorem L_bar : Str.ofString "/" = SX.S [47] := (lit_S _).trans (congrArg SX.S lit_bar)
theorem L_sp : Str.ofString " " = SX.S [32] := (lit_S _).trans (congrArg SX.S lit_sp)
theorem L_nl : Str.ofString "\n" = SX.S [10] := (lit_S _).trans (congrArg SX.S lit_nl)
theorem L_dig : Str.ofString "0123456789" = SX.S [48, 49, 50, 51, 52, 53, 54, 55, 56, 57] := (lit_S _).trans (congrArg SX.S lit_dig)
theorem L_pm : Str.ofString "+-" = SX.S [43, 45] := (lit_S _).trans (congrArg SX.S lit_pm)
theorem r_strE {F : Str → Prop} {x : Str} {l : List Nat} (hx : x = SX.S l) (k : F (SX.S l)) : ∃ z, V.str x = .str z ∧ F z := ⟨_, rfl, by rw [hx]; exact k⟩
local macro_rules | `(tactic| walk_at "str") => `(tactic| first
  | with_reducible exact L_e | with_reducible exact L_k | with_reducible exact L_plus | with_reducible exact L_minus | with_reducible exact L_m0 | with_reducible exact L_z
  | with_reducible exact L_bar | with_reducible exact L_sp | with_reducible exact L_nl | with_reducible exact L_dig | with_reducible exact L_pm | with_reducible exact lit_S _ | with_reducible exact rfl | fail "no step")
local macro_rules | `(tactic| walk_at "len") => `(tactic| first
  | assumption | (simp only [List.length_take, List.length_drop, List.length_append, List.length_cons, List.length_nil, List.length_singleton]; omega) | omega | decide | fail "no step")
local macro_rules | `(tactic| walk_at "go1") => `(tactic| first
  | ((with_reducible refine r_slTo (l := ?l) ?a ?h ?n ?_); (case a => walk_at "str"); (case h => walk_at "pos"); (case n => walk_at "len"))
  | ((with_reducible refine r_slFrom (l := ?l) ?a ?h ?n ?_); (case a => walk_at "str"); (case h => walk_at "pos"); (case n => walk_at "len"))
  | ((with_reducible refine r_slMid (l := ?l) ?a ?h ?h2 ?n ?_); (case a => walk_at "str"); (case h => walk_at "pos"); (case h2 => walk_at "pos"); (case n => walk_at "len"))
  | ((with_reducible refine r_addS (l := ?l) (m := ?m) ?a ?b ?h ?n ?_); (case a => walk_at "str"); (case b => walk_at "str"); (case h => walk_at "len"); (case n => walk_at "len"))
  | ((with_reducible refine r_eqSS' (l := ?l) (m := ?m) ?a ?b ?_); (case a => walk_at "str"); (case b => walk_at "str"))
  | ((with_reducible refine r_neSS' (l := ?l) (m := ?m) ?a ?b ?_); (case a => walk_at "str"); (case b => walk_at "str"))
  | ((with_reducible refine r_inS (m := ?m) ?b ?_); (case b => walk_at "str"))
  | ((with_reducible refine r_ninS (m := ?m) ?b ?_); (case b => walk_at "str"))
  | ((with_reducible refine r_lenSS (l := ?l) ?a ?n ?_); (case a => walk_at "str"); (case n => walk_at "len"))
  | ((with_reducible refine r_strI ?n ?_); (case n => walk_at "szm"))
  | ((with_reducible refine r_splitS (l := ?l) (c := ?c) ?a ?b ?c2 ?n ?_); (case a => walk_at "str"); (case b => walk_at "str"); (case c2 => decide); (case n => walk_at "len"); intro _ _ _ _ _)
  | ((with_reducible refine r_findS (l := ?l) (c := ?c) ?a ?b ?_); (case a => walk_at "str"); (case b => walk_at "str"))
  | with_reducible refine r_iStr ?_
  | ((with_reducible refine r_strE (l := ?l) ?a ?_); (case a => walk_at "str"))
  | fail "no step")
theorem pcall0 {X : Cx} {x : Str} {p pos : Pos} {k : Nat} {sp : Sp} (G : Has X.prog X.w X.K X.mg X.base CX0 k x [] sp) (hr : Room k X.A) (hg : Gl X x := by rfl) (hdb : (x == ("__debug__" : Str)) = false := by decide) : PE X (.Call (.Name x p) [] [] pos) (tCal sp E0 tNil) := by
  obtain ⟨f, fd, m, kp, b, F⟩ := G
  have q := pe_call0 (p := p) (pos := pos) F hr hg m kp b (dvs := []) .nil pass0 hdb
  exact ⟨fun pins s σ H Q I h => q.run pins s σ H Q I h⟩

--@ needs TxtV
/-! the numbers that words write -/
def allD (l : List Nat) : Bool := l.all fun c => decide (48 ≤ c) && decide (c ≤ 57)
theorem allD_iff {l : List Nat} : allD l = true ↔ NumText.AllDigits l := by
  unfold allD NumText.AllDigits
  rw [List.all_eq_true]
  constructor
  · intro h c hc
    have := h c hc
    rw [Bool.and_eq_true, decide_eq_true_eq, decide_eq_true_eq] at this
    exact this
  · intro h c hc
    have := h c hc
    rw [decide_eq_true this.1, decide_eq_true this.2]
    rfl
def figs (l : List Nat) : List Nat := if l.take 1 = [45] then l.drop 1 else l
def nT (l : List Nat) : Option Int :=
  if (figs l).length < 1 ∨ 30 < (figs l).length ∨ l = [45, 48] then none
  else if allD (figs l) = false ∨ ((figs l)[0]? = some 48 ∧ 1 < (figs l).length) then none
  else some (if l.take 1 = [45] then -(NumText.digitsVal (figs l) : Int) else NumText.digitsVal (figs l))
theorem dv_snoc (g : List Nat) (d : Nat) : NumText.digitsVal (g ++ [d]) = NumText.digitsVal g * 10 + (d - 48) := by
  unfold NumText.digitsVal
  rw [List.foldl_append]
  rfl
theorem snoc_ind {P : List Nat → Prop} (h0 : P []) (h1 : ∀ g d, P g → P (g ++ [d])) (l : List Nat) : P l := by
  rw [← List.reverse_reverse (as := l)]
  induction l.reverse with
  | nil => exact h0
  | cons d g ih => rw [List.reverse_cons]; exact h1 _ _ ih
theorem dv_lt (f : List Nat) : NumText.AllDigits f → NumText.digitsVal f < 10 ^ f.length := by
  refine snoc_ind (P := fun f => NumText.AllDigits f → NumText.digitsVal f < 10 ^ f.length) (fun _ => by decide) (fun g d ih h => ?_) f
  have hg := ih fun c hc => h c (List.mem_append_left _ hc)
  have hd := h d (by simp)
  rw [dv_snoc, List.length_append, List.length_singleton, Nat.pow_succ]
  omega
theorem numL_head {n : Nat} (h : 1 ≤ n) : (TL.numL n)[0]? ≠ some 48 := by
  induction n using Nat.strongRecOn with
  | _ n ih =>
    by_cases h10 : n < 10
    · rw [TL.numL_lt h10]
      simp
      omega
    · rw [TL.numL_step (by omega)]
      have := ih (n / 10) (by omega) (by omega)
      rw [List.getElem?_append_left (List.length_pos_iff.mpr (TL.numL_ne _))]
      exact this
theorem numL_back (f : List Nat) : NumText.AllDigits f → f ≠ [] → (f[0]? = some 48 → f.length ≤ 1) → TL.numL (NumText.digitsVal f) = f := by
  refine snoc_ind (P := fun f => NumText.AllDigits f → f ≠ [] → (f[0]? = some 48 → f.length ≤ 1) → TL.numL (NumText.digitsVal f) = f) (fun _ h => (h rfl).elim) (fun g d ih h _ hz => ?_) f
  have hd := h d (by simp)
  by_cases hg : g = []
  · subst hg
    have : NumText.digitsVal ([] ++ [d]) = d - 48 := by rw [dv_snoc]; show 0 * 10 + _ = _; omega
    rw [this, TL.numL_lt (by omega)]
    show [48 + (d - 48)] = [d]
    congr 1
    omega
  · have gl := List.length_pos_iff.mpr hg
    have h0 : g[0]? ≠ some 48 := fun z => by
      have := hz (by rw [List.getElem?_append_left gl]; exact z)
      rw [List.length_append, List.length_singleton] at this
      omega
    have e := ih (fun c hc => h c (List.mem_append_left _ hc)) hg (fun z => (h0 z).elim)
    have n1 : 1 ≤ NumText.digitsVal g := by
      refine Nat.one_le_iff_ne_zero.mpr fun z => h0 ?_
      rw [z, TL.numL_lt (by decide)] at e
      rw [← e]
      rfl
    rw [dv_snoc, TL.numL_step (by omega), show (NumText.digitsVal g * 10 + (d - 48)) / 10 = NumText.digitsVal g by omega, show (NumText.digitsVal g * 10 + (d - 48)) % 10 = d - 48 by omega, e]
    congr 2
    omega
theorem numI_neg {n : Int} (h : n < 0) : numI n = 45 :: TL.numL n.natAbs := by unfold numI; rw [if_pos h]
theorem numI_nn {n : Int} (h : 0 ≤ n) : numI n = TL.numL n.natAbs := by unfold numI; rw [if_neg (by omega)]
theorem numL_no45 (n : Nat) : (TL.numL n).take 1 ≠ [45] := by
  intro h
  have : 45 ∈ (TL.numL n).take 1 := by rw [h]; simp
  exact TL.numL_free (s := 45) (by omega) (List.mem_of_mem_take this)
theorem nT_iff {l : List Nat} {n : Int} : nT l = some n ↔ l = numI n ∧ n.natAbs < 10 ^ 30 := by
  constructor
  · intro h
    unfold nT at h
    split at h
    · cases h
    · rename_i h1
      split at h
      · cases h
      · rename_i h2
        have hA : NumText.AllDigits (figs l) := by
          refine allD_iff.mp ?_
          cases z : allD (figs l)
          · exact (h2 (.inl z)).elim
          · rfl
        have hne : figs l ≠ [] := fun z => h1 (.inl (by rw [z]; decide))
        have h48 : (figs l)[0]? = some 48 → (figs l).length ≤ 1 := fun z => by
          refine Nat.le_of_not_lt fun z2 => h2 (.inr ⟨z, z2⟩)
        have eb := numL_back _ hA hne h48
        have lt : NumText.digitsVal (figs l) < 10 ^ 30 := Nat.lt_of_lt_of_le (dv_lt _ hA) (Nat.pow_le_pow_right (by decide) (Nat.le_of_not_lt fun z => h1 (.inr (.inl z))))
        by_cases h45 : l.take 1 = [45]
        · rw [if_pos h45] at h
          have hf : figs l = l.drop 1 := by unfold figs; rw [if_pos h45]
          have hl : l = 45 :: figs l := by
            rw [hf]
            have := List.take_append_drop 1 l
            rw [h45] at this
            exact this.symm
          have n1 : 1 ≤ NumText.digitsVal (figs l) := by
            refine Nat.one_le_iff_ne_zero.mpr fun z => h1 (.inr (.inr ?_))
            rw [z, TL.numL_lt (by decide)] at eb
            rw [hl, ← eb]
          have e := Option.some.inj h
          refine ⟨?_, by omega⟩
          rw [numI_neg (by omega), show n.natAbs = NumText.digitsVal (figs l) by omega, eb]
          exact hl
        · rw [if_neg h45] at h
          have hf : figs l = l := by unfold figs; rw [if_neg h45]
          have e := Option.some.inj h
          refine ⟨?_, by omega⟩
          rw [numI_nn (by omega), show n.natAbs = NumText.digitsVal (figs l) by omega, eb, hf]
  · rintro ⟨rfl, hn⟩
    have len := TL.numL_len (n := n.natAbs) (k := 30) (by decide) hn
    have ne := TL.numL_ne n.natAbs
    have ll := List.length_pos_iff.mpr ne
    have ok : ¬ (allD (TL.numL n.natAbs) = false ∨ ((TL.numL n.natAbs)[0]? = some 48 ∧ 1 < (TL.numL n.natAbs).length)) := by
      rintro (h | ⟨h, h'⟩)
      · rw [allD_iff.mpr (TL.numL_digits _)] at h
        cases h
      · by_cases z : n.natAbs = 0
        · rw [z, TL.numL_lt (by decide)] at h'
          simp at h'
        · exact numL_head (by omega) h
    by_cases hs : n < 0
    · have hl := numI_neg hs
      have ht : (numI n).take 1 = [45] := by rw [hl]; rfl
      have hf : figs (numI n) = TL.numL n.natAbs := by unfold figs; rw [if_pos ht, hl]; rfl
      unfold nT
      rw [hf, if_neg, if_neg ok, if_pos ht, TL.numL_val]
      · congr 1
        omega
      · rintro (h | h | h)
        · omega
        · omega
        · rw [hl] at h
          have h := List.tail_eq_of_cons_eq h
          exact numL_head (n := n.natAbs) (by omega) (by rw [h]; rfl)
    · have hl := numI_nn (n := n) (by omega)
      have ht : (numI n).take 1 ≠ [45] := by rw [hl]; exact numL_no45 _
      have hf : figs (numI n) = TL.numL n.natAbs := by unfold figs; rw [if_neg ht, hl]
      unfold nT
      rw [hf, if_neg, if_neg ok, if_neg ht, TL.numL_val]
      · congr 1
        omega
      · rintro (h | h | h)
        · omega
        · omega
        · rw [h] at ht
          exact ht rfl
theorem nT_int {l : List Nat} {n : Int} (h : nT l = some n) : PySem.intText? (SX.S l) = some n := by
  obtain ⟨hl, hn⟩ := nT_iff.mp h
  have len := TL.numL_len (n := n.natAbs) (k := 30) (by decide) hn
  by_cases hs : n < 0
  · rw [numI_neg hs] at hl
    subst hl
    refine (PySem.intText_neg (x := SX.S (45 :: TL.numL n.natAbs)) (cs := TL.numL n.natAbs) rfl (TL.numL_digits _) (TL.numL_ne _) ?_).trans ?_
    · rw [SX.S_len, List.length_cons]
      omega
    · rw [TL.numL_val]
      congr 1
      omega
  · rw [numI_nn (by omega)] at hl
    subst hl
    refine (PySem.intText_digits (x := SX.S (TL.numL n.natAbs)) (TL.numL_digits _) (TL.numL_ne _) ?_).trans ?_
    · rw [SX.S_len]
      omega
    · show some ((NumText.digitsVal (TL.numL n.natAbs) : Nat) : Int) = _
      rw [TL.numL_val]
      congr 1
      omega
theorem nT_len {l : List Nat} {n : Int} (h : nT l = some n) : l.length ≤ 31 := by
  obtain ⟨rfl, hn⟩ := nT_iff.mp h
  have len := TL.numL_len (n := n.natAbs) (k := 30) (by decide) hn
  unfold numI
  split
  · rw [List.length_cons]; omega
  · omega
def oI : Option Int → V
  | none => .non
  | some n => .int n
theorem dig_in (z : Nat) : decide (z ∈ [48, 49, 50, 51, 52, 53, 54, 55, 56, 57]) = (decide (48 ≤ z) && decide (z ≤ 57)) := by
  rw [← Bool.decide_and]
  refine decide_eq_decide.mpr ?_
  simp only [List.mem_cons, List.not_mem_nil, or_false]
  omega
/-- plain signs -/
def okT (l : List Nat) : Prop := ∀ c ∈ l, c < 128
theorem okT.sub {l m : List Nat} (h : okT l) (s : ∀ c ∈ m, c ∈ l) : okT m := fun c hc => h c (s c hc)
theorem okT.take {l : List Nat} (h : okT l) (n : Nat) : okT (l.take n) := h.sub fun _ hc => List.mem_of_mem_take hc
theorem okT.drop {l : List Nat} (h : okT l) (n : Nat) : okT (l.drop n) := h.sub fun _ hc => List.mem_of_mem_drop hc
theorem okT.app {l m : List Nat} (h : okT l) (h' : okT m) : okT (l ++ m) := fun c hc => (List.mem_append.mp hc).elim (h c) (h' c)
theorem figs_sub (l : List Nat) : ∀ c ∈ figs l, c ∈ l := fun c hc => by
  unfold figs at hc
  split at hc
  · exact List.mem_of_mem_drop hc
  · exact hc
theorem strOk_S {l : List Nat} (h : okT l) : PyData.canLay0 (.str (SX.S l)) = true := by
  show PyData.strOk (SX.S l) = true
  unfold PyData.strOk
  show (l.toArray.all fun c => decide (c < 0x110000)) = true
  rw [Array.all_eq_true']
  intro c hc
  have := h c (by simpa using hc)
  exact decide_eq_true (by omega)
theorem eqv_nil (ds : List PyData) : PyData.eqv (.list ds) (.list []) = ds.isEmpty := by
  cases ds <;> rfl
/-- [sign for sign in figures if it is no figure] != [] -/
theorem nodig_nil (l : List Nat) : ((l.filter fun c => !(decide (48 ≤ c) && decide (c ≤ 57))).isEmpty) = allD l := by
  induction l with
  | nil => rfl
  | cons c l ih =>
    rw [List.filter_cons]
    unfold allD
    rw [List.all_cons]
    cases (decide (48 ≤ c) && decide (c ≤ 57))
    · rfl
    · exact ih
theorem dp_sgs {K : PySem.W.Frag} {H : Hp} : ∀ l : List Nat, DpAll K H (l.map fun c => .str (SX.S [c])) (l.map fun c => .str (SX.S [c]))
  | [] => .nil
  | c :: l => .cons (.str _) (dp_sgs l)
theorem shp_sgs {l : List Nat} (h : okT l) : SeqAt.shaped (.list (l.map fun c => .str (SX.S [c]))) = true := by
  have h1 : PyData.canLayAll0 (l.map fun c => .str (SX.S [c])) = true := by
    induction l with
    | nil => rfl
    | cons c l ih =>
      show (PyData.canLay0 (.str (SX.S [c])) && PyData.canLayAll0 (l.map fun c => .str (SX.S [c]))) = true
      rw [ih (fun d hd => h d (List.mem_cons_of_mem _ hd)), strOk_S (fun d hd => by rw [List.mem_singleton.mp hd]; exact h c (by simp))]
      rfl
  have h2 : PyData.depthAll (l.map fun c => .str (SX.S [c])) ≤ 1 := by
    induction l with
    | nil => exact Nat.zero_le _
    | cons c l ih =>
      have := ih (fun d hd => h d (List.mem_cons_of_mem _ hd))
      show max (PyData.depth (.str (SX.S [c]))) (PyData.depthAll (l.map fun c => .str (SX.S [c]))) ≤ 1
      have h3 : PyData.depth (.str (SX.S [c])) ≤ 1 := by unfold PyData.depth; omega
      have h4 := this (by
        have := h1
        rw [List.map_cons] at this
        have e : (PyData.canLay0 (.str (SX.S [c])) && PyData.canLayAll0 (l.map fun c => .str (SX.S [c]))) = true := this
        rw [Bool.and_eq_true] at e
        exact e.2)
      omega
  unfold SeqAt.shaped
  rw [Bool.and_eq_true]
  exact ⟨by unfold PyData.canLay0; exact h1, decide_eq_true (by unfold PyData.depth; omega)⟩

def sp_number_in (_ : PySem.W.Frag) : Sp := fun vs H Q _ => ∃ l : List Nat, vs = [.str (SX.S l)] ∧ l.length ≤ 1000000 ∧ ∀ H', Ex H H' → Q (oI (nT l)) H'
theorem use_number_in {K : PySem.W.Frag} {H : Hp} {Q : VK} {E : XK} {l : List Nat} (n : l.length ≤ 1000000) (q : ∀ H', Ex H H' → Q (oI (nT l)) H') : sp_number_in K [.str (SX.S l)] H Q E := ⟨l, rfl, n, q⟩
abbrev s_number_in : Stmt := topS 54
abbrev nm_number_in : List Str := ["word", "figures", "sign"]
theorem sc_number_in : FnScope nm_number_in ["word"] (defScope s_number_in) := ⟨rfl, rfl, rfl, by decide +kernel, rfl, by decide +kernel, by decide +kernel⟩
theorem st_number_in {v0 : V} : start nm_number_in [v0] = [some v0, none, none] := rfl
section
variable {P : Program} {w : World} {K : PySem.W.Frag} {mg : Str → Option Value} {base : Heap}
theorem ok_number_in (D : DefAt K mg "number_in" s_number_in ["word"]) (B_len : mg "len" = none) (B_all : mg "all" = none) (B_int : mg "int" = none) (T_MOST_FIGURES : ∃ t, mg "MOST_FIGURES" = some (.int MOST_FIGURES_val t)) : Has P w K mg base CX0 2 "number_in" ["word"] (sp_number_in K) := by
  refine D.ok sc_number_in (by rintro _ _ _ _ ⟨_, rfl, _⟩; rfl) (fun f cdv A outer s H vs Q E hr h => ?_)
  obtain ⟨_, T_MOST_FIGURES⟩ := T_MOST_FIGURES
  obtain ⟨l, rfl, n, q⟩ := h
  refine ⟨_, (pss_cons (ps_set (i := 1) sc_number_in.nd rfl (Or.inl rfl) (pv 0))
      (pcut (ps_if (pt_cmpR op_eq (pe_slice sl_str (pv 0) po_none (po_some pe_int)) pe_str (nomark _)) (pss_one (ps_set (i := 1) sc_number_in.nd rfl (Or.inl rfl) (pe_slice sl_str (pv 0) (po_some pe_int) po_none))) pss_nil)
      (pss_cons (ps_if (PW.pt (pw_or (pt_cmpR op_lt (pe_callB cl_lenS (by rfl) B_len (by decide +kernel) (pa_cons (pv 1) pa_nil)) pe_int (nomark _)) (pw_or (pt_cmpR op_gt (pe_callB cl_lenS (by rfl) B_len (by decide +kernel) (pa_cons (pv 1) pa_nil)) (pe_glob (v := .int (30)) rfl T_MOST_FIGURES ⟨_, rfl⟩) (nomark _)) (pw_or1 (pt_cmpR op_eq (pv 0) pe_str (nomark _)))))) (pss_one (ps_ret pe_non)) pss_nil)
      (pss_cons (ps_if (PW.pt (pw_or (pt_not (pt_val (pe_callB (cr_all rfl) (by rfl) B_all (by decide +kernel) (pa_cons (pe_lc rfl sc_number_in.nd (pi_str (pv 1)) (blkOk_by (own := [("sign", 2)]) (N := nm_number_in) (sc := defScope s_number_in) (by decide +kernel)) (fun _ _ _ _ _ => (pg_name (i := 2) sc_number_in.nd rfl (Or.inl rfl))) (fun _ _ _ _ _ => pts_nil) (fun _ _ _ _ _ => (pe_cmpR op_inS (pv 2) pe_str (by rfl)))) pa_nil)))) (pw_or1 (PW.pt (pw_and (pt_cmpR op_eq (pe_ix ix_str (pv 1) pe_int (fun _ _ => rfl)) pe_str (nomark _)) (pw_and1 (pt_cmpR op_gt (pe_callB cl_lenS (by rfl) B_len (by decide +kernel) (pa_cons (pv 1) pa_nil)) pe_int (nomark _)))))))) (pss_one (ps_ret pe_non)) pss_nil)
      (pss_one (ps_ret (pe_callTy call_intS (by rfl) B_int (by decide +kernel) (pa_cons (pv 0) pa_nil)))))))), ?_⟩
  rw [st_number_in]
  try dsimp only [Cx.nox, Cx.wish, Cx.blk, cx_K]
  walk_at "go"
  refine r_cut (fun σ H' => H' = H ∧ ∃ o2 : Option V, σ = [some (.str (SX.S l)), some (.str (SX.S (figs l))), o2]) ?_ ?_
  · walk_at "go"
    refine if_2 (fun h0 => ?_) (fun h0 => ?_)
    · have h0 : l.take 1 = [45] := of_decide_eq_true h0
      walk_at "go"
      refine ⟨rfl, none, ?_⟩
      unfold figs
      rw [if_pos h0]
      rfl
    · have h0 : ¬ l.take 1 = [45] := of_decide_eq_false h0
      walk_at "go"
      refine ⟨rfl, none, ?_⟩
      unfold figs
      rw [if_neg h0]
  rintro σ H' ⟨rfl, o2, rfl⟩
  have nf : (figs l).length ≤ 1000000 := by
    unfold figs
    split
    · rw [List.length_drop]; omega
    · exact n
  walk_at "go"
  have none_ : (figs l).length < 1 ∨ 30 < (figs l).length ∨ l = [45, 48] → nT l = none := fun z => by unfold nT; rw [if_pos z]
  refine if_2 (fun h1 => ?_) (fun h1 => ?_)
  · have h1 := of_decide_eq_true h1
    walk_at "go"
    have e := q _ Ex.refl
    rw [none_ (.inl (by omega))] at e
    exact e
  have h1 := of_decide_eq_false h1
  walk_at "go"
  refine if_2 (fun h2 => ?_) (fun h2 => ?_)
  · have h2 := of_decide_eq_true h2
    walk_at "go"
    have e := q _ Ex.refl
    rw [none_ (.inr (.inl (by omega)))] at e
    exact e
  have h2 := of_decide_eq_false h2
  walk_at "go"
  refine if_2 (fun h3 => ?_) (fun h3 => ?_)
  · have h3 := of_decide_eq_true h3
    walk_at "go"
    have e := q _ Ex.refl
    rw [none_ (.inr (.inr h3))] at e
    exact e
  have h3 := of_decide_eq_false h3
  walk_at "go"
  have n1 : ¬ ((figs l).length < 1 ∨ 30 < (figs l).length ∨ l = [45, 48]) := by
    rintro (z | z | z)
    · omega
    · omega
    · exact h3 z
  refine lc_strF (fun _ => true) (fun c => .bl (decide (48 ≤ c) && decide (c ≤ 57))) nf (fun _ => rfl) (fun z hz H1 e1 QE kE => tYes_k (kE _ Ex.refl)) (fun z hz _ H1 e1 QE kE => ?_) (fun p H1 np e1 hp => ?_)
  · walk_at "go"
    have e := kE _ Ex.refl
    rw [dig_in]
    exact e
  · walk_at "go"
    rw [List.filter_eq_self.mpr (fun _ _ => rfl)] at hp
    have hp : H1 p = some (.lst (((figs l).map fun c => decide (48 ≤ c) && decide (c ≤ 57)).map V.bl)) := by
      rw [hp, List.map_map]
      rfl
    refine r_all (SqL.of hp) ?_
    rw [List.all_map]
    show ∃ b, V.bl (allD (figs l)) = .bl b ∧ _
    walk_at "go"
    have none2 : allD (figs l) = false ∨ ((figs l)[0]? = some 48 ∧ 1 < (figs l).length) → nT l = none := fun z => by unfold nT; rw [if_neg n1, if_pos z]
    cases hA : allD (figs l) with
    | false =>
      walk_at "go"
      have e := q _ e1
      rw [none2 (.inl hA)] at e
      exact e
    | true =>
      walk_at "go"
      obtain ⟨c, hc⟩ : ∃ c, (figs l)[0]? = some c := ⟨_, List.getElem?_eq_getElem (by omega)⟩
      refine r_ixS (c := c) rfl (by decide) hc nf ?_
      walk_at "go"
      have last : ¬ ((figs l)[0]? = some 48 ∧ 1 < (figs l).length) → Q (oI (nT l)) H1 ∧ ∃ n, nT l = some n := fun z => ⟨q _ e1, _, by
        unfold nT
        rw [if_neg n1, if_neg]
        rintro (z2 | z2)
        · rw [hA] at z2; cases z2
        · exact z z2⟩
      have fin : ¬ ((figs l)[0]? = some 48 ∧ 1 < (figs l).length) → rIntS [.str (SX.S l)] H1 Q := fun z => by
        obtain ⟨e, n, hn⟩ := last z
        rw [hn] at e
        exact r_intS rfl (nT_int hn) (by have := nT_len hn; omega) e
      refine if_2 (fun h4 => ?_) (fun h4 => ?_)
      · have h4 : [c] = [48] := of_decide_eq_true h4
        have h4 : c = 48 := by simpa using h4
        subst h4
        walk_at "go"
        refine if_2 (fun h5 => ?_) (fun h5 => ?_)
        · have h5 := of_decide_eq_true h5
          walk_at "go"
          have e := q _ e1
          rw [none2 (.inr ⟨hc, by omega⟩)] at e
          exact e
        · have h5 := of_decide_eq_false h5
          walk_at "go"
          exact fin fun z => h5 (by have := z.2; omega)
      · have h4 : ¬ [c] = [48] := of_decide_eq_false h4
        walk_at "go"
        refine fin fun z => h4 ?_
        rw [hc] at z
        rw [Option.some.inj z.1]

end
--@ needs NumT ThingV
/-! texts cut at a sign; the text of a stair -/
def cutAt (c : Nat) : List Nat → List (List Nat)
  | [] => [[]]
  | x :: r => if x = c then [] :: cutAt c r else match cutAt c r with
    | p :: ps => (x :: p) :: ps
    | [] => [[x]]
theorem cutAt_hit {c : Nat} {r : List Nat} : cutAt c (c :: r) = [] :: cutAt c r := by
  show (if c = c then _ else _) = _
  rw [if_pos rfl]
theorem cutAt_miss {c x : Nat} {r p : List Nat} {ps : List (List Nat)} (h : x ≠ c) (e : cutAt c r = p :: ps) : cutAt c (x :: r) = (x :: p) :: ps := by
  show (if x = c then _ else _) = _
  rw [if_neg h, e]
theorem cutAt_ne (c : Nat) : ∀ l : List Nat, ∃ p ps, cutAt c l = p :: ps
  | [] => ⟨_, _, rfl⟩
  | x :: r => by
    obtain ⟨p, ps, e⟩ := cutAt_ne c r
    by_cases h : x = c
    · subst h
      exact ⟨_, _, cutAt_hit⟩
    · exact ⟨_, _, cutAt_miss h e⟩
theorem spl_cut (c : Nat) : ∀ (l acc : List Nat) (p : List Nat) (ps : List (List Nat)), cutAt c l = p :: ps → TL.spl [c] 0 acc l = (acc ++ p) :: ps
  | [], acc, p, ps, h => by
    cases h
    rw [TL.spl_nil, List.append_nil]
  | x :: r, acc, p, ps, h => by
    obtain ⟨p', ps', e⟩ := cutAt_ne c r
    by_cases hx : x = c
    · subst hx
      rw [cutAt_hit, e] at h
      cases h
      rw [TL.spl_hit (by show ((x :: r).take 1 == [x]) = true; simp)]
      have := spl_cut x r [] _ _ e
      rw [List.append_nil]
      show acc :: TL.spl [x] 0 [] r = _
      rw [this]
      rfl
    · rw [cutAt_miss hx e] at h
      cases h
      rw [TL.spl_miss (by show ((x :: r).take 1 == [c]) = false; simp [hx]), spl_cut c r _ _ _ e, List.append_assoc]
      rfl
theorem spl_eq (c : Nat) (l : List Nat) : TL.spl [c] 0 [] l = cutAt c l := by
  obtain ⟨p, ps, e⟩ := cutAt_ne c l
  rw [spl_cut c l [] p ps e, e]
  rfl
theorem cutAt_free {c : Nat} : ∀ {l : List Nat}, c ∉ l → cutAt c l = [l]
  | [], _ => rfl
  | x :: r, h => cutAt_miss (fun z => h (by rw [z]; exact List.mem_cons_self)) (cutAt_free fun z => h (List.mem_cons_of_mem _ z))
theorem cutAt_app {c : Nat} : ∀ {p : List Nat} (q : List Nat), c ∉ p → cutAt c (p ++ c :: q) = p :: cutAt c q
  | [], q, _ => cutAt_hit
  | x :: r, q, h => cutAt_miss (fun z => h (by rw [z]; exact List.mem_cons_self)) (cutAt_app q fun z => h (List.mem_cons_of_mem _ z))
theorem cutAt_sub {c : Nat} : ∀ {l p : List Nat}, p ∈ cutAt c l → ∀ x ∈ p, x ∈ l
  | [], p, h => by
    rw [List.mem_singleton.mp h]
    intro x hx
    cases hx
  | y :: r, p, h => by
    obtain ⟨p', ps', e⟩ := cutAt_ne c r
    intro x hx
    by_cases hy : y = c
    · subst hy
      rw [cutAt_hit] at h
      rcases List.mem_cons.mp h with rfl | h
      · cases hx
      · exact List.mem_cons_of_mem _ (cutAt_sub h x hx)
    · rw [cutAt_miss hy e] at h
      rcases List.mem_cons.mp h with rfl | h
      · rcases List.mem_cons.mp hx with rfl | hx
        · exact List.mem_cons_self
        · exact List.mem_cons_of_mem _ (cutAt_sub (c := c) (by rw [e]; exact List.mem_cons_self) x hx)
      · exact List.mem_cons_of_mem _ (cutAt_sub (c := c) (by rw [e]; exact List.mem_cons_of_mem _ h) x hx)
theorem cutAt_no {c : Nat} : ∀ {l p : List Nat}, p ∈ cutAt c l → c ∉ p
  | [], p, h => by
    rw [List.mem_singleton.mp h]
    exact List.not_mem_nil
  | y :: r, p, h => by
    obtain ⟨p', ps', e⟩ := cutAt_ne c r
    by_cases hy : y = c
    · subst hy
      rw [cutAt_hit] at h
      rcases List.mem_cons.mp h with rfl | h
      · exact List.not_mem_nil
      · exact cutAt_no h
    · rw [cutAt_miss hy e] at h
      rcases List.mem_cons.mp h with rfl | h
      · intro hx
        rcases List.mem_cons.mp hx with rfl | hx
        · exact hy rfl
        · exact cutAt_no (l := r) (by rw [e]; exact List.mem_cons_self) hx
      · exact cutAt_no (l := r) (by rw [e]; exact List.mem_cons_of_mem _ h)
theorem cutAt_join (c : Nat) : ∀ l : List Nat, TL.joinL [c] (cutAt c l) = l
  | [] => rfl
  | x :: r => by
    obtain ⟨p, ps, e⟩ := cutAt_ne c r
    have ih := cutAt_join c r
    rw [e] at ih
    by_cases h : x = c
    · subst h
      rw [cutAt_hit, e]
      show [] ++ ([x] ++ TL.joinL [x] (p :: ps)) = _
      rw [ih]
      rfl
    · rw [cutAt_miss h e]
      cases ps with
      | nil =>
        have ih : p = r := ih
        rw [ih]
        rfl
      | cons p2 ps =>
        have ih : p ++ ([c] ++ TL.joinL [c] (p2 :: ps)) = r := ih
        show (x :: p) ++ ([c] ++ TL.joinL [c] (p2 :: ps)) = _
        rw [← ih]
        rfl
theorem cutAt_two {c : Nat} {l p q : List Nat} (h : cutAt c l = [p, q]) : l = p ++ c :: q := by
  have := cutAt_join c l
  rw [h] at this
  have this : p ++ ([c] ++ q) = l := this
  rw [← this]
  simp
theorem cutAt_len (c : Nat) : ∀ l : List Nat, (cutAt c l).length ≤ l.length + 1
  | [] => Nat.le_refl _
  | x :: r => by
    obtain ⟨p, ps, e⟩ := cutAt_ne c r
    have := cutAt_len c r
    by_cases h : x = c
    · subst h
      rw [cutAt_hit]
      simp only [List.length_cons]
      omega
    · rw [cutAt_miss h e]
      rw [e] at this
      simp only [List.length_cons] at this ⊢
      omega
/-- the sign ahead of b -/
def sg (b : Int) : Nat := if b < 0 then 45 else 43
def wr (a b m : Int) : List Nat := numI a ++ 107 :: sg b :: (TL.numL b.natAbs ++ 47 :: TL.numL m.natAbs)
structure Wr (l : List Nat) (a b m : Int) : Prop where
  eq : l = wr a b m
  ha : a.natAbs < 10 ^ 30
  hb : b.natAbs < 10 ^ 30
  hm : m.natAbs < 10 ^ 30
  m0 : 0 < m
theorem numI_free {n : Int} {c : Nat} (h : c < 45 ∨ 57 < c ∨ c = 47) : c ∉ numI n := by
  intro hc
  unfold numI at hc
  split at hc
  · rcases List.mem_cons.mp hc with rfl | hc
    · omega
    · exact TL.numL_free (by omega) hc
  · exact TL.numL_free (by omega) hc
theorem sg_or (b : Int) : sg b = 43 ∨ sg b = 45 := by unfold sg; split; exact .inr rfl; exact .inl rfl
theorem nT_numI {n : Int} (h : n.natAbs < 10 ^ 30) : nT (numI n) = some n := nT_iff.mpr ⟨rfl, h⟩
theorem nT_numL {n : Nat} (h : n < 10 ^ 30) : nT (TL.numL n) = some (n : Int) := by
  have := nT_numI (n := (n : Int)) (by omega)
  rw [numI_nn (by omega)] at this
  exact this
theorem numI_len {n : Int} (h : n.natAbs < 10 ^ 30) : (numI n).length ≤ 31 := nT_len (nT_numI h)
theorem numL_len30 {n : Nat} (h : n < 10 ^ 30) : (TL.numL n).length ≤ 30 := TL.numL_len (by decide) h
namespace Wr
variable {l : List Nat} {a b m : Int}
theorem tail_free (_ : Wr l a b m) : (107 : Nat) ∉ sg b :: (TL.numL b.natAbs ++ 47 :: TL.numL m.natAbs) := by
  intro h
  rcases List.mem_cons.mp h with h | h
  · rcases sg_or b with z | z <;> omega
  · rcases List.mem_append.mp h with h | h
    · exact TL.numL_free (by omega) h
    · rcases List.mem_cons.mp h with h | h
      · omega
      · exact TL.numL_free (by omega) h
theorem cut (W : Wr l a b m) : cutAt 107 l = [numI a, sg b :: (TL.numL b.natAbs ++ 47 :: TL.numL m.natAbs)] := by
  rw [W.eq]
  unfold wr
  rw [cutAt_app _ (numI_free (by omega)), cutAt_free W.tail_free]
theorem cut2 (_ : Wr l a b m) : cutAt 47 (TL.numL b.natAbs ++ 47 :: TL.numL m.natAbs) = [TL.numL b.natAbs, TL.numL m.natAbs] := by
  rw [cutAt_app _ (TL.numL_free (by omega)), cutAt_free (TL.numL_free (by omega))]
theorem len (W : Wr l a b m) : l.length ≤ 100 := by
  rw [W.eq]
  unfold wr
  have h1 := numI_len W.ha
  have h2 := numL_len30 W.hb
  have h3 := numL_len30 W.hm
  simp only [List.length_append, List.length_cons]
  omega
theorem ok (W : Wr l a b m) : okT l := by
  rw [W.eq]
  have d : ∀ n, okT (TL.numL n) := fun n c hc => by
    have := TL.numL_digits n c hc
    omega
  intro c hc
  unfold wr at hc
  rcases List.mem_append.mp hc with hc | hc
  · unfold numI at hc
    split at hc
    · rcases List.mem_cons.mp hc with rfl | hc
      · omega
      · exact d _ c hc
    · exact d _ c hc
  · rcases List.mem_cons.mp hc with rfl | hc
    · omega
    · rcases List.mem_cons.mp hc with hc | hc
      · rcases sg_or b with z | z <;> omega
      · rcases List.mem_append.mp hc with hc | hc
        · exact d _ c hc
        · rcases List.mem_cons.mp hc with rfl | hc
          · omega
          · exact d _ c hc
end Wr
theorem Wr.uniq {l : List Nat} {a b m a' b' m' : Int} (W : Wr l a b m) (W' : Wr l a' b' m') : a = a' ∧ b = b' ∧ m = m' := by
  have h := W.cut.symm.trans W'.cut
  injection h with h1 h2
  injection h2 with h2 _
  injection h2 with hs h3
  have e := W.cut2.symm.trans ((congrArg (cutAt 47) h3).trans W'.cut2)
  injection e with e1 e2
  injection e2 with e2 _
  have n1 : some a = some a' := by rw [← nT_numI W.ha, ← nT_numI W'.ha, h1]
  have n2 := TL.numL_inj e1
  have n3 := TL.numL_inj e2
  have m1 := W.m0
  have m2 := W'.m0
  refine ⟨Option.some.inj n1, ?_, by omega⟩
  unfold sg at hs
  split at hs <;> split at hs <;> omega
theorem in_pm (l : List Nat) : inV (.str (SX.S l)) [.str (Str.ofString "+"), .str (Str.ofString "-")] = (decide (l = [43]) || decide (l = [45])) := by
  show ((Str.ofString "+" == SX.S l) || ((Str.ofString "-" == SX.S l) || false)) = _
  rw [L_plus, L_minus, SX.S_beq_eq, SX.S_beq_eq, Bool.or_false, decide_eq_decide.mpr (eq_comm (a := [43]) (b := l)), decide_eq_decide.mpr (eq_comm (a := [45]) (b := l))]
/-- what a word writes, for values -/
def nV : V → V
  | .str z => oI (nT (TL.tl z))
  | _ => .non
theorem nV_S (l : List Nat) : nV (.str (SX.S l)) = oI (nT l) := rfl
theorem Wr.no0 {l : List Nat} {a b m : Int} (_ : Wr l a b m) : ¬ (List.take (Int.toNat 2) (sg b :: (TL.numL b.natAbs ++ 47 :: TL.numL m.natAbs)) = [45, 48]) := by
  intro h
  obtain ⟨c, r, e⟩ := List.exists_cons_of_ne_nil (TL.numL_ne b.natAbs)
  rw [e] at h
  have h : [sg b, c] = [45, 48] := h
  injection h with h1 h2
  injection h2 with h2 _
  unfold sg at h1
  split at h1
  · rename_i hb
    refine numL_head (n := b.natAbs) (by omega) ?_
    rw [e, h2]
    rfl
  · omega
theorem inV_nons (xs : List (Option Int)) : inV .non (xs.map oI) = xs.any Option.isNone := by
  unfold inV
  rw [List.any_map]
  congr 1
  funext x
  cases x <;> rfl
theorem numI_pos45 {u : List Nat} {n : Int} (h : nT u = some n) (h45 : ¬ u.take 1 = [45]) : 0 ≤ n ∧ u = TL.numL n.natAbs := by
  obtain ⟨e, hn⟩ := nT_iff.mp h
  by_cases z : n < 0
  · rw [numI_neg z] at e
    exact (h45 (by rw [e]; rfl)).elim
  · rw [numI_nn (by omega)] at e
    exact ⟨by omega, e⟩
theorem Wr.of {l p u v : List Nat} {c : Nat} {a b m : Int} (hl : l = p ++ 107 :: c :: (u ++ 47 :: v)) (hc : c = 43 ∨ c = 45) (hp : nT p = some a) (hu : nT u = some b) (hv : nT v = some m)
    (u45 : ¬ u.take 1 = [45]) (v45 : ¬ v.take 1 = [45]) (m0 : m ≠ 0) (n0 : ¬ List.take 2 (c :: (u ++ 47 :: v)) = [45, 48]) : Wr l a (if c = 45 then 0 - b else b) m := by
  obtain ⟨b0, eu⟩ := numI_pos45 hu u45
  obtain ⟨mm, ev⟩ := numI_pos45 hv v45
  have ha := nT_iff.mp hp
  have hb := (nT_iff.mp hu).2
  have hm := (nT_iff.mp hv).2
  rcases hc with rfl | rfl
  · rw [if_neg (by decide)]
    refine ⟨?_, ha.2, hb, hm, by omega⟩
    rw [hl, ha.1, eu, ev]
    unfold wr sg
    rw [if_neg (by omega)]
  · rw [if_pos rfl]
    have b1 : b ≠ 0 := fun z => by
      rw [z] at eu
      have eu : u = [48] := eu.trans (TL.numL_lt (by decide))
      rw [eu] at n0
      exact n0 rfl
    refine ⟨?_, ha.2, by omega, hm, by omega⟩
    rw [hl, ha.1, eu, ev]
    unfold wr sg
    rw [if_pos (by omega), show (0 - b).natAbs = b.natAbs by omega]
theorem idx_app {c : Nat} {p q : List Nat} (h : c ∉ p) : (p ++ c :: q).idxOf c = p.length := by
  induction p with
  | nil => simp [List.idxOf_cons]
  | cons x p ih =>
    have h1 : x ≠ c := fun z => h (by rw [z]; exact List.mem_cons_self)
    rw [List.cons_append, List.idxOf_cons, ih fun z => h (List.mem_cons_of_mem _ z), show (x == c) = false from beq_eq_false_iff_ne.mpr h1]
    rfl
/-- where a sign is found, else 0 -/
def fnd (c : Nat) (l : List Nat) : Int := max (if c ∈ l then (l.idxOf c : Int) else -1) 0
theorem fnd_app {c : Nat} {p q : List Nat} (h : c ∉ p) : fnd c (p ++ c :: q) = p.length := by
  unfold fnd
  rw [if_pos (by simp), idx_app h]
  omega
theorem fnd0 (c : Nat) (l : List Nat) : 0 ≤ fnd c l := by
  unfold fnd
  omega
theorem Wr.nums {l : List Nat} {a b m : Int} (W : Wr l a b m) : nT (l.take (fnd 107 l).toNat) = some a ∧ nT ((l.take (fnd 47 l).toNat).drop (fnd 107 l + 2).toNat) = some (b.natAbs : Int) ∧ nT (l.drop (fnd 47 l + 1).toNat) = some m := by
  have h1 : fnd 107 l = (numI a).length := by
    rw [W.eq]
    exact fnd_app (numI_free (by omega))
  have e2 : l = (numI a ++ 107 :: sg b :: TL.numL b.natAbs) ++ 47 :: TL.numL m.natAbs := by
    rw [W.eq]
    unfold wr
    simp
  have h2 : fnd 47 l = ((numI a ++ 107 :: sg b :: TL.numL b.natAbs).length : Nat) := by
    rw [e2]
    refine fnd_app fun h => ?_
    rcases List.mem_append.mp h with h | h
    · exact numI_free (by omega) h
    · rcases List.mem_cons.mp h with h | h
      · omega
      · rcases List.mem_cons.mp h with h | h
        · rcases sg_or b with z | z <;> omega
        · exact TL.numL_free (by omega) h
  have t1 : l.take (fnd 107 l).toNat = numI a := by
    rw [h1, W.eq]
    show List.take (numI a).length _ = _
    unfold wr
    exact List.take_left' rfl
  have t2 : l.take (fnd 47 l).toNat = numI a ++ 107 :: sg b :: TL.numL b.natAbs := by
    rw [h2]
    conv => lhs; rw [e2]
    exact List.take_left' rfl
  have t3 : l.drop (fnd 47 l + 1).toNat = TL.numL m.natAbs := by
    rw [h2, show (((numI a ++ 107 :: sg b :: TL.numL b.natAbs).length : Nat) + 1 : Int).toNat = (numI a ++ 107 :: sg b :: TL.numL b.natAbs).length + 1 by omega]
    conv => lhs; rw [e2]
    rw [← List.drop_drop, List.drop_left' rfl]
    rfl
  have t4 : (l.take (fnd 47 l).toNat).drop (fnd 107 l + 2).toNat = TL.numL b.natAbs := by
    rw [t2, h1, show (((numI a).length : Nat) + 2 : Int).toNat = (numI a).length + 2 by omega, ← List.drop_drop, List.drop_left' rfl]
    rfl
  have m0 := W.m0
  refine ⟨by rw [t1, nT_numI W.ha], by rw [t4, nT_numL W.hb], ?_⟩
  rw [t3, nT_numL W.hm]
  congr 1
  omega
/-- what is no text -/
def NoTx (H : Hp) (v : V) : Prop := Kd1 H v ∧ ∀ z, v ≠ .str z
theorem NoTx.ex {H H' : Hp} {v : V} (h : NoTx H v) (e : Ex H H') : NoTx H' v := ⟨h.1.ex e, h.2⟩
/-- reckoned: whether it is a stair's text -/
def rdB (l : List Nat) : Bool :=
  match nT (l.take (fnd 107 l).toNat), nT ((l.take (fnd 47 l).toNat).drop (fnd 107 l + 2).toNat), nT (l.drop (fnd 47 l + 1).toNat) with
  | some a, some b, some m => (l == wr a b m || l == wr a (0 - b) m) && decide (0 < m)
  | _, _, _ => false
theorem Wr.rdB {l : List Nat} {a b m : Int} (W : Wr l a b m) : rdB l = true := by
  obtain ⟨h1, h2, h3⟩ := W.nums
  unfold Sd.rdB
  rw [h1, h2, h3]
  show ((l == wr a (b.natAbs : Int) m || l == wr a (0 - (b.natAbs : Int)) m) && decide (0 < m)) = true
  rw [decide_eq_true W.m0, Bool.and_true]
  by_cases hb : 0 ≤ b
  · rw [show (b.natAbs : Int) = b by omega, ← W.eq, beq_self_eq_true]
    rfl
  · rw [show (0 - (b.natAbs : Int)) = b by omega, ← W.eq, beq_self_eq_true, Bool.or_true]
def OddT (x : V) : Prop := ∃ l : List Nat, x = .str (SX.S l) ∧ l.length ≤ 900000 ∧ ∀ a b m, ¬ Wr l a b m
theorem oddT {l : List Nat} (h1 : l.length ≤ 900000) (h2 : rdB l = false) : OddT (.str (SX.S l)) := ⟨l, rfl, h1, fun a b m W => by rw [W.rdB] at h2; cases h2⟩
theorem oddT_lit (s : String) (h1 : (lit s).length ≤ 900000) (h2 : rdB (lit s) = false) : OddT (.str (Str.ofString s)) := by
  rw [lit_S]
  exact oddT h1 h2

--@ needs ReadV
/-! a text spoilt -/
theorem at_mem {xs : List V} {v : Int} (h0 : 0 ≤ v) (h1 : v < xs.length) : ∃ y, atI xs v = some y ∧ y ∈ xs := by
  have hv : v.toNat < xs.length := by omega
  refine ⟨xs[v.toNat], ?_, List.getElem_mem hv⟩
  unfold atI ixN
  rw [if_pos h0, if_pos (by omega)]
  exact List.getElem?_eq_getElem hv
theorem sg_at {l : List Nat} {v : Int} (_h0 : 0 ≤ v) (h1 : v < l.length) : ∃ c, l[v.toNat]? = some c ∧ c ∈ l := by
  have hv : v.toNat < l.length := by omega
  exact ⟨_, List.getElem?_eq_getElem hv, List.getElem_mem hv⟩
def wgt : List (List Nat) → Nat
  | [] => 0
  | w :: ws => w.length + 1 + wgt ws
theorem wgt_app : ∀ xs ys : List (List Nat), wgt (xs ++ ys) = wgt xs + wgt ys
  | [], ys => (Nat.zero_add _).symm
  | x :: xs, ys => by
    show x.length + 1 + wgt (xs ++ ys) = x.length + 1 + wgt xs + wgt ys
    rw [wgt_app xs ys]
    omega
theorem wgt_mem {w : List Nat} : ∀ {ws : List (List Nat)}, w ∈ ws → w.length + 1 ≤ wgt ws
  | x :: ws, h => by
    show _ ≤ x.length + 1 + wgt ws
    rcases List.mem_cons.mp h with rfl | h
    · omega
    · have := wgt_mem h
      omega
theorem wgt_len : ∀ ws : List (List Nat), ws.length ≤ wgt ws
  | [] => Nat.le_refl _
  | w :: ws => by
    have := wgt_len ws
    show ws.length + 1 ≤ w.length + 1 + wgt ws
    omega
theorem joinL_len (c : Nat) : ∀ ws : List (List Nat), (TL.joinL [c] ws).length ≤ wgt ws
  | [] => Nat.zero_le _
  | [w] => by show w.length ≤ w.length + 1 + 0; omega
  | w :: w2 :: ws => by
    have := joinL_len c (w2 :: ws)
    show (w ++ ([c] ++ TL.joinL [c] (w2 :: ws))).length ≤ w.length + 1 + wgt (w2 :: ws)
    rw [List.length_append, List.length_append, List.length_singleton]
    omega
theorem joinL_wgt (c : Nat) : ∀ ws : List (List Nat), ws ≠ [] → (TL.joinL [c] ws).length + 1 = wgt ws
  | [], h => (h rfl).elim
  | [w], _ => rfl
  | w :: w2 :: ws, _ => by
    have := joinL_wgt c (w2 :: ws) (List.cons_ne_nil _ _)
    show (w ++ ([c] ++ TL.joinL [c] (w2 :: ws))).length + 1 = w.length + 1 + wgt (w2 :: ws)
    rw [List.length_append, List.length_append, List.length_singleton]
    omega
theorem cut_wgt (c : Nat) (l : List Nat) : wgt (cutAt c l) = l.length + 1 := by
  obtain ⟨p, ps, e⟩ := cutAt_ne c l
  have := joinL_wgt c (cutAt c l) (by rw [e]; exact List.cons_ne_nil _ _)
  rw [cutAt_join] at this
  exact this.symm
theorem joinL_ok {c : Nat} (hc : c < 128) : ∀ {ws : List (List Nat)}, (∀ w ∈ ws, okT w) → okT (TL.joinL [c] ws)
  | [], _ => fun _ h => by cases h
  | [w], h => h w (by simp)
  | w :: w2 :: ws, h => by
    show okT (w ++ ([c] ++ TL.joinL [c] (w2 :: ws)))
    refine (h w (by simp)).app (okT.app (fun x hx => by rw [List.mem_singleton.mp hx]; exact hc) (joinL_ok hc fun x hx => h x (List.mem_cons_of_mem _ hx)))
def wstrs (zs : List (List Nat)) : List V := zs.map fun z => .str (SX.S z)
theorem wstrs_len (zs : List (List Nat)) : (wstrs zs).length = zs.length := List.length_map _
theorem r_joinS {K : PySem.W.Frag} {H : Hp} {Q : VK} {y : Str} {a : List Nat} {p : Addr} {zs : List (List Nat)} (hy : y = SX.S a) (ha : a.length ≤ 1) (h : H p = some (.lst (wstrs zs))) (n : wgt zs ≤ 8000000) (q : Q (.str (SX.S (TL.joinL a zs))) H) : rJoin K (.str y) [.ref p] H Q := by
  subst hy
  refine r_join (ys := zs.map SX.S) (SqL.of (by rw [h, List.map_map]; rfl)) ?_ (by rw [SX.join_S]; exact q)
  rw [List.map_map, List.length_map, SX.S_len]
  have e : (zs.map ((·.length) ∘ SX.S)).sum + zs.length = wgt zs := by
    clear h n q
    induction zs with
    | nil => rfl
    | cons z zs ih =>
      rw [List.map_cons, List.sum_cons, List.length_cons]
      show (SX.S z).length + _ + (zs.length + 1) = z.length + 1 + wgt zs
      rw [SX.S_len]
      omega
  have : zs.length * a.length ≤ zs.length := by
    have := Nat.mul_le_mul_left zs.length ha
    omega
  omega
theorem wcut_to (zs : List (List Nat)) {i : Int} (h0 : 0 ≤ i) (h : i ≤ zs.length) : cutV (wstrs zs) none (some i) = wstrs (zs.take i.toNat) := by
  unfold cutV
  have e1 : HT.sIx (wstrs zs).length 0 none = 0 := rfl
  have e2 : HT.sIx (wstrs zs).length (wstrs zs).length (some i) = i.toNat := by
    show (if i < 0 then (i + ((wstrs zs).length : Int)).toNat else min i.toNat (wstrs zs).length) = _
    rw [if_neg (by omega), wstrs_len]
    omega
  rw [e1, e2]
  show List.take i.toNat (List.map _ zs) = List.map _ _
  rw [List.map_take]
theorem wcut_from (zs : List (List Nat)) {i : Int} (h0 : 0 ≤ i) (h : i ≤ zs.length) : cutV (wstrs zs) (some i) none = wstrs (zs.drop i.toNat) := by
  unfold cutV
  have e1 : HT.sIx (wstrs zs).length 0 (some i) = i.toNat := by
    show (if i < 0 then (i + ((wstrs zs).length : Int)).toNat else min i.toNat (wstrs zs).length) = _
    rw [if_neg (by omega), wstrs_len]
    omega
  have e2 : HT.sIx (wstrs zs).length (wstrs zs).length none = (wstrs zs).length := rfl
  rw [e1, e2]
  rw [List.take_of_length_le (by rw [List.length_drop]; omega)]
  show List.drop i.toNat (List.map _ zs) = List.map _ _
  rw [List.map_drop]
theorem wstrs_app (xs ys : List (List Nat)) : wstrs xs ++ wstrs ys = wstrs (xs ++ ys) := (List.map_append).symm
theorem wstrs_at {zs : List (List Nat)} {v : Int} (h0 : 0 ≤ v) (h1 : v < zs.length) : ∃ w, atI (wstrs zs) v = some (.str (SX.S w)) ∧ w ∈ zs ∧ zs[v.toNat]? = some w := by
  have hv : v.toNat < zs.length := by omega
  refine ⟨zs[v.toNat], ?_, List.getElem_mem hv, List.getElem?_eq_getElem hv⟩
  unfold atI ixN
  rw [if_pos h0, wstrs_len, if_pos (by omega)]
  show (List.map _ zs)[v.toNat]? = _
  rw [List.getElem?_map, List.getElem?_eq_getElem hv]
  rfl
theorem wgt_drop1 {zs : List (List Nat)} {i : Nat} (h : i < zs.length) : wgt (zs.take i) + (zs[i].length + 1) + wgt (zs.drop (i + 1)) = wgt zs := by
  have e : zs = zs.take i ++ zs[i] :: zs.drop (i + 1) := by
    conv => lhs; rw [← List.take_append_drop i zs]
    rw [List.drop_eq_getElem_cons h]
  conv => rhs; rw [e]
  rw [wgt_app]
  show _ = wgt (zs.take i) + (zs[i].length + 1 + wgt (zs.drop (i + 1)))
  omega
theorem mul_S2 {l : List Nat} : Txt.mul (SX.S l) 2 = SX.S (l ++ l) := by
  rw [mul_S (by decide)]
  show SX.S (List.replicate 2 l).flatten = _
  simp [List.replicate]
theorem r_rep2 {H : Hp} {Q : VK} {y : Str} {l : List Nat} (hy : y = SX.S l) (n : l.length ≤ 100000) (q : Q (.str (SX.S (l ++ l))) H) : rRepS (.str y) (.int 2) H Q := by
  subst hy
  exact ⟨_, _, rfl, rfl, by decide, by decide, by rw [SX.S_len]; exact n, by rw [mul_S2]; exact q⟩
theorem r_repSn {H : Hp} {Q : VK} {y : Str} {l : List Nat} {k : Int} (hy : y = SX.S l) (k0 : 0 ≤ k) (k1 : k ≤ 100) (n : l.length ≤ 100000) (q : Q (.str (SX.S (List.replicate k.toNat l).flatten)) H) : rRepS (.str y) (.int k) H Q := by
  subst hy
  exact ⟨_, _, rfl, rfl, k0, k1, by rw [SX.S_len]; exact n, by rw [mul_S k0]; exact q⟩
/-- [x for x in a list if t], t never -/
theorem lc_lst0 {K : PySem.W.Frag} {σ : L2.St} {H : Hp} {Q : VK} {te : TE} {tt : TT} {a : Addr} {xs : List V} {j : Nat} {vs : List Nat} (hx : SqL K H a xs) (hw : ∀ x, wipe ((wipe σ vs).set j (some x)) vs = wipe σ vs)
    (ht : ∀ (i : Nat) x, xs[i]? = some x → PureT tt ((wipe σ vs).set j (some x)) H false)
    (k : ∀ p H1, H p = none → Ex H H1 → H1 p = some (.lst []) → Q (.ref p) H1) : LcB (Itl K a) (gName j) tt te vs σ H Q := fun Dl hD => by
  refine lc_list (xs := xs) (fun i H' => Ex H H' ∧ H' Dl = some (.lst [])) ⟨Ex.new hD, upd_same⟩ (fun i H' _ p => sql_up p.1 hx) (fun i x H' hi p => ?_) (fun H' p => k Dl H' hD p.1 p.2)
  refine ⟨hw _, ht i x hi H' p.1 _ fun H2 e2 => ?_⟩
  rw [if_neg Bool.false_ne_true]
  exact ⟨p.1.trans e2, e2 _ _ p.2⟩
theorem eqv_told (a b m : Int) (z : Str) : PyData.eqv (.tuple [.tuple [.int a, .int b, .int m], .str z]) (.tuple [.tuple [.int a, .int b, .int m], .str z]) = true := by
  show (((a == a) && ((b == b) && ((m == m) && true))) && ((z == z) && true)) = true
  rw [beq_self_eq_true, beq_self_eq_true, beq_self_eq_true, beq_self_eq_true]
  rfl
theorem shp_told (a b m : Int) (z : Str) (h : PyData.canLay0 (.str z) = true) : SeqAt.shaped (.tuple [.tuple [.int a, .int b, .int m], .str z]) = true := by
  unfold SeqAt.shaped
  rw [Bool.and_eq_true]
  refine ⟨?_, decide_eq_true ?_⟩
  · show ((true && (true && (true && true))) && (PyData.canLay0 (.str z) && true)) = true
    rw [h]
    rfl
  · simp [PyData.depth, PyData.depthAll]
local macro_rules | `(tactic| walk_at "go1") => `(tactic| first
  | ((with_reducible refine r_rep2 (l := ?l) ?a ?n ?_); (case a => walk_at "str"); (case n => walk_at "len"))
  | ((with_reducible refine r_joinS (zs := ?z) (a := ?b) ?a ?l ?h ?n ?_); (case a => walk_at "str"); (case l => decide); (case h => walk_at "at"); (case n => walk_at "len"))
  | fail "no step")

--@ needs LedgV
--@ needs ThingV
/-! things of any kind, at any depth -/
mutual
inductive Tg (F : Hp) : V → PyData → Prop
  | non : Tg F .non .none
  | bl (b : Bool) : Tg F (.bl b) (.bool b)
  | int (i : Int) : Tg F (.int i) (.int i)
  | str (x : Str) : Tg F (.str x) (.str x)
  | lst {a : Addr} {xs : List V} {ds : List PyData} : F a = some (.lst xs) → TgAll F xs ds → Tg F (.ref a) (.list ds)
  | tup {a : Addr} {xs : List V} {ds : List PyData} : F a = some (.tup xs) → TgAll F xs ds → Tg F (.ref a) (.tuple ds)
inductive TgAll (F : Hp) : List V → List PyData → Prop
  | nil : TgAll F [] []
  | cons {v : V} {vs : List V} {d : PyData} {ds : List PyData} : Tg F v d → TgAll F vs ds → TgAll F (v :: vs) (d :: ds)
end
mutual
theorem Tg.ex {F F' : Hp} (e : Ex F F') : ∀ {v : V} {d : PyData}, Tg F v d → Tg F' v d
  | _, _, .non => .non
  | _, _, .bl b => .bl b
  | _, _, .int i => .int i
  | _, _, .str x => .str x
  | _, _, .lst h a => .lst (e _ _ h) (a.ex e)
  | _, _, .tup h a => .tup (e _ _ h) (a.ex e)
theorem TgAll.ex {F F' : Hp} (e : Ex F F') : ∀ {vs : List V} {ds : List PyData}, TgAll F vs ds → TgAll F' vs ds
  | _, _, .nil => .nil
  | _, _, .cons h a => .cons (h.ex e) (a.ex e)
end
mutual
theorem Tg.dp {K : PySem.W.Frag} {F : Hp} : ∀ {v : V} {d : PyData}, Tg F v d → Dp K F v d
  | _, _, .non => .non
  | _, _, .bl b => .bl b
  | _, _, .int i => .int i
  | _, _, .str x => .str x
  | _, _, .lst h a => .lst (SqL.of h) a.dp
  | _, _, .tup h a => .tup (SqT.of h) a.dp
theorem TgAll.dp {K : PySem.W.Frag} {F : Hp} : ∀ {vs : List V} {ds : List PyData}, TgAll F vs ds → DpAll K F vs ds
  | _, _, .nil => .nil
  | _, _, .cons h a => .cons h.dp a.dp
end
theorem TgAll.len {F : Hp} {vs : List V} {ds : List PyData} (h : TgAll F vs ds) : vs.length = ds.length := by
  induction vs generalizing ds with
  | nil => cases h; rfl
  | cons v vs ih =>
    cases h with
    | cons _ a => rw [List.length_cons, List.length_cons, ih a]
theorem TgAll.get {F : Hp} {vs : List V} {ds : List PyData} (h : TgAll F vs ds) {i : Nat} {v : V} (g : vs[i]? = some v) : ∃ d, ds[i]? = some d ∧ Tg F v d := by
  induction vs generalizing ds i with
  | nil => simp at g
  | cons x vs ih =>
    cases h with
    | cons t a =>
      cases i with
      | zero => cases g; exact ⟨_, rfl, t⟩
      | succ i => exact ih a g
theorem TgAll.app {F : Hp} {vs us : List V} {ds es : List PyData} (h : TgAll F vs ds) (h' : TgAll F us es) : TgAll F (vs ++ us) (ds ++ es) := by
  induction vs generalizing ds with
  | nil => cases h; exact h'
  | cons x vs ih =>
    cases h with
    | cons t a => exact .cons t (ih a)
/-- its depth and sizes -/
def okD : Nat → PyData → Bool
  | _, .none => true
  | _, .bool _ => true
  | _, .int i => decide (i.natAbs < 2 ^ 620)
  | _, .str s => (PyData.str s).canLay0
  | j + 1, .list ds => decide (ds.length ≤ 1000) && ds.all (okD j)
  | j + 1, .tuple ds => decide (ds.length ≤ 1000) && ds.all (okD j)
  | _, _ => false
theorem okD_up : ∀ (j : Nat) (d : PyData), okD j d = true → okD (j + 1) d = true
  | _, .none, _ => rfl
  | _, .bool _, _ => rfl
  | 0, .int _, h => h
  | _ + 1, .int _, h => h
  | 0, .str _, h => h
  | _ + 1, .str _, h => h
  | 0, .list _, h => by cases h
  | 0, .tuple _, h => by cases h
  | 0, .dict _, h => by cases h
  | _ + 1, .dict _, h => by cases h
  | j + 1, .list ds, h => by
    show (decide (ds.length ≤ 1000) && ds.all (okD (j + 1))) = true
    have h : (decide (ds.length ≤ 1000) && ds.all (okD j)) = true := h
    rw [Bool.and_eq_true] at h ⊢
    exact ⟨h.1, List.all_eq_true.mpr fun x hx => okD_up j x (List.all_eq_true.mp h.2 x hx)⟩
  | j + 1, .tuple ds, h => by
    show (decide (ds.length ≤ 1000) && ds.all (okD (j + 1))) = true
    have h : (decide (ds.length ≤ 1000) && ds.all (okD j)) = true := h
    rw [Bool.and_eq_true] at h ⊢
    exact ⟨h.1, List.all_eq_true.mpr fun x hx => okD_up j x (List.all_eq_true.mp h.2 x hx)⟩
theorem okD_all {j : Nat} {ds : List PyData} (h : ds.all (okD j) = true) (ih : ∀ d, okD j d = true → d.canLay0 = true ∧ d.depth ≤ j + 1) : PyData.canLayAll0 ds = true ∧ PyData.depthAll ds ≤ j + 1 := by
  induction ds with
  | nil => exact ⟨rfl, Nat.zero_le _⟩
  | cons d ds ihs =>
    rw [List.all_cons, Bool.and_eq_true] at h
    obtain ⟨a, b⟩ := ih d h.1
    obtain ⟨a', b'⟩ := ihs h.2
    refine ⟨?_, ?_⟩
    · show (d.canLay0 && PyData.canLayAll0 ds) = true
      rw [a, a']
      rfl
    · show max d.depth (PyData.depthAll ds) ≤ j + 1
      omega
theorem okD_lay : ∀ (j : Nat) (d : PyData), okD j d = true → d.canLay0 = true ∧ d.depth ≤ j + 1
  | _, .none, _ => ⟨rfl, by simp [PyData.depth]⟩
  | _, .bool _, _ => ⟨rfl, by simp [PyData.depth]⟩
  | _, .int _, _ => ⟨rfl, by simp [PyData.depth]⟩
  | 0, .str _, h => ⟨h, by simp [PyData.depth]⟩
  | _ + 1, .str _, h => ⟨h, by simp [PyData.depth]⟩
  | 0, .list _, h => by cases h
  | 0, .tuple _, h => by cases h
  | 0, .dict _, h => by cases h
  | _ + 1, .dict _, h => by cases h
  | j + 1, .list ds, h => by
    have h : (decide (ds.length ≤ 1000) && ds.all (okD j)) = true := h
    rw [Bool.and_eq_true] at h
    obtain ⟨a, b⟩ := okD_all h.2 (okD_lay j)
    exact ⟨by unfold PyData.canLay0; exact a, by unfold PyData.depth; omega⟩
  | j + 1, .tuple ds, h => by
    have h : (decide (ds.length ≤ 1000) && ds.all (okD j)) = true := h
    rw [Bool.and_eq_true] at h
    obtain ⟨a, b⟩ := okD_all h.2 (okD_lay j)
    exact ⟨by unfold PyData.canLay0; exact a, by unfold PyData.depth; omega⟩
theorem okD_shaped {j : Nat} {d : PyData} (h : okD j d = true) (l : j ≤ 60) : SeqAt.shaped d = true := by
  obtain ⟨a, b⟩ := okD_lay j d h
  unfold SeqAt.shaped
  rw [a, Bool.true_and]
  exact decide_eq_true (by omega)
/-- whether a thing is a stair -/
def dSt : PyData → Bool
  | .tuple [.int _, .int _, .int m] => decide (1 ≤ m)
  | _ => false
theorem Tg.kd {F : Hp} {v : V} {d : PyData} (h : Tg F v d) : Kd1 F v := by
  cases h with
  | non => exact .inr (.inr (.inl rfl))
  | bl b => exact .inr (.inl ⟨b, rfl⟩)
  | int i => exact .inl ⟨i, rfl⟩
  | str x => exact .inr (.inr (.inr (.inl ⟨x, rfl⟩)))
  | lst h _ => exact .inr (.inr (.inr (.inr (.inl ⟨_, _, rfl, h⟩))))
  | tup h _ => exact .inr (.inr (.inr (.inr (.inr ⟨_, _, rfl, h⟩))))
theorem TgAll.kd {F : Hp} {vs : List V} {ds : List PyData} (h : TgAll F vs ds) : ∀ x ∈ vs, Kd1 F x := by
  induction vs generalizing ds with
  | nil => intro x hx; cases hx
  | cons y vs ih =>
    cases h with
    | cons t a =>
      intro x hx
      rcases List.mem_cons.mp hx with rfl | hx
      · exact t.kd
      · exact ih a x hx
theorem TgAll.stB {F : Hp} {vs : List V} {ds : List PyData} (h : TgAll F vs ds) : Sd.stB vs = dSt (.tuple ds) := by
  cases h with
  | nil => rfl
  | cons t1 a =>
    cases a with
    | nil => cases t1 <;> rfl
    | cons t2 a =>
      cases a with
      | nil => cases t1 <;> cases t2 <;> rfl
      | cons t3 a =>
        cases a with
        | nil => cases t1 <;> cases t2 <;> cases t3 <;> rfl
        | cons t4 a => cases t1 <;> cases t2 <;> cases t3 <;> rfl
/-- a thing that is no stair -/
theorem Tg.noSt {F : Hp} {v : V} {d : PyData} {j : Nat} (h : Tg F v d) (ok : okD j d = true) (n : dSt d = false) : NoSt F v := by
  cases h with
  | non => exact .inr ⟨.inr (.inr (.inl rfl)), by intro p xs e; cases e⟩
  | bl b => exact .inr ⟨.inr (.inl ⟨b, rfl⟩), by intro p xs e; cases e⟩
  | int i => exact .inr ⟨.inl ⟨i, rfl⟩, by intro p xs e; cases e⟩
  | str x => exact .inr ⟨.inr (.inr (.inr (.inl ⟨x, rfl⟩))), by intro p xs e; cases e⟩
  | lst h _ => exact .inr ⟨.inr (.inr (.inr (.inr (.inl ⟨_, _, rfl, h⟩)))), by
      intro p ys e h'
      cases e
      rw [h] at h'
      cases h'⟩
  | tup h a =>
    refine .inl ⟨_, _, rfl, h, ?_, a.kd, a.stB.trans n⟩
    rw [a.len]
    cases j with
    | zero => cases ok
    | succ j =>
      have ok : (decide (_ ≤ 1000) && _) = true := ok
      rw [Bool.and_eq_true] at ok
      exact of_decide_eq_true ok.1
/-- a thing that is a stair -/
theorem Tg.st {F : Hp} {v : V} {d : PyData} {j : Nat} (h : Tg F v d) (ok : okD j d = true) (n : dSt d = true) : ∃ p a b m, v = .ref p ∧ F p = some (.tup [.int a, .int b, .int m]) ∧ 0 < m ∧ Sz 620 a ∧ Sz 620 b ∧ Sz 620 m := by
  unfold dSt at n
  split at n
  · rename_i a b m
    cases h with
    | tup h t =>
      cases t with
      | cons t1 t =>
        cases t with
        | cons t2 t =>
          cases t with
          | cons t3 t =>
            cases t with
            | nil =>
              cases t1
              cases t2
              cases t3
              refine ⟨_, _, _, _, rfl, h, by have := of_decide_eq_true n; omega, ?_⟩
              cases j with
              | zero => cases ok
              | succ j =>
                have ok : (decide (_ ≤ 1000) && (okD j (.int a) && (okD j (.int b) && (okD j (.int m) && true)))) = true := ok
                rw [Bool.and_eq_true, Bool.and_eq_true, Bool.and_eq_true, Bool.and_eq_true] at ok
                obtain ⟨_, o1, o2, o3, _⟩ := ok
                have z : ∀ i : Int, okD j (.int i) = true → Sz 620 i := fun i h => by
                  have h : decide (i.natAbs < 2 ^ 620) = true := by cases j <;> exact h
                  exact of_decide_eq_true (p := i.natAbs < 2 ^ 620) h
                exact ⟨z a o1, z b o2, z m o3⟩
  · cases n
/-- those of a tuple that a test keeps -/
theorem lc_tupF {K : PySem.W.Frag} {σ : L2.St} {H : Hp} {Q : VK} {te : TE} {tt : TT} {a : Addr} {xs : List V} {j : Nat} {vs : List Nat} (c : V → Bool) (hx : SqT K H a xs) (hn : xs.length ≤ 100000) (hw : ∀ x, wipe ((wipe σ vs).set j (some x)) vs = wipe σ vs)
    (ht : ∀ x ∈ xs, PureT tt ((wipe σ vs).set j (some x)) H (c x)) (he : ∀ x ∈ xs, PureE te ((wipe σ vs).set j (some x)) H x)
    (k : ∀ p H1, H p = none → Ex H H1 → H1 p = some (.lst (xs.filter c)) → Q (.ref p) H1) : LcB (Itt K a) (gName j) tt te vs σ H Q := fun Dl hD => by
  refine lc_tup (xs := xs) (fun i H' => Ex H H' ∧ H' Dl = some (.lst ((xs.take i).filter c))) ⟨Ex.new hD, upd_same⟩ (fun i H' _ p => sqt_up p.1 hx) (fun i x H' hi p => ?_) (fun H' p => k Dl H' hD p.1 (by rw [p.2, List.take_length]))
  have mem := List.mem_of_getElem? hi
  have tk : xs.take (i + 1) = xs.take i ++ [x] := by rw [List.take_add_one, hi]; rfl
  refine ⟨hw _, ht x mem H' p.1 _ fun H2 e2 => ?_⟩
  cases hc : c x with
  | true =>
    rw [if_pos rfl]
    refine he x mem H2 (p.1.trans e2) _ fun H3 e3 => ⟨_, e3 _ _ (e2 _ _ p.2), ?_, ?_⟩
    · have := List.length_filter_le c (xs.take i)
      rw [List.length_take] at this
      exact len_lt (by omega)
    · refine ⟨fun b o hb => ?_, ?_⟩
      · rw [upd_ne (ne_of_none hb hD)]
        exact e3 _ _ (e2 _ _ (p.1 _ _ hb))
      · rw [upd_same, tk, List.filter_append]
        simp [hc]
  | false =>
    rw [if_neg (by decide)]
    refine ⟨p.1.trans e2, ?_⟩
    rw [tk, List.filter_append]
    simp [hc]
    exact e2 _ _ p.2
theorem TgAll.filter {F : Hp} (c : V → Bool) {vs : List V} {ds : List PyData} (h : TgAll F vs ds) : ∃ es, TgAll F (vs.filter c) es ∧ ∀ j, ds.all (okD j) = true → es.all (okD j) = true := by
  induction vs generalizing ds with
  | nil => cases h; exact ⟨[], .nil, fun _ h => h⟩
  | cons v vs ih =>
    cases h with
    | cons t a =>
      rename_i d ds
      obtain ⟨es, h1, h2⟩ := ih a
      rw [List.filter_cons]
      cases c v with
      | true => exact ⟨d :: es, .cons t h1, fun j h => by
          rw [List.all_cons, Bool.and_eq_true] at h ⊢
          exact ⟨h.1, h2 j h.2⟩⟩
      | false => exact ⟨es, h1, fun j h => by
          rw [List.all_cons, Bool.and_eq_true] at h
          exact h2 j h.2⟩
theorem dSt_ne3 {F : Hp} {xs : List V} {ds : List PyData} (h : TgAll F xs ds) (n : xs.length ≠ 3) : dSt (.tuple ds) = false := by
  rw [← h.stB]
  unfold stB
  split
  · exact (n rfl).elim
  · rfl

theorem TgAll.take {F : Hp} {vs : List V} {ds : List PyData} (h : TgAll F vs ds) (i : Nat) : TgAll F (vs.take i) (ds.take i) := by
  induction vs generalizing ds i with
  | nil => cases h; simp; exact .nil
  | cons v vs ih =>
    cases h with
    | cons t a =>
      cases i with
      | zero => exact .nil
      | succ i => exact .cons t (ih a i)
theorem TgAll.drop {F : Hp} {vs : List V} {ds : List PyData} (h : TgAll F vs ds) (i : Nat) : TgAll F (vs.drop i) (ds.drop i) := by
  induction vs generalizing ds i with
  | nil => cases h; simp; exact .nil
  | cons v vs ih =>
    cases h with
    | cons t a =>
      cases i with
      | zero => exact .cons t a
      | succ i => exact ih a i
/-- F has grown in a run that draws -/
structure G1 (F0 H0 : Hp) (d : Addr) (F H : Hp) : Prop where
  g : Gr F0 H0 F
  e : Ex F H
  k : Kp d H0 H
  D : Dr H d
  f : F d = none
  d0 : ∃ o, H0 d = some o
theorem G1.begin {F H : Hp} {d : Addr} (e : Ex F H) (D : Dr H d) (f : F d = none) : G1 F H d F H := ⟨Gr.refl, e, Kp.refl, D, f, by obtain ⟨ys, h⟩ := D.lst; exact ⟨_, h⟩⟩
theorem G1.free {F0 H0 F H : Hp} {d q : Addr} (G : G1 F0 H0 d F H) (n : H q = none) : H0 q = none := by
  cases h : H0 q with
  | none => rfl
  | some o =>
    by_cases z : q = d
    · exact (G.D.free n z).elim
    · rw [G.k _ _ z h] at n
      cases n
theorem G1.add {F0 H0 F H H' : Hp} {d q : Addr} {o : HO} (G : G1 F0 H0 d F H) (n : H0 q = none) (e : Ex H H') (h : H' q = some o) : ∃ F', G1 F0 H0 d F' H' ∧ Ex F F' ∧ F' q = some o := by
  have qd : q ≠ d := fun z => by
    obtain ⟨u, hu⟩ := G.d0
    rw [← z, n] at hu
    cases hu
  have x : Ex F (upd F q o) := fun a u ha => by
    by_cases z : a = q
    · subst z
      rw [upd_same, ← h]
      exact e _ _ (G.e _ _ ha)
    · rw [upd_ne z]
      exact ha
  refine ⟨upd F q o, ⟨⟨G.g.ex.trans x, fun a u ha => ?_⟩, fun a u ha => ?_, G.k.trans e.kp, G.D.up e, ?_, G.d0⟩, x, upd_same⟩
  · rw [upd_ne (ne_of_none ha n)]
    exact G.g.eq a u ha
  · by_cases z : a = q
    · subst z
      rw [upd_same] at ha
      rw [← ha]
      exact h
    · rw [upd_ne z] at ha
      exact e _ _ (G.e _ _ ha)
  · rw [upd_ne qd.symm]
    exact G.f
theorem G1.dr {F0 H0 F H H' : Hp} {d : Addr} (G : G1 F0 H0 d F H) (k : Kp d H H') (D : Dr H' d) : G1 F0 H0 d F H' := ⟨G.g, G.e.kpd G.f k, G.k.trans k, D, G.f, G.d0⟩
theorem G1.up {F0 H0 F H H' : Hp} {d : Addr} (G : G1 F0 H0 d F H) (e : Ex H H') : G1 F0 H0 d F H' := ⟨G.g, G.e.trans e, G.k.trans e.kp, G.D.up e, G.f, G.d0⟩
theorem r_slAF {K : PySem.W.Frag} {H : Hp} {Q : VK} {p : Addr} {xs : List V} {lo hi : Option Int} (h : H p = some (.tup xs)) (nw : cutV xs lo hi ≠ xs) (k : ∀ q H1, H q = none → Ex H H1 → H1 q = some (.tup (cutV xs lo hi)) → Q (.ref q) H1) : rSlA K (.ref p) lo hi H Q :=
  ⟨p, xs, rfl, SqT.of h, fun w => absurd (cutV_whole w) nw, fun _ q hq => k q _ hq (Ex.new hq) upd_same⟩
theorem r_catAF {K : PySem.W.Frag} {H : Hp} {Q : VK} {p q : Addr} {xs ys : List V} (h : H p = some (.tup xs)) (h2 : H q = some (.tup ys)) (n : xs.length + ys.length ≤ sizeLine) (k : ∀ l H1, (H l = none ∨ l = p ∨ l = q) → Ex H H1 → H1 l = some (.tup (xs ++ ys)) → Q (.ref l) H1) : rCatA K (.ref p) (.ref q) H Q :=
  ⟨p, q, xs, ys, rfl, rfl, SqT.of h, SqT.of h2, n, fun e => k q H (.inr (.inr rfl)) Ex.refl (by subst e; exact h2), fun _ e => k p H (.inr (.inl rfl)) Ex.refl (by subst e; rw [List.append_nil]; exact h), fun _ _ l hl => k l _ (.inl hl) (Ex.new hl) upd_same⟩
theorem okA_app {j : Nat} {ds es : List PyData} (h : ds.all (okD j) = true) (h' : es.all (okD j) = true) : (ds ++ es).all (okD j) = true := by
  rw [List.all_append, h, h']
  rfl
theorem okA_sub {j : Nat} {ds es : List PyData} (h : ds.all (okD j) = true) (s : ∀ x ∈ es, x ∈ ds) : es.all (okD j) = true := List.all_eq_true.mpr fun x hx => List.all_eq_true.mp h x (s x hx)
theorem okD_list {j : Nat} {ds : List PyData} (l : ds.length ≤ 1000) (h : ds.all (okD j) = true) : okD (j + 1) (.list ds) = true := by
  show (decide (ds.length ≤ 1000) && ds.all (okD j)) = true
  rw [decide_eq_true l, h]
  rfl
theorem okD_tup {j : Nat} {ds : List PyData} (l : ds.length ≤ 1000) (h : ds.all (okD j) = true) : okD (j + 1) (.tuple ds) = true := by
  show (decide (ds.length ≤ 1000) && ds.all (okD j)) = true
  rw [decide_eq_true l, h]
  rfl
theorem okD_int {j : Nat} {i : Int} (z : Sz 620 i) : okD j (.int i) = true := by
  have h : decide (i.natAbs < 2 ^ 620) = true := decide_eq_true z
  cases j <;> exact h
theorem Gr.kp {F H F1 H1 F2 : Hp} {d : Addr} (a : Gr F H F1) (b : Gr F1 H1 F2) (k : Kp d H H1) (D : Dr H1 d) : Gr F H F2 := a.trans b fun x o h => by
  by_cases z : x = d
  · obtain ⟨ys, hys⟩ := D.lst
    exact ⟨_, z ▸ hys⟩
  · exact ⟨o, k _ _ z h⟩
theorem Ex.addX {F H : Hp} {q : Addr} {o : HO} (e : Ex F H) (h : H q = some o) : Ex (upd F q o) H := fun a u ha => by
  by_cases z : a = q
  · subst z
    rw [upd_same] at ha
    rw [← ha]
    exact h
  · rw [upd_ne z] at ha
    exact e _ _ ha
theorem r_repT {H : Hp} {Q : VK} {l : Addr} {k : Int} {xs : List V} (h : H l = some (.lst xs)) (k0 : 0 ≤ k) (k1 : k ≤ 100) (n : xs.length ≤ 1000) (q : ∀ p H1, H p = none → Ex H H1 → H1 p = some (.lst (List.replicate k.toNat xs).flatten) → Q (.ref p) H1) : rRep (.ref l) (.int k) H Q :=
  ⟨l, k, xs, rfl, rfl, h, by omega, by omega, Nat.le_trans (Nat.mul_le_mul n (show k.toNat ≤ 100 by omega)) (show 1000 * 100 ≤ sizeLine by decide), fun p hp => q p _ hp (Ex.new hp) upd_same⟩

/-- tuples stay -/
def Kt (H H' : Hp) : Prop := ∀ (a : Addr) (xs : List V), H a = some (.tup xs) → H' a = some (.tup xs)
/-- [e for j in a range], e draws -/
theorem lc_rngD {σ : L2.St} {H : Hp} {Q : VK} {te : TE} {lo : Int} {n j : Nat} {vs : List Nat} {d : Addr} (P : Nat → V → Hp → Prop) (hP : ∀ i v H H', Kt H H' → P i v H → P i v H') (D : Dr H d) (hn : n ≤ 100000) (hw : ∀ x, wipe ((wipe σ vs).set j (some x)) vs = wipe σ vs)
    (he : ∀ i : Nat, i < n → ∀ H1, Kp d H H1 → Dr H1 d → ∀ Q : VK, (∀ v H2, Kp d H1 H2 → Dr H2 d → P i v H2 → Q v H2) → te ((wipe σ vs).set j (some (.int (lo + i)))) H1 Q)
    (k : ∀ Dl H1 us, H Dl = none → Kp d H H1 → Dr H1 d → H1 Dl = some (.lst us) → us.length = n → (∀ (i : Nat) v, us[i]? = some v → P i v H1) → Q (.ref Dl) H1) : LcB (Itr lo n) (gName j) tYes te vs σ H Q := fun Dl hD => by
  have nd : Dl ≠ d := D.free hD
  refine lc_range (fun i H' => Kp d H H' ∧ Dr H' d ∧ ∃ us, H' Dl = some (.lst us) ∧ us.length = i ∧ ∀ (t : Nat) v, us[t]? = some v → P t v H') ⟨(Ex.new hD).kp, D.up (Ex.new hD), [], upd_same, rfl, fun t v h => by simp at h⟩ (fun i H' hi p => ?_) (fun H' p => ?_)
  · obtain ⟨e, D', us, hd, hl, hp⟩ := p
    refine ⟨hw _, ?_⟩
    refine tYes_k ?_
    rw [if_pos rfl]
    refine he i hi H' e D' _ fun v H2 e2 D2 pv => ⟨us, e2 _ _ nd hd, len_lt (by omega), ?_⟩
    have hd2 := e2 _ _ nd hd
    have kt1 : Kt H' H2 := fun a xs ha => e2.tup D' ha
    have kt2 : Kt H2 (upd H2 Dl (.lst (us ++ [v]))) := fun a xs ha => (Kp.upd (H := H2)).tupL hd2 ha
    refine ⟨(e.trans e2).via hD Kp.upd, D2.kp nd.symm Kp.upd, us ++ [v], upd_same, by rw [List.length_append, hl]; rfl, fun t u ht => ?_⟩
    by_cases z : t < us.length
    · rw [List.getElem?_append_left z] at ht
      exact hP _ _ _ _ kt2 (hP _ _ _ _ kt1 (hp t u ht))
    · rw [List.getElem?_append_right (by omega)] at ht
      have : t - us.length = 0 := by
        by_cases y : t - us.length = 0
        · exact y
        · rw [List.getElem?_eq_none (by show 1 ≤ _; omega)] at ht
          cases ht
      rw [this] at ht
      cases ht
      have et : t = i := by omega
      subst et
      exact hP _ _ _ _ kt2 pv
  · obtain ⟨e, D', us, hd, hl, hp⟩ := p
    exact k Dl H' us hD e D' hd hl hp

--@ needs SpoilV TgV RngD
/-! rows of numbers or none, and texts of them -/
def RowsO (H : Hp) (xs : List V) (rows : List (List (Option Int))) : Prop := xs.length = rows.length ∧ ∀ (i : Nat) v, xs[i]? = some v → ∃ p r, v = .ref p ∧ rows[i]? = some r ∧ H p = some (.tup (r.map oI))
theorem RowsO.imp {H H' : Hp} {xs : List V} {rows : List (List (Option Int))} (h : RowsO H xs rows) (f : ∀ (p : Addr) (ys : List V), H p = some (.tup ys) → H' p = some (.tup ys)) : RowsO H' xs rows :=
  ⟨h.1, fun i v g => by
    obtain ⟨p, r, e, g', hp⟩ := h.2 i v g
    exact ⟨p, r, e, g', f _ _ hp⟩⟩
theorem RowsO.ex {H H' : Hp} {xs : List V} {rows : List (List (Option Int))} (h : RowsO H xs rows) (e : Ex H H') : RowsO H' xs rows := h.imp fun p _ q => e p _ q
theorem RowsO.kpL {H H' : Hp} {d : Addr} {ys xs : List V} {rows : List (List (Option Int))} (h : RowsO H xs rows) (k : Kp d H H') (D : H d = some (.lst ys)) : RowsO H' xs rows := h.imp fun _ _ q => k.tupL D q
theorem RowsO.nil {H : Hp} : RowsO H [] [] := ⟨rfl, fun i v g => by simp at g⟩
theorem RowsO.app {H : Hp} {xs : List V} {rows : List (List (Option Int))} {p : Addr} {r : List (Option Int)} (h : RowsO H xs rows) (hp : H p = some (.tup (r.map oI))) : RowsO H (xs ++ [.ref p]) (rows ++ [r]) := by
  refine ⟨by rw [List.length_append, List.length_append, h.1]; rfl, fun i v g => ?_⟩
  by_cases z : i < xs.length
  · rw [List.getElem?_append_left z] at g
    obtain ⟨p', r', e, g', hp'⟩ := h.2 i v g
    exact ⟨p', r', e, by rw [List.getElem?_append_left (by have := h.1; omega)]; exact g', hp'⟩
  · rw [List.getElem?_append_right (by omega)] at g
    have i0 : i - xs.length = 0 := by
      have := (List.getElem?_eq_some_iff.mp g).1
      rw [List.length_singleton] at this
      omega
    rw [i0] at g
    cases g
    refine ⟨p, r, rfl, ?_, hp⟩
    have := h.1
    rw [List.getElem?_append_right (by omega), show i - rows.length = 0 by omega]
    rfl
def oD : Option Int → PyData
  | none => .none
  | some i => .int i
def rowO (r : List (Option Int)) : PyData := .tuple (r.map oD)
theorem tg_os {H : Hp} : ∀ r : List (Option Int), TgAll H (r.map oI) (r.map oD)
  | [] => .nil
  | none :: r => .cons .non (tg_os r)
  | some i :: r => .cons (.int i) (tg_os r)
theorem RowsO.tg {H : Hp} : ∀ {xs : List V} {rows : List (List (Option Int))}, RowsO H xs rows → TgAll H xs (rows.map rowO)
  | [], [], _ => .nil
  | [], _ :: _, h => by cases h.1
  | _ :: _, [], h => by cases h.1
  | x :: xs, r :: rows, h => by
    obtain ⟨p, r', rfl, g, hp⟩ := h.2 0 x rfl
    cases g
    refine .cons (.tup hp (tg_os r)) (RowsO.tg ⟨Nat.succ.inj h.1, fun i v g => ?_⟩)
    exact h.2 (i + 1) v g
theorem lc_lstF {K : PySem.W.Frag} {σ : L2.St} {H : Hp} {Q : VK} {te : TE} {tt : TT} {a : Addr} {xs : List V} {j : Nat} {vs : List Nat} (c : V → Bool) (hx : SqL K H a xs) (hn : xs.length ≤ 100000) (hw : ∀ x, wipe ((wipe σ vs).set j (some x)) vs = wipe σ vs)
    (ht : ∀ x ∈ xs, PureT tt ((wipe σ vs).set j (some x)) H (c x)) (he : ∀ x ∈ xs, PureE te ((wipe σ vs).set j (some x)) H x)
    (k : ∀ p H1, H p = none → Ex H H1 → H1 p = some (.lst (xs.filter c)) → Q (.ref p) H1) : LcB (Itl K a) (gName j) tt te vs σ H Q := fun Dl hD => by
  refine lc_list (xs := xs) (fun i H' => Ex H H' ∧ H' Dl = some (.lst ((xs.take i).filter c))) ⟨Ex.new hD, upd_same⟩ (fun i H' _ p => sql_up p.1 hx) (fun i x H' hi p => ?_) (fun H' p => k Dl H' hD p.1 (by rw [p.2, List.take_length]))
  have mem := List.mem_of_getElem? hi
  have tk : xs.take (i + 1) = xs.take i ++ [x] := by rw [List.take_add_one, hi]; rfl
  refine ⟨hw _, ht x mem H' p.1 _ fun H2 e2 => ?_⟩
  cases hc : c x with
  | true =>
    rw [if_pos rfl]
    refine he x mem H2 (p.1.trans e2) _ fun H3 e3 => ⟨_, e3 _ _ (e2 _ _ p.2), ?_, ?_⟩
    · have := List.length_filter_le c (xs.take i)
      rw [List.length_take] at this
      exact len_lt (by omega)
    · refine ⟨fun b o hb => ?_, ?_⟩
      · rw [upd_ne (ne_of_none hb hD)]
        exact e3 _ _ (e2 _ _ (p.1 _ _ hb))
      · rw [upd_same, tk, List.filter_append]
        simp [hc]
  | false =>
    rw [if_neg (by decide)]
    refine ⟨p.1.trans e2, ?_⟩
    rw [tk, List.filter_append]
    simp [hc]
    exact e2 _ _ p.2
/-- [a new tuple for x in a list] -/
theorem lc_lstO {K : PySem.W.Frag} {σ : L2.St} {H : Hp} {Q : VK} {te : TE} {a : Addr} {xs : List V} {j : Nat} {vs : List Nat} (rows : List (List (Option Int))) (hl : rows.length = xs.length) (hx : SqL K H a xs) (hn : xs.length ≤ 100000) (hw : ∀ x, wipe ((wipe σ vs).set j (some x)) vs = wipe σ vs)
    (he : ∀ (i : Nat) x r, xs[i]? = some x → rows[i]? = some r → ∀ H1, Ex H H1 → ∀ Q : VK, (∀ p H2, Ex H1 H2 → H2 p = some (.tup (r.map oI)) → Q (.ref p) H2) → te ((wipe σ vs).set j (some x)) H1 Q)
    (k : ∀ p H1 us, H p = none → Ex H H1 → H1 p = some (.lst us) → RowsO H1 us rows → Q (.ref p) H1) : LcB (Itl K a) (gName j) tYes te vs σ H Q := fun Dl hD => by
  refine lc_list (xs := xs) (fun i H' => Ex H H' ∧ ∃ us, H' Dl = some (.lst us) ∧ RowsO H' us (rows.take i)) ⟨Ex.new hD, [], upd_same, by rw [List.take_zero]; exact RowsO.nil⟩ (fun i H' _ p => sql_up p.1 hx) (fun i x H' hi p => ?_) (fun H' p => ?_)
  · obtain ⟨e, us, hd, ro⟩ := p
    have lt := (List.getElem?_eq_some_iff.mp hi).1
    have gr : rows[i]? = some rows[i] := List.getElem?_eq_getElem (by omega)
    refine ⟨hw _, tYes_k ?_⟩
    rw [if_pos rfl]
    refine he i x _ hi gr H' e _ fun p H2 e2 hp => ⟨us, e2 _ _ hd, ?_, ?_⟩
    · rw [ro.1, List.length_take]
      exact len_lt (by omega)
    · refine ⟨fun b o hb => ?_, _, upd_same, ?_⟩
      · rw [upd_ne (ne_of_none hb hD)]
        exact e2 _ _ (e _ _ hb)
      · rw [List.take_add_one, gr]
        exact ((ro.ex e2).app hp).kpL Kp.upd (e2 _ _ hd)
  · obtain ⟨e, us, hd, ro⟩ := p
    refine k Dl H' us hD e hd ?_
    rw [← hl, List.take_length] at ro
    exact ro
/-- the rows that a text writes -/
def rowT (l : List Nat) : List (Option Int) := (cutAt 32 l).map nT
def rowsT (l : List Nat) : List (List (Option Int)) := (cutAt 10 l).map rowT
def badR (r : List (Option Int)) : Bool := !decide (r.length = 5) || r.any Option.isNone
def okRs (rows : List (List (Option Int))) : Bool := rows.all fun r => !badR r
theorem RowsO.cons {H : Hp} {xs : List V} {rows : List (List (Option Int))} {p : Addr} {r : List (Option Int)} (hp : H p = some (.tup (r.map oI))) (h : RowsO H xs rows) : RowsO H (.ref p :: xs) (r :: rows) :=
  ⟨by rw [List.length_cons, List.length_cons, h.1], fun i v g => by
    match i, g with
    | 0, g => cases g; exact ⟨p, r, rfl, rfl, hp⟩
    | i + 1, g => exact h.2 i v g⟩
def cBad (H : Hp) : V → Bool
  | .ref t => match H t with
    | some (.tup ys) => !decide (ys.length = 5) || inV .non ys
    | _ => false
  | _ => false
theorem cBad_is {H : Hp} {p : Addr} {r : List (Option Int)} (hp : H p = some (.tup (r.map oI))) : cBad H (.ref p) = badR r := by
  unfold cBad badR
  show (match H p with
    | some (.tup ys) => !decide (ys.length = 5) || inV .non ys
    | _ => false) = _
  rw [hp]
  show (!decide ((r.map oI).length = 5) || inV .non (r.map oI)) = _
  rw [inV_nons, List.length_map]
theorem RowsO.filter {H : Hp} : ∀ {xs : List V} {rows : List (List (Option Int))}, RowsO H xs rows → RowsO H (xs.filter (cBad H)) (rows.filter badR)
  | [], [], _ => RowsO.nil
  | [], _ :: _, h => by cases h.1
  | _ :: _, [], h => by cases h.1
  | x :: xs, r :: rows, h => by
    obtain ⟨p, r', rfl, g, hp⟩ := h.2 0 x rfl
    cases g
    have ih := RowsO.filter (xs := xs) (rows := rows) ⟨Nat.succ.inj h.1, fun i v g => h.2 (i + 1) v g⟩
    rw [List.filter_cons, List.filter_cons, cBad_is hp]
    cases badR r
    · exact ih
    · exact ih.cons hp
theorem lay_rowO (r : List (Option Int)) : PyData.canLay0 (rowO r) = true ∧ PyData.depth (rowO r) ≤ 2 := by
  have h1 : PyData.canLayAll0 (r.map oD) = true := by
    induction r with
    | nil => rfl
    | cons o r ih =>
      show (PyData.canLay0 (oD o) && PyData.canLayAll0 (r.map oD)) = true
      rw [ih]
      cases o <;> rfl
  have h2 : PyData.depthAll (r.map oD) ≤ 1 := by
    induction r with
    | nil => exact Nat.zero_le _
    | cons o r ih =>
      have h1' : PyData.canLayAll0 (r.map oD) = true := by
        have e : (PyData.canLay0 (oD o) && PyData.canLayAll0 (r.map oD)) = true := h1
        rw [Bool.and_eq_true] at e
        exact e.2
      have := ih h1'
      show max (PyData.depth (oD o)) (PyData.depthAll (r.map oD)) ≤ 1
      have h3 : PyData.depth (oD o) ≤ 1 := by cases o <;> (unfold oD PyData.depth; omega)
      omega
  exact ⟨by unfold rowO PyData.canLay0; exact h1, by unfold rowO PyData.depth; omega⟩
theorem lay_rowsO (rows : List (List (Option Int))) : PyData.canLay0 (.list (rows.map rowO)) = true ∧ PyData.depth (.list (rows.map rowO)) ≤ 3 := by
  have h1 : PyData.canLayAll0 (rows.map rowO) = true := by
    induction rows with
    | nil => rfl
    | cons r rows ih =>
      show (PyData.canLay0 (rowO r) && PyData.canLayAll0 (rows.map rowO)) = true
      rw [ih, (lay_rowO r).1]
      rfl
  have h2 : ∀ rs : List (List (Option Int)), PyData.depthAll (rs.map rowO) ≤ 2 := by
    intro rs
    induction rs with
    | nil => exact Nat.zero_le _
    | cons r rs ih =>
      show max (PyData.depth (rowO r)) (PyData.depthAll (rs.map rowO)) ≤ 2
      have := (lay_rowO r).2
      omega
  have := h2 rows
  exact ⟨by unfold PyData.canLay0; exact h1, by unfold PyData.depth; omega⟩
theorem shp_rowsO (rows : List (List (Option Int))) : SeqAt.shaped (.list (rows.map rowO)) = true := by
  obtain ⟨a, b⟩ := lay_rowsO rows
  unfold SeqAt.shaped
  rw [a, Bool.true_and]
  exact decide_eq_true (by omega)
theorem shp_toldR (rows : List (List (Option Int))) (z : Str) (h : PyData.canLay0 (.str z) = true) : SeqAt.shaped (.tuple [.list (rows.map rowO), .str z]) = true := by
  obtain ⟨a, b⟩ := lay_rowsO rows
  unfold SeqAt.shaped
  rw [Bool.and_eq_true]
  refine ⟨?_, decide_eq_true ?_⟩
  · show (PyData.canLay0 (.list (rows.map rowO)) && (PyData.canLay0 (.str z) && true)) = true
    rw [a, h]
    rfl
  · have h2 : PyData.depth (.str z) ≤ 1 := by unfold PyData.depth; omega
    have e : ∀ x y : PyData, PyData.depth (.tuple [x, y]) = 1 + max x.depth (max y.depth 0) := fun x y => by
      first
        | rfl
        | (simp [PyData.depth, PyData.depthAll]; done)
        | (rw [PyData.depth, PyData.depthAll, PyData.depthAll, PyData.depthAll]; omega)
    rw [e]
    omega
theorem eqv_os (r : List (Option Int)) : PyData.eqvAll (r.map oD) (r.map oD) = true := by
  induction r with
  | nil => rfl
  | cons o r ih =>
    show (PyData.eqv (oD o) (oD o) && PyData.eqvAll (r.map oD) (r.map oD)) = true
    rw [ih, Bool.and_true]
    cases o with
    | none => rfl
    | some i => exact beq_self_eq_true i
theorem eqv_rowsO (rows : List (List (Option Int))) : PyData.eqv (.list (rows.map rowO)) (.list (rows.map rowO)) = true := by
  show PyData.eqvAll (rows.map rowO) (rows.map rowO) = true
  induction rows with
  | nil => rfl
  | cons r rows ih =>
    show (PyData.eqv (rowO r) (rowO r) && PyData.eqvAll (rows.map rowO) (rows.map rowO)) = true
    rw [ih, Bool.and_true]
    exact eqv_os r
theorem eqv_toldR (rows : List (List (Option Int))) (z : Str) : PyData.eqv (.tuple [.list (rows.map rowO), .str z]) (.tuple [.list (rows.map rowO), .str z]) = true := by
  show (PyData.eqv (.list (rows.map rowO)) (.list (rows.map rowO)) && ((z == z) && true)) = true
  rw [eqv_rowsO, beq_self_eq_true]
  rfl
theorem filter_bad (rows : List (List (Option Int))) : (rows.filter badR).isEmpty = okRs rows := by
  induction rows with
  | nil => rfl
  | cons r rows ih =>
    unfold okRs
    rw [List.filter_cons, List.all_cons]
    cases badR r
    · exact ih
    · rfl
theorem okRs_snoc {rows : List (List (Option Int))} {r : List (Option Int)} (h : okRs rows = true) (hr : badR r = false) : okRs (rows ++ [r]) = true := by
  unfold okRs at h ⊢
  rw [List.all_append, h, List.all_cons, hr]
  rfl
def rtx (r : List Int) : List Nat := TL.joinL [32] (r.map numI)
def ptx (rs : List (List Int)) : List Nat := TL.joinL [10] (rs.map rtx)
def sV : V → V
  | .int i => .str (SX.S (numI i))
  | _ => .non
theorem numI_len1900' {n : Int} (h : Sz 1900 n) : (numI n).length ≤ 1000 := by
  have h1 : n.natAbs < 10 ^ 900 := Nat.lt_of_lt_of_le h (by decide +kernel)
  have := TL.numL_len (n := n.natAbs) (k := 900) (by decide) h1
  unfold numI
  split
  · rw [List.length_cons]; omega
  · omega
theorem wgt_le {k : Nat} : ∀ {ws : List (List Nat)}, (∀ w ∈ ws, w.length ≤ k) → wgt ws ≤ ws.length * (k + 1)
  | [], _ => Nat.zero_le _
  | w :: ws, h => by
    have h1 := h w (by simp)
    have h2 := wgt_le fun x hx => h x (List.mem_cons_of_mem _ hx)
    show w.length + 1 + wgt ws ≤ (ws.length + 1) * (k + 1)
    rw [Nat.add_mul]
    omega
/-- rows that can be written -/
def WrR (rs : List (List Int)) : Prop := rs.length ≤ 410 ∧ ∀ r ∈ rs, r.length ≤ 10 ∧ ∀ x ∈ r, Sz 1900 x
theorem WrR.row {rs : List (List Int)} {r : List Int} (h : WrR rs) (hr : r ∈ rs) : wgt (r.map numI) ≤ 10010 ∧ (rtx r).length ≤ 10010 := by
  obtain ⟨l, z⟩ := h.2 r hr
  have h1 : wgt (r.map numI) ≤ (r.map numI).length * (1000 + 1) := wgt_le fun w hw => by
    obtain ⟨x, hx, rfl⟩ := List.mem_map.mp hw
    exact numI_len1900' (z x hx)
  rw [List.length_map] at h1
  have h2 := joinL_len 32 (r.map numI)
  have h3 : r.length * (1000 + 1) ≤ 10 * (1000 + 1) := Nat.mul_le_mul_right _ l
  refine ⟨by omega, ?_⟩
  unfold rtx
  omega
theorem WrR.all {rs : List (List Int)} (h : WrR rs) : wgt (rs.map rtx) ≤ 4104510 := by
  have h1 : wgt (rs.map rtx) ≤ (rs.map rtx).length * (10010 + 1) := wgt_le fun w hw => by
    obtain ⟨r, hr, rfl⟩ := List.mem_map.mp hw
    exact (h.row hr).2
  rw [List.length_map] at h1
  have h3 : rs.length * (10010 + 1) ≤ 410 * (10010 + 1) := Nat.mul_le_mul_right _ h.1
  omega
theorem numI_ok (n : Int) : okT (numI n) := by
  have d : ∀ n, okT (TL.numL n) := fun n c hc => by
    have := TL.numL_digits n c hc
    omega
  intro c hc
  unfold numI at hc
  split at hc
  · rcases List.mem_cons.mp hc with rfl | hc
    · omega
    · exact d _ c hc
  · exact d _ c hc
theorem ptx_ok (rs : List (List Int)) : okT (ptx rs) := joinL_ok (by decide) fun w hw => by
  obtain ⟨r, _, rfl⟩ := List.mem_map.mp hw
  exact joinL_ok (by decide) fun w hw => by
    obtain ⟨x, _, rfl⟩ := List.mem_map.mp hw
    exact numI_ok x
theorem ptx_len {rs : List (List Int)} (h : WrR rs) : (ptx rs).length ≤ 4104510 := Nat.le_trans (joinL_len 10 _) h.all
theorem ints_of {P : Int → Prop} : ∀ {us : List V}, (∀ (i : Nat) v, us[i]? = some v → ∃ z, v = V.int z ∧ P z) → ∃ zs : List Int, us = zs.map V.int ∧ ∀ z ∈ zs, P z
  | [], _ => ⟨[], rfl, fun z h => by cases h⟩
  | u :: us, h => by
    obtain ⟨zs, e, hz⟩ := ints_of (us := us) fun i v g => h (i + 1) v g
    obtain ⟨z, rfl, pz⟩ := h 0 u rfl
    exact ⟨z :: zs, by rw [e]; rfl, fun x hx => by
      rcases List.mem_cons.mp hx with rfl | hx
      · exact pz
      · exact hz x hx⟩
theorem rows_of {H : Hp} {P : List Int → Prop} : ∀ {us : List V}, (∀ (i : Nat) v, us[i]? = some v → ∃ p r, v = V.ref p ∧ H p = some (.tup (r.map V.int)) ∧ P r) → ∃ rs : List (List Int), RowsA H us rs ∧ ∀ r ∈ rs, P r
  | [], _ => ⟨[], trivial, fun z h => by cases h⟩
  | u :: us, h => by
    obtain ⟨rs, e, hz⟩ := rows_of (us := us) fun i v g => h (i + 1) v g
    obtain ⟨p, r, rfl, hp, pr⟩ := h 0 u rfl
    exact ⟨r :: rs, ⟨⟨p, rfl, hp⟩, e⟩, fun x hx => by
      rcases List.mem_cons.mp hx with rfl | hx
      · exact pr
      · exact hz x hx⟩
theorem RowsA.takeT {H : Hp} : ∀ {xs : List V} {rs : List (List Int)} (k : Nat), RowsA H xs rs → RowsA H (xs.take k) (rs.take k)
  | _, _, 0, _ => trivial
  | [], [], k + 1, _ => trivial
  | _ :: _, _ :: _, k + 1, ⟨h, r⟩ => ⟨h, RowsA.takeT k r⟩
  | [], _ :: _, _ + 1, h => h.elim
  | _ :: _, [], _ + 1, h => h.elim
theorem cutV_takeT (xs : List V) {i : Int} (h0 : 0 ≤ i) : cutV xs none (some i) = xs.take i.toNat := by
  unfold cutV
  have e1 : HT.sIx xs.length 0 none = 0 := rfl
  have e2 : HT.sIx xs.length xs.length (some i) = min i.toNat xs.length := by
    show (if i < 0 then (i + (xs.length : Int)).toNat else min i.toNat xs.length) = _
    rw [if_neg (by omega)]
  rw [e1, e2]
  show List.take (min i.toNat xs.length - 0) (List.drop 0 xs) = _
  rw [Nat.sub_zero, List.drop_zero]
  by_cases c : i.toNat ≤ xs.length
  · rw [Nat.min_eq_left c]
  · rw [Nat.min_eq_right (by omega), List.take_of_length_le (Nat.le_refl _), List.take_of_length_le (by omega)]

def sp_read_paper (_ : PySem.W.Frag) : Sp := fun vs H Q _ => ∃ l : List Nat, vs = [.str (SX.S l)] ∧ l.length ≤ 90000 ∧ okRs (rowsT l) = true ∧ ∀ p us H', H p = none → Ex H H' → H' p = some (.lst us) → RowsO H' us (rowsT l) → Q (.ref p) H'
theorem use_read_paper {K : PySem.W.Frag} {H : Hp} {Q : VK} {E : XK} {l : List Nat} (n : l.length ≤ 90000) (ok : okRs (rowsT l) = true) (q : ∀ p us H', H p = none → Ex H H' → H' p = some (.lst us) → RowsO H' us (rowsT l) → Q (.ref p) H') : sp_read_paper K [.str (SX.S l)] H Q E := ⟨l, rfl, n, ok, q⟩
abbrev s_read_paper : Stmt := topS 57
abbrev nm_read_paper : List Str := ["text", "rows", "line", "row", "word"]
theorem sc_read_paper : FnScope nm_read_paper ["text"] (defScope s_read_paper) := ⟨rfl, rfl, rfl, by decide +kernel, rfl, by decide +kernel, by decide +kernel⟩
theorem st_read_paper {v0 : V} : start nm_read_paper [v0] = [some v0, none, none, none, none] := rfl
section
variable {P : Program} {w : World} {K : PySem.W.Frag} {mg : Str → Option Value} {base : Heap}
theorem ok_read_paper (D : DefAt K mg "read_paper" s_read_paper ["text"]) (B_tuple : mg "tuple" = none) (B_len : mg "len" = none) (G_need_text : Has P w K mg base CX0 2 "need_text" ["thing"] (sp_need_text K)) (G_number_in : Has P w K mg base CX0 2 "number_in" ["word"] (sp_number_in K)) : Has P w K mg base CX0 3 "read_paper" ["text"] (sp_read_paper K) := by
  refine D.ok sc_read_paper (by rintro _ _ _ _ ⟨_, rfl, _⟩; rfl) (fun f cdv A outer s H vs Q E hr h => ?_)
  obtain ⟨l, rfl, n, ok, q⟩ := h
  have hl : l.length ≤ 1000000 := by omega
  refine ⟨_, (pss_cons (ps_expr (pcall G_need_text (hr.mono (by decide)) (pa_cons (pv 0) pa_nil)))
      (pss_cons (ps_set (i := 1) sc_read_paper.nd rfl (Or.inl rfl) (pe_lst pa_nil))
      (pss_cons (ps_for PassesOwn.never rfl (pi_list (pe_bm PySem.F.plainAttrs_str PySem.F.slot_str_split PySem.F.type_str_split mt_splitR (pv 0) (pa_cons pe_str pa_nil))) (pg_name (i := 2) sc_read_paper.nd rfl (Or.inl rfl))
        (pss_cons (ps_set (i := 3) sc_read_paper.nd rfl (Or.inl rfl) (pe_callTy cl_tupOf (by rfl) B_tuple (by decide +kernel) (pa_cons (pe_lc rfl sc_read_paper.nd (pi_list (pe_bm PySem.F.plainAttrs_str PySem.F.slot_str_split PySem.F.type_str_split mt_splitR (pv 2) (pa_cons pe_str pa_nil))) (blkOk_by (own := [("word", 4)]) (N := nm_read_paper) (sc := defScope s_read_paper) (by decide +kernel)) (fun _ _ _ _ _ => (pg_name (i := 4) sc_read_paper.nd rfl (Or.inl rfl))) (fun _ _ _ _ _ => pts_nil) (fun _ _ _ _ _ => (pcall G_number_in (hr.mono (by decide)) (pa_cons (pv 4) pa_nil)))) pa_nil)))
        (pss_cons (ps_if (PW.pt (pw_or (pt_cmpR op_ne (pe_callB cl_len (by rfl) B_len (by decide +kernel) (pa_cons (pv 3) pa_nil)) pe_int (nomark _)) (pw_or1 (pt_cmpR op_in_seq pe_non (pv 3) (by rfl))))) (pss_one ps_never) pss_nil)
        (pss_one (ps_expr (pe_bm PySem.F.plainAttrs_list PySem.F.slot_list_append PySem.F.type_list_append mt_append (pv 1) (pa_cons (pv 3) pa_nil)))))))
      (pss_one (ps_ret (pv 1)))))), ?_⟩
  rw [st_read_paper]
  try dsimp only [Cx.nox, Cx.wish, Cx.blk, cx_K]
  walk_at "go"
  refine use_need_text ?_
  walk_at "go"
  rename_i p1 H1 n1 e1 h1 p2 H2 n2 e2 h2
  rw [spl_eq] at h2
  have h2 : H2 p2 = some (.lst (wstrs (cutAt 10 l))) := h2
  have np2 : p2 ≠ p1 := (ne_of_none h1 n2).symm
  have h1 := e2.at h1
  have x2 := e1.trans e2
  have cl := cutAt_len 10 l
  refine for_lst (xs := wstrs (cutAt 10 l)) (fun j σ H' => Ex H H' ∧ H' p2 = some (.lst (wstrs (cutAt 10 l))) ∧ ∃ us, H' p1 = some (.lst us) ∧ RowsO H' us ((rowsT l).take j) ∧ ∃ o2 o3 o4 : Option V, σ = [some (.str (SX.S l)), some (.ref p1), o2, o3, o4]) ⟨x2, h2, [], h1, by rw [List.take_zero]; exact RowsO.nil, _, _, _, rfl⟩ (fun j σ H' _ p => SqL.of p.2.1) ?_ ?_
  · rintro j x σ H3 hx ⟨x3, g2, us, g1, ro, o2, o3, o4, rfl⟩
    obtain ⟨w, rfl, hw, gw⟩ : ∃ w, x = .str (SX.S w) ∧ w ∈ cutAt 10 l ∧ (cutAt 10 l)[j]? = some w := by
      unfold wstrs at hx
      rw [List.getElem?_map] at hx
      obtain ⟨w, hw, rfl⟩ := Option.map_eq_some_iff.mp hx
      exact ⟨w, rfl, List.mem_of_getElem? hw, hw⟩
    have jl : j < (cutAt 10 l).length := (List.getElem?_eq_some_iff.mp gw).1
    have grow : (rowsT l)[j]? = some (rowT w) := by
      unfold rowsT
      rw [List.getElem?_map, gw]
      rfl
    have okr : badR (rowT w) = false := by
      have := List.all_eq_true.mp ok _ (List.mem_of_getElem? grow)
      simpa using this
    have lw : w.length ≤ l.length := by
      have h1 := wgt_mem hw
      have h2 := cut_wgt 10 l
      omega
    have cw := cutAt_len 32 w
    have okr' := okr
    unfold badR at okr'
    rw [Bool.or_eq_false_iff] at okr'
    obtain ⟨o1, o2⟩ := okr'
    have o1 : (rowT w).length = 5 := by
      cases z : decide ((rowT w).length = 5) with
      | true => exact of_decide_eq_true z
      | false => rw [z] at o1; cases o1
    clear hx
    walk_at "go"
    rename_i p4 H4 n4 e4 h4
    rw [spl_eq] at h4
    have h4 : H4 p4 = some (.lst (wstrs (cutAt 32 w))) := h4
    refine lc_lstP nV (SqL.of h4) (by rw [wstrs_len]; omega) (fun _ => rfl) (fun i y hy G eG QE kE => ?_) (fun p5 H5 n5 e5 h5 => ?_)
    · obtain ⟨u, rfl, hu⟩ : ∃ u, y = .str (SX.S u) ∧ u.length ≤ 1000000 := by
        unfold wstrs at hy
        rw [List.getElem?_map] at hy
        obtain ⟨u, hu, rfl⟩ := Option.map_eq_some_iff.mp hy
        have h1 := wgt_mem (List.mem_of_getElem? hu)
        have h2 := cut_wgt 32 w
        exact ⟨u, rfl, by omega⟩
      walk_at "go"
      refine use_number_in hu fun G2 g2 => ?_
      exact kE _ g2
    · have h5 : H5 p5 = some (.lst ((rowT w).map oI)) := by
        rw [h5]
        unfold rowT wstrs
        rw [List.map_map, List.map_map]
        rfl
      walk_at "go"
      refine r_tupL (SqL.of h5) fun t6 H6 n6 e6 h6 => ?_
      have l6 : (((rowT w).map oI).length : Int) = 5 := by rw [List.length_map]; omega
      walk_at "go"
      refine r_inT (SqT.of h6) rfl (by
        rw [List.all_map, List.all_eq_true]
        intro o _
        cases o <;> rfl) ?_
      rw [inV_nons, o2]
      have x6 := (e4.trans e5).trans e6
      have g16 := x6.at g1
      walk_at "go"
      have lus := ro.1
      rw [List.length_take] at lus
      refine r_app g16 (by omega) fun H7 k7 h7 => ?_
      walk_at "go"
      have np1 : H p1 = none := n1
      refine ⟨(x3.trans x6).kpd np1 k7, k7 _ _ np2 (x6.at g2), _, h7, ?_, _, _, _, rfl⟩
      rw [List.take_add_one, grow]
      exact ((ro.ex x6).app h6).kpL k7 g16
  · rintro σ H3 ⟨x3, g2, us, g1, ro, o2, o3, o4, rfl⟩
    walk_at "go"
    rw [wstrs_len, show (cutAt 10 l).length = (rowsT l).length from (List.length_map _).symm, List.take_length] at ro
    exact q _ _ _ n1 x3 g1 ro

end
def sp_need_some (_ : PySem.W.Frag) : Sp := fun vs H Q _ => ∃ (n : Int), vs = [.int n] ∧ 0 < n ∧ n < 1000000000000000000000000000000 ∧ Q .non H
theorem use_need_some {K : PySem.W.Frag} {H : Hp} {Q : VK} {E : XK} {n : Int} (h0 : 0 < n) (h1 : n < 1000000000000000000000000000000) (q : Q .non H) : sp_need_some K [.int n] H Q E := ⟨n, rfl, h0, h1, q⟩
abbrev s_need_some : Stmt := topS 31
abbrev nm_need_some : List Str := ["n"]
theorem sc_need_some : FnScope nm_need_some ["n"] (defScope s_need_some) := ⟨rfl, rfl, rfl, by decide +kernel, rfl, by decide +kernel, by decide +kernel⟩
theorem st_need_some {v0 : V} : start nm_need_some [v0] = [some v0] := rfl
section
variable {P : Program} {w : World} {K : PySem.W.Frag} {mg : Str → Option Value} {base : Heap}
theorem ok_need_some (D : DefAt K mg "need_some" s_need_some ["n"]) (G_need_count : Has P w K mg base CX0 2 "need_count" ["n"] (sp_need_count K)) : Has P w K mg base CX0 3 "need_some" ["n"] (sp_need_some K) := by
  refine D.ok sc_need_some (by rintro _ _ _ _ ⟨_, rfl, _⟩; rfl) (fun f cdv A outer s H vs Q E hr h => ?_)
  obtain ⟨n, rfl, h0, h1, q⟩ := h
  refine ⟨_, (pss_cons (ps_expr (pcall G_need_count (hr.mono (by decide)) (pa_cons (pv 0) pa_nil)))
      (pss_one (ps_if (pt_cmpR op_eq (pv 0) pe_int (nomark _)) (pss_one ps_never) pss_nil))), ?_⟩
  rw [st_need_some]
  try dsimp only [Cx.nox, Cx.wish, Cx.blk, cx_K]
  walk_at "go"
  refine use_need_count (by omega) h1 ?_
  walk_at "go"
  exact q

end
--@ needs Sum
/-! how often -/
/-- how many of the first places are within bounds -/
@[irreducible] def cn (n : Nat) (a b m low high : Int) : Int := fs n a (b - low) m - fs n a (b - high) m
theorem cn_all (n : Nat) (a b : Int) {m : Int} (hm : 0 < m) : cn n a b m 0 m = n := by
  unfold cn
  have h := fs_b n a (b - m) 1 hm
  rw [show b - m + 1 * m = b - 0 by omega] at h
  omega
theorem cn_add (n k : Nat) (a b m low high : Int) : cn (n + k) a b m low high = cn n a b m low high + cn k a (a * n + b) m low high := by
  unfold cn
  rw [fs_add, fs_add]
  rw [show a * (n : Int) + (b - low) = a * n + b - low by omega, show a * (n : Int) + (b - high) = a * n + b - high by omega]
  omega
theorem cn_turn (n : Nat) (a b low high : Int) {m : Int} (hm : 0 < m) : cn n (0 - a) (m - 1 - b) m (m - high) (m - low) = cn n a b m low high := by
  have key : ∀ c : Int, fs n (0 - a) (m - 1 - b - (m - c)) m = - fs n a (b - c) m - n := by
    intro c
    unfold fs
    have e : ∀ i : Nat, i < n → ((0 - a) * (i : Int) + (m - 1 - b - (m - c))) / m = (-1) * ((a * (i : Int) + (b - c)) / m) + (-1) := by
      intro i _
      have h := Int.emod_add_mul_ediv (a * (i : Int) + (b - c)) m
      have r0 := Int.emod_nonneg (a * (i : Int) + (b - c)) (show m ≠ 0 by omega)
      have r1 := Int.emod_lt_of_pos (a * (i : Int) + (b - c)) hm
      refine ediv_is hm ?_ ?_
      · grind
      · grind
    rw [sm_congr e, sm_plus, sm_mul, sm_const]
    omega
  unfold cn
  rw [key high, key low]
  omega

--@ needs Div
/-! common divisors -/
theorem gcd_step (x y : Nat) : Nat.gcd y (x % y) = Nat.gcd x y := by
  rw [Nat.gcd_comm x y, Nat.gcd_rec y x, Nat.gcd_comm]
/-- the stair made least -/
def lsA (a m : Int) : Int := a / (Int.gcd a m : Int)
def lsM (a m : Int) : Int := m / (Int.gcd a m : Int)
def lsB (a b m : Int) : Int := b / (Int.gcd a m : Int)
theorem gcd_pos {a m : Int} (hm : 0 < m) : 0 < (Int.gcd a m : Int) := by
  have : 0 < Int.gcd a m := Int.gcd_pos_of_ne_zero_right a (by omega)
  omega
theorem lsA_mul (a m : Int) : lsA a m * (Int.gcd a m : Int) = a := Int.ediv_mul_cancel (Int.gcd_dvd_left a m)
theorem lsM_mul (a m : Int) : lsM a m * (Int.gcd a m : Int) = m := Int.ediv_mul_cancel (Int.gcd_dvd_right a m)
theorem lsM_pos {a m : Int} (hm : 0 < m) : 0 < lsM a m := by
  have h := lsM_mul a m
  have g := gcd_pos (a := a) hm
  refine Int.pos_of_mul_pos_left (b := (Int.gcd a m : Int)) ?_ g
  omega
theorem ls_height (a b k : Int) {m : Int} (hm : 0 < m) : (lsA a m * k + lsB a b m) / lsM a m = (a * k + b) / m := by
  have g := gcd_pos (a := a) hm
  have ha := lsA_mul a m
  have hM := lsM_mul a m
  generalize lsA a m = A at *
  generalize lsM a m = M at *
  unfold lsB
  generalize (Int.gcd a m : Int) = G at *
  subst ha
  subst hM
  rw [Int.mul_comm M G, ← Int.ediv_ediv_of_nonneg (by omega), show A * G * k + b = b + G * (A * k) by rw [Int.mul_comm A G, Int.mul_assoc]; omega, Int.add_mul_ediv_left _ _ (by omega : G ≠ 0), Int.add_comm]
theorem ls_cop {a m : Int} (hm : 0 < m) : Int.gcd (lsA a m) (lsM a m) = 1 := by
  have g := gcd_pos (a := a) hm
  unfold lsA lsM
  exact Int.gcd_ediv_gcd_ediv_gcd (by omega)
/-- only 1 divides both: no lesser place is a period -/
theorem cop_no {a m k : Int} (h : Int.gcd a m = 1) (k0 : 0 < k) (k1 : k < m) : a * k % m ≠ 0 := by
  intro z
  have d : m ∣ a * k := Int.dvd_of_emod_eq_zero z
  have d2 : m ∣ k := by
    have d3 := Int.dvd_gcd_mul_iff_dvd_mul.mpr d
    rw [Int.gcd_comm, h] at d3
    rw [show ((1 : Nat) : Int) * k = k by omega] at d3
    exact d3
  have := Int.le_of_dvd k0 d2
  omega

--@ needs Often Gcd
/-! first hits -/
def Wn (a m lo hi k : Int) : Prop := lo ≤ a * k % m ∧ a * k % m ≤ hi
/-- the first one, or none -/
def FR (a m lo hi : Int) : Option Int → Prop
  | none => ∀ k : Int, 0 ≤ k → ¬ Wn a m lo hi k
  | some k => 0 ≤ k ∧ Wn a m lo hi k ∧ ∀ j : Int, 0 ≤ j → j < k → ¬ Wn a m lo hi j
/-- a quotient, rounded up -/
def cup (t b : Int) : Int := 0 - (0 - t) / b
theorem cup_up {t b : Int} (hb : 0 < b) : t ≤ cup t b * b ∧ (cup t b - 1) * b < t := by
  have e := Int.emod_add_mul_ediv (0 - t) b
  have r0 := Int.emod_nonneg (0 - t) (show b ≠ 0 by omega)
  have r1 := Int.emod_lt_of_pos (0 - t) hb
  unfold cup
  generalize (0 - t) / b = q at *
  constructor
  · grind
  · grind
theorem cup_le {t b k : Int} (hb : 0 < b) (h : t ≤ b * k) : cup t b ≤ k := by
  obtain ⟨_, h2⟩ := cup_up (t := t) hb
  have h3 : (cup t b - 1) * b < k * b := by rw [Int.mul_comm k]; omega
  have := Int.lt_of_mul_lt_mul_right h3 (by omega)
  omega
theorem Wn_mod (a m lo hi k : Int) : Wn (a % m) m lo hi k ↔ Wn a m lo hi k := by
  unfold Wn
  rw [Int.mul_emod, Int.emod_emod_of_dvd _ (Int.dvd_refl m), ← Int.mul_emod]
theorem FR_mod {a m lo hi : Int} {v : Option Int} (h : FR (a % m) m lo hi v) : FR a m lo hi v := by
  cases v with
  | none => exact fun k k0 w => h k k0 ((Wn_mod ..).mpr w)
  | some k => exact ⟨h.1, (Wn_mod ..).mp h.2.1, fun j j0 jk w => h.2.2 j j0 jk ((Wn_mod ..).mpr w)⟩
theorem FR_0 {a m hi : Int} (h : 0 ≤ hi) : FR a m 0 hi (some 0) := by
  refine ⟨by omega, ?_, fun j _ _ => by omega⟩
  unfold Wn
  rw [Int.mul_zero, Int.zero_emod]
  omega
theorem FR_no {m lo hi : Int} (h : 0 < lo) : FR 0 m lo hi none := by
  intro k _ w
  unfold Wn at w
  rw [Int.zero_mul, Int.zero_emod] at w
  omega
theorem FR_one {a m lo hi : Int} (ha : 0 < a) (hl : 0 < lo) (hm : hi < m) (h : cup lo a * a ≤ hi) : FR a m lo hi (some (cup lo a)) := by
  obtain ⟨h1, h2⟩ := cup_up (t := lo) ha
  have k0 : 0 < cup lo a := by
    have h3 : 0 * a < cup lo a * a := by omega
    exact Int.lt_of_mul_lt_mul_right h3 (by omega)
  refine ⟨by omega, ?_, fun j j0 jk w => ?_⟩
  · unfold Wn
    rw [Int.mul_comm a, Int.emod_eq_of_lt (by omega) (by omega)]
    omega
  · have h3 : j * a ≤ (cup lo a - 1) * a := Int.mul_le_mul_of_nonneg_right (by omega) (by omega)
    have h4 : 0 ≤ j * a := Int.mul_nonneg j0 (by omega)
    unfold Wn at w
    rw [Int.mul_comm a, Int.emod_eq_of_lt (by omega) (by omega)] at w
    omega
theorem Wn_line {a m lo hi k : Int} (hm : 0 < m) (hl : 0 < lo) (hh : hi < m) : Wn a m lo hi k ↔ ∃ y, lo + m * y ≤ a * k ∧ a * k ≤ hi + m * y := by
  have e := Int.emod_add_mul_ediv (a * k) m
  constructor
  · intro w
    unfold Wn at w
    exact ⟨a * k / m, by omega, by omega⟩
  · rintro ⟨y, h1, h2⟩
    have d : a * k / m = y := ediv_is hm (by rw [Int.mul_comm]; omega) (by rw [Int.add_mul, Int.mul_comm y]; omega)
    unfold Wn
    rw [d] at e
    omega
theorem Wn_turn {a m lo hi y : Int} (ha : 0 < a) (hlh : lo ≤ hi) (h : hi < cup lo a * a) : Wn m a ((0 - hi) % a) ((0 - lo) % a) y ↔ ∃ k, lo + m * y ≤ a * k ∧ a * k ≤ hi + m * y := by
  obtain ⟨h1, h2⟩ := cup_up (t := lo) ha
  have u : (0 - hi) % a = cup lo a * a - hi := by
    have d : (0 - hi) / a = 0 - cup lo a := ediv_is ha (by grind) (by grind)
    have e := Int.emod_add_mul_ediv (0 - hi) a
    rw [d] at e
    grind
  have w : (0 - lo) % a = cup lo a * a - lo := by
    have d : (0 - lo) / a = 0 - cup lo a := ediv_is ha (by grind) (by grind)
    have e := Int.emod_add_mul_ediv (0 - lo) a
    rw [d] at e
    grind
  rw [u, w]
  have e := Int.emod_add_mul_ediv (m * y) a
  generalize cup lo a = c at *
  unfold Wn
  constructor
  · rintro ⟨g1, g2⟩
    exact ⟨m * y / a + c, by grind, by grind⟩
  · rintro ⟨k, g1, g2⟩
    have d : m * y / a = k - c := ediv_is ha (by grind) (by grind)
    rw [d] at e
    constructor <;> grind
/-- the turn -/
theorem FR_turn {a m lo hi : Int} {v : Option Int} (ha : 0 < a) (hm : 0 < m) (hl : 0 < lo) (hlh : lo ≤ hi) (hh : hi < m) (h : hi < cup lo a * a) (f : FR m a ((0 - hi) % a) ((0 - lo) % a) v) : FR a m lo hi (v.map fun y => cup (lo + m * y) a) := by
  have line : ∀ k : Int, 0 ≤ k → Wn a m lo hi k → ∃ y, 0 ≤ y ∧ Wn m a ((0 - hi) % a) ((0 - lo) % a) y ∧ lo + m * y ≤ a * k := by
    intro k k0 w
    obtain ⟨y, h1, h2⟩ := (Wn_line hm hl hh).mp w
    refine ⟨y, ?_, (Wn_turn ha hlh h).mpr ⟨k, h1, h2⟩, h1⟩
    have h3 : 0 ≤ a * k := Int.mul_nonneg (by omega) k0
    have h4 : m * (-1) < m * y := by omega
    have := Int.lt_of_mul_lt_mul_left h4 (by omega)
    omega
  cases v with
  | none =>
    intro k k0 w
    obtain ⟨y, y0, hy, _⟩ := line k k0 w
    exact f y y0 hy
  | some y =>
    obtain ⟨y0, wy, least⟩ := f
    obtain ⟨k', g1, g2⟩ := (Wn_turn ha hlh h).mp wy
    obtain ⟨c1, c2⟩ := cup_up (t := lo + m * y) ha
    have ck := cup_le ha g1
    have c3 : a * cup (lo + m * y) a ≤ a * k' := Int.mul_le_mul_of_nonneg_left ck (by omega)
    have c4 : lo + m * y ≤ a * cup (lo + m * y) a := by rw [Int.mul_comm a]; exact c1
    have my : 0 ≤ m * y := Int.mul_nonneg (by omega) y0
    refine ⟨?_, (Wn_line hm hl hh).mpr ⟨y, c4, show a * cup (lo + m * y) a ≤ hi + m * y by omega⟩, fun j j0 jk w => ?_⟩
    · show 0 ≤ cup (lo + m * y) a
      have h3 : a * 0 < a * cup (lo + m * y) a := by omega
      have := Int.lt_of_mul_lt_mul_left h3 (by omega)
      omega
    · have jk : j < cup (lo + m * y) a := jk
      obtain ⟨y', y0', hy', l'⟩ := line j j0 w
      have : y ≤ y' := by
        by_cases z : y ≤ y'
        · exact z
        · exact (least y' y0' (by omega) hy').elim
      have h5 : m * y ≤ m * y' := Int.mul_le_mul_of_nonneg_left this (by omega)
      have := cup_le (t := lo + m * y) (b := a) (k := j) ha (by omega)
      omega
/-- how many turns there may be -/
def fb : Nat → Nat
  | 0 => 0
  | 1 => 1
  | n + 2 => fb (n + 1) + fb n
def Trn (j : Nat) (a m : Int) : Prop := m < fb (j + 1) ∨ a % m < fb j
theorem Trn_0 {a m : Int} (hm : 0 < m) : ¬ Trn 0 a m := by
  rintro (h | h)
  · have : m < 1 := h
    omega
  · have : a % m < 0 := h
    have := Int.emod_nonneg a (show m ≠ 0 by omega)
    omega
theorem Trn_next {j : Nat} {a m : Int} (hm : 0 < m) (h : Trn (j + 1) a m) (h0 : a % m ≠ 0) : Trn j m (a % m) := by
  have r0 := Int.emod_nonneg a (show m ≠ 0 by omega)
  have r1 := Int.emod_lt_of_pos a hm
  by_cases z : a % m < fb (j + 1)
  · exact .inl z
  · right
    rcases h with h | h
    · have h : m < ((fb (j + 1) + fb j : Nat) : Int) := h
      have e := Int.emod_add_mul_ediv m (a % m)
      have q : 1 ≤ m / (a % m) := (Int.le_ediv_iff_mul_le (by omega)).mpr (by omega)
      have h1 : a % m * 1 ≤ a % m * (m / (a % m)) := Int.mul_le_mul_of_nonneg_left q (by omega)
      omega
    · exact (z h).elim
theorem FR_lt {a m lo hi k : Int} (hm : 0 < m) (h : FR a m lo hi (some k)) : k < m := by
  obtain ⟨k0, w, l⟩ := h
  by_cases z : k < m
  · exact z
  · refine (l (k - m) (by omega) (by omega) ?_).elim
    unfold Wn at w ⊢
    rw [show a * (k - m) = a * k + m * (-a) by grind, Int.add_mul_emod_self_left]
    exact w
theorem turn_bounds {a lo hi : Int} (ha : 0 < a) (hl : 0 < lo) (hlh : lo ≤ hi) (h : hi < cup lo a * a) : (0 - hi) % a ≤ (0 - lo) % a := by
  obtain ⟨h1, h2⟩ := cup_up (t := lo) ha
  have d1 : (0 - hi) / a = 0 - cup lo a := ediv_is ha (by grind) (by grind)
  have d2 : (0 - lo) / a = 0 - cup lo a := ediv_is ha (by grind) (by grind)
  have e1 := Int.emod_add_mul_ediv (0 - hi) a
  have e2 := Int.emod_add_mul_ediv (0 - lo) a
  rw [d1] at e1
  rw [d2] at e2
  omega
theorem cup_b {lo a : Int} (ha : 0 < a) (hl : 0 < lo) : 0 < cup lo a ∧ cup lo a ≤ lo := by
  obtain ⟨h1, h2⟩ := cup_up (t := lo) ha
  constructor
  · have h3 : 0 * a < cup lo a * a := by omega
    exact Int.lt_of_mul_lt_mul_right h3 (by omega)
  · refine cup_le ha ?_
    have : 1 * lo ≤ a * lo := Int.mul_le_mul_of_nonneg_right (by omega) (by omega)
    omega
/-- a hit of bounds -/
def Ht (a b m lo hi k : Int) : Prop := lo ≤ (a * k + b) % m ∧ (a * k + b) % m < hi
def FH (a b m lo hi : Int) : Option Int → Prop
  | none => ∀ k : Int, 0 ≤ k → ¬ Ht a b m lo hi k
  | some k => 0 ≤ k ∧ Ht a b m lo hi k ∧ ∀ j : Int, 0 ≤ j → j < k → ¬ Ht a b m lo hi j
theorem FH_same (a b m lo : Int) : FH a b m lo lo none := by
  intro k _ w
  unfold Ht at w
  omega
theorem FH_0 {a b m lo hi : Int} (h : lo ≤ b % m) (h2 : b % m < hi) : FH a b m lo hi (some 0) := by
  refine ⟨by omega, ?_, fun j _ _ => by omega⟩
  unfold Ht
  rw [Int.mul_zero, Int.zero_add]
  exact ⟨h, h2⟩
theorem sub_mod' (x b m : Int) : (x - b) % m = (x - b % m) % m := by
  have e := Int.emod_add_mul_ediv b m
  rw [show x - b = x - b % m + m * (-(b / m)) by grind, Int.add_mul_emod_self_left]
theorem rest_bounds {b m lo hi : Int} (hm : 0 < m) (l0 : 0 ≤ lo) (lh : lo < hi) (hh : hi ≤ m) (h : ¬ (lo ≤ b % m ∧ b % m < hi)) : 0 < (lo - b) % m ∧ (lo - b) % m ≤ (hi - 1 - b) % m ∧ (hi - 1 - b) % m < m := by
  have s0 := Int.emod_nonneg b (show m ≠ 0 by omega)
  have s1 := Int.emod_lt_of_pos b hm
  rw [sub_mod' lo, sub_mod' (hi - 1)]
  generalize b % m = s at *
  by_cases z : s < lo
  · rw [Int.emod_eq_of_lt (by omega) (by omega), Int.emod_eq_of_lt (by omega) (by omega)]
    omega
  · rw [← Int.add_emod_right, ← Int.add_emod_right (hi - 1 - s), Int.emod_eq_of_lt (by omega) (by omega), Int.emod_eq_of_lt (by omega) (by omega)]
    omega
theorem Ht_iff {a b m lo hi k : Int} (hm : 0 < m) (l0 : 0 ≤ lo) (lh : lo < hi) (hh : hi ≤ m) (h : ¬ (lo ≤ b % m ∧ b % m < hi)) : Ht a b m lo hi k ↔ Wn a m ((lo - b) % m) ((hi - 1 - b) % m) k := by
  have s0 := Int.emod_nonneg b (show m ≠ 0 by omega)
  have s1 := Int.emod_lt_of_pos b hm
  have r0 := Int.emod_nonneg (a * k) (show m ≠ 0 by omega)
  have r1 := Int.emod_lt_of_pos (a * k) hm
  unfold Ht Wn
  rw [sub_mod' lo, sub_mod' (hi - 1), Int.add_emod (a * k) b]
  generalize b % m = s at *
  generalize a * k % m = r at *
  by_cases z : s < lo
  · rw [Int.emod_eq_of_lt (a := lo - s) (by omega) (by omega), Int.emod_eq_of_lt (a := hi - 1 - s) (by omega) (by omega)]
    by_cases y : r + s < m
    · rw [Int.emod_eq_of_lt (by omega) y]
      omega
    · rw [show r + s = r + s - m + m by omega, Int.add_emod_right, Int.emod_eq_of_lt (by omega) (by omega)]
      omega
  · rw [← Int.add_emod_right (lo - s), ← Int.add_emod_right (hi - 1 - s), Int.emod_eq_of_lt (a := lo - s + m) (by omega) (by omega), Int.emod_eq_of_lt (a := hi - 1 - s + m) (by omega) (by omega)]
    by_cases y : r + s < m
    · rw [Int.emod_eq_of_lt (by omega) y]
      omega
    · rw [show r + s = r + s - m + m by omega, Int.add_emod_right, Int.emod_eq_of_lt (by omega) (by omega)]
      omega
theorem FH_of {a b m lo hi : Int} {v : Option Int} (hm : 0 < m) (l0 : 0 ≤ lo) (lh : lo < hi) (hh : hi ≤ m) (h : ¬ (lo ≤ b % m ∧ b % m < hi)) (f : FR a m ((lo - b) % m) ((hi - 1 - b) % m) v) : FH a b m lo hi v := by
  cases v with
  | none => exact fun k k0 w => f k k0 ((Ht_iff hm l0 lh hh h).mp w)
  | some k => exact ⟨f.1, (Ht_iff hm l0 lh hh h).mpr f.2.1, fun j j0 jk w => f.2.2 j j0 jk ((Ht_iff hm l0 lh hh h).mp w)⟩
theorem Ht_period {a b m lo hi k c : Int} : Ht a b m lo hi (k + m * c) ↔ Ht a b m lo hi k := by
  unfold Ht
  rw [show a * (k + m * c) + b = a * k + b + m * (a * c) by grind, Int.add_mul_emod_self_left]
theorem FH_lt {a b m lo hi k : Int} (hm : 0 < m) (h : FH a b m lo hi (some k)) : k < m := by
  obtain ⟨k0, w, l⟩ := h
  by_cases z : k < m
  · exact z
  · refine (l (k - m) (by omega) (by omega) ?_).elim
    have := (Ht_period (a := a) (b := b) (m := m) (lo := lo) (hi := hi) (k := k - m) (c := 1)).mp (by
      rw [show k - m + m * 1 = k by omega]
      exact w)
    exact this
theorem cn_shift (k : Nat) (a b c lo hi : Int) {m : Int} (hm : 0 < m) : cn k a (b + c * m) m lo hi = cn k a b m lo hi := by
  unfold cn
  rw [show b + c * m - lo = b - lo + c * m by omega, show b + c * m - hi = b - hi + c * m by omega, fs_b k a (b - lo) c hm, fs_b k a (b - hi) c hm]
  omega
theorem cn_zero (a b m lo hi : Int) : cn 0 a b m lo hi = 0 := by
  unfold cn
  rw [fs_zero, fs_zero]
  rfl
theorem cn_per {P : Nat} {a b c lo hi m : Int} (hm : 0 < m) (h : a * P = c * m) : ∀ (q r : Nat), cn (q * P + r) a b m lo hi = q * cn P a b m lo hi + cn r a b m lo hi
  | 0, r => by
    rw [Nat.zero_mul, Nat.zero_add]
    omega
  | q + 1, r => by
    rw [show (q + 1) * P + r = P + (q * P + r) by rw [Nat.add_mul]; omega, cn_add, h, Int.add_comm (c * m) b, cn_shift _ _ _ _ _ _ hm, cn_per hm h q r, Int.natCast_add, Int.add_mul]
    omega
theorem cn_step (n : Nat) {a b lo hi m : Int} (hm : 0 < m) (l0 : 0 ≤ lo) (lh : lo ≤ hi) (hh : hi ≤ m) : (Ht a b m lo hi n → cn (n + 1) a b m lo hi = cn n a b m lo hi + 1) ∧ (¬ Ht a b m lo hi n → cn (n + 1) a b m lo hi = cn n a b m lo hi) := by
  have e := Int.emod_add_mul_ediv (a * (n : Int) + b) m
  have r0 := Int.emod_nonneg (a * (n : Int) + b) (show m ≠ 0 by omega)
  have r1 := Int.emod_lt_of_pos (a * (n : Int) + b) hm
  have d : ∀ c : Int, 0 ≤ c → c ≤ m → (a * (n : Int) + (b - c)) / m = (a * (n : Int) + b) / m - (if (a * (n : Int) + b) % m < c then 1 else 0) := by
    intro c c0 c1
    split
    · exact ediv_is hm (by grind) (by grind)
    · exact ediv_is hm (by grind) (by grind)
  unfold cn Ht
  rw [fs_succ, fs_succ, d lo l0 (by omega), d hi (by omega) hh]
  constructor
  · rintro ⟨g1, g2⟩
    rw [if_neg (by omega), if_pos g2]
    omega
  · intro g
    by_cases z : (a * (n : Int) + b) % m < lo
    · rw [if_pos z, if_pos (by omega)]
      omega
    · rw [if_neg z, if_neg (by omega)]
      omega
theorem cn_none {a b lo hi m : Int} (hm : 0 < m) (l0 : 0 ≤ lo) (lh : lo ≤ hi) (hh : hi ≤ m) : ∀ n : Nat, (∀ k : Int, 0 ≤ k → k < n → ¬ Ht a b m lo hi k) → cn n a b m lo hi = 0
  | 0, _ => cn_zero ..
  | n + 1, h => by
    rw [(cn_step n hm l0 lh hh).2 (h n (by omega) (by omega))]
    exact cn_none hm l0 lh hh n fun k k0 k1 => h k k0 (by omega)
theorem cn_mono {a b lo hi m : Int} (hm : 0 < m) (l0 : 0 ≤ lo) (lh : lo ≤ hi) (hh : hi ≤ m) (n : Nat) : ∀ k : Nat, cn n a b m lo hi ≤ cn (n + k) a b m lo hi
  | 0 => Int.le_refl _
  | k + 1 => by
    have := cn_mono (a := a) (b := b) hm l0 lh hh n k
    by_cases z : Ht a b m lo hi ((n + k : Nat) : Int)
    · have := (cn_step (n + k) hm l0 lh hh).1 z
      rw [show n + (k + 1) = n + k + 1 by omega]
      omega
    · have := (cn_step (n + k) hm l0 lh hh).2 z
      rw [show n + (k + 1) = n + k + 1 by omega]
      omega
theorem cn_some {a b lo hi m k : Int} (hm : 0 < m) (l0 : 0 ≤ lo) (lh : lo ≤ hi) (hh : hi ≤ m) (k0 : 0 ≤ k) (w : Ht a b m lo hi k) {n : Nat} (h : k < n) : 0 < cn n a b m lo hi := by
  obtain ⟨K, rfl⟩ : ∃ K : Nat, k = K := ⟨k.toNat, by omega⟩
  have h1 := (cn_step K hm l0 lh hh).1 w
  have h2 := cn_mono (a := a) (b := b) hm l0 lh hh 0 K
  have h3 := cn_mono (a := a) (b := b) hm l0 lh hh (K + 1) (n - (K + 1))
  rw [show K + 1 + (n - (K + 1)) = n by omega] at h3
  rw [cn_zero, Nat.zero_add] at h2
  omega
/-- a period -/
theorem per_eq (a : Int) {m : Int} (hm : 0 < m) : a * (lsM a m) = lsA a m * m := by
  have h1 := lsA_mul a m
  have h2 := lsM_mul a m
  generalize lsA a m = A at *
  generalize lsM a m = M at *
  generalize (Int.gcd a m : Int) = g at *
  subst h1
  subst h2
  grind
theorem Ht_per {a b m lo hi k q : Int} (hm : 0 < m) : Ht a b m lo hi (q * lsM a m + k) ↔ Ht a b m lo hi k := by
  unfold Ht
  have h := per_eq a hm
  rw [show a * (q * lsM a m + k) + b = a * k + b + m * (q * lsA a m) by
    rw [Int.mul_add, show a * (q * lsM a m) = q * (a * lsM a m) by grind, h]
    grind, Int.add_mul_emod_self_left]
/-- the hit by its number -/
theorem hit_at {a b m lo hi n less : Int} (hm : 0 < m) (l0 : 0 ≤ lo) (lh : lo ≤ hi) (hh : hi ≤ m) (n0 : 0 ≤ n) (b0 : 0 ≤ less) (e0 : 0 < cn (lsM a m).toNat a b m lo hi)
    (h1 : cn less.toNat a b m lo hi ≤ n % cn (lsM a m).toNat a b m lo hi) (h2 : n % cn (lsM a m).toNat a b m lo hi < cn (less.toNat + 1) a b m lo hi) :
    0 ≤ n / cn (lsM a m).toNat a b m lo hi * lsM a m + less ∧ Ht a b m lo hi (n / cn (lsM a m).toNat a b m lo hi * lsM a m + less) ∧ cn (n / cn (lsM a m).toNat a b m lo hi * lsM a m + less).toNat a b m lo hi = n := by
  have M0 := lsM_pos (a := a) hm
  have pe := per_eq a hm
  have hp := cn_per (P := (lsM a m).toNat) (a := a) (b := b) (c := lsA a m) (lo := lo) (hi := hi) hm (by rw [show (((lsM a m).toNat : Nat) : Int) = lsM a m by omega]; exact pe)
  have hi1 : Ht a b m lo hi less := by
    by_cases z : Ht a b m lo hi ((less.toNat : Nat) : Int)
    · rw [show ((less.toNat : Nat) : Int) = less by omega] at z
      exact z
    · have := (cn_step less.toNat hm l0 lh hh).2 z
      omega
  have ez := (cn_step (a := a) (b := b) less.toNat hm l0 lh hh).1 (by rw [show ((less.toNat : Nat) : Int) = less by omega]; exact hi1)
  have ed := Int.emod_add_mul_ediv n (cn (lsM a m).toNat a b m lo hi)
  have q0 : 0 ≤ n / cn (lsM a m).toNat a b m lo hi := Int.ediv_nonneg n0 (by omega)
  generalize hE : cn (lsM a m).toNat a b m lo hi = E at *
  generalize n / E = q at *
  have qp : 0 ≤ q * lsM a m := Int.mul_nonneg q0 (by omega)
  refine ⟨by omega, (Ht_per hm).mpr hi1, ?_⟩
  have h3 := hp q.toNat less.toNat
  have e4 : (q * lsM a m + less).toNat = q.toNat * (lsM a m).toNat + less.toNat := by
    have : ((q.toNat * (lsM a m).toNat : Nat) : Int) = q * lsM a m := by
      rw [Int.natCast_mul, show ((q.toNat : Nat) : Int) = q by omega, show (((lsM a m).toNat : Nat) : Int) = lsM a m by omega]
    omega
  rw [e4, h3, show ((q.toNat : Nat) : Int) = q by omega]
  rw [Int.mul_comm E q] at ed
  omega
theorem cn_m {a b m lo hi : Int} (hm : 0 < m) (e : cn (lsM a m).toNat a b m lo hi = 0) : cn m.toNat a b m lo hi = 0 := by
  have M0 := lsM_pos (a := a) hm
  have pe := per_eq a hm
  have hp := cn_per (P := (lsM a m).toNat) (a := a) (b := b) (c := lsA a m) (lo := lo) (hi := hi) hm (by rw [show (((lsM a m).toNat : Nat) : Int) = lsM a m by omega]; exact pe) (Int.gcd a m) 0
  rw [e, cn_zero, Nat.add_zero, Int.mul_zero, Int.add_zero] at hp
  have h2 := lsM_mul a m
  rw [show m.toNat = Int.gcd a m * (lsM a m).toNat by
    have : ((Int.gcd a m * (lsM a m).toNat : Nat) : Int) = lsM a m * (Int.gcd a m : Int) := by
      rw [Int.natCast_mul, show (((lsM a m).toNat : Nat) : Int) = lsM a m by omega, Int.mul_comm]
    omega]
  exact hp
theorem cn_le {a b lo hi m : Int} (hm : 0 < m) (l0 : 0 ≤ lo) (lh : lo ≤ hi) (hh : hi ≤ m) : ∀ n : Nat, cn n a b m lo hi ≤ n
  | 0 => by
    rw [cn_zero]
    omega
  | n + 1 => by
    have := cn_le (a := a) (b := b) hm l0 lh hh n
    by_cases z : Ht a b m lo hi n
    · have := (cn_step n hm l0 lh hh).1 z
      omega
    · have := (cn_step n hm l0 lh hh).2 z
      omega
theorem FH_all {a b m lo hi : Int} (hm : 0 < m) (f : FH a b m lo hi none) (k : Int) : ¬ Ht a b m lo hi k := by
  intro w
  refine f (k + m * (k.natAbs : Int)) ?_ (Ht_period.mpr w)
  have h1 : 1 * (k.natAbs : Int) ≤ m * (k.natAbs : Int) := Int.mul_le_mul_of_nonneg_right (by omega) (by omega)
  omega
theorem Ht_move {a b m lo hi j p : Int} : Ht a (a * p + b) m lo hi j ↔ Ht a b m lo hi (p + j) := by
  unfold Ht
  rw [show a * j + (a * p + b) = a * (p + j) + b by grind]
theorem FH_cn0 {a b m lo hi k : Int} (hm : 0 < m) (l0 : 0 ≤ lo) (lh : lo ≤ hi) (hh : hi ≤ m) (f : FH a b m lo hi (some k)) : cn k.toNat a b m lo hi = 0 :=
  cn_none hm l0 lh hh _ fun j j0 jk => f.2.2 j j0 (by have := f.1; omega)

def sp_over_up (_ : PySem.W.Frag) : Sp := fun vs H Q _ => ∃ (t b : Int), vs = [.int t, .int b] ∧ 0 < b ∧ Sz 3000 b ∧ Q (.int (cup t b)) H
theorem use_over_up {K : PySem.W.Frag} {H : Hp} {Q : VK} {E : XK} {t b : Int} (hb : 0 < b) (zb : Sz 3000 b) (q : Q (.int (cup t b)) H) : sp_over_up K [.int t, .int b] H Q E := ⟨t, b, rfl, hb, zb, q⟩
abbrev s_over_up : Stmt := topS 26
abbrev nm_over_up : List Str := ["top", "bottom"]
theorem sc_over_up : FnScope nm_over_up ["top", "bottom"] (defScope s_over_up) := ⟨rfl, rfl, rfl, by decide +kernel, rfl, by decide +kernel, by decide +kernel⟩
theorem st_over_up {v0 v1 : V} : start nm_over_up [v0, v1] = [some v0, some v1] := rfl
section
variable {P : Program} {w : World} {K : PySem.W.Frag} {mg : Str → Option Value} {base : Heap}
theorem ok_over_up (D : DefAt K mg "over_up" s_over_up ["top", "bottom"]) : Has P w K mg base CX0 2 "over_up" ["top", "bottom"] (sp_over_up K) := by
  refine D.ok sc_over_up (by rintro _ _ _ _ ⟨_, _, rfl, _⟩; rfl) (fun f cdv A outer s H vs Q E hr h => ?_)
  obtain ⟨t, b, rfl, hb, zb, q⟩ := h
  refine ⟨_, (pss_one (ps_ret (pe_op op_sub pe_int (pe_op op_fdivW (pe_op op_sub pe_int (pv 0)) (pv 1))))), ?_⟩
  rw [st_over_up]
  try dsimp only [Cx.nox, Cx.wish, Cx.blk, cx_K]
  walk_at "go"
  exact q

end
--@ needs Hit
/-- none or a number -/
def vO : Option Int → V
  | none => .non
  | some k => .int k
theorem vO_some {v : Option Int} {k : Int} (h : v = some k) : vO v = .int k := by rw [h]; rfl

def spF_first_rest (_ : PySem.W.Frag) (j : Nat) : Sp := fun vs H Q _ => ∃ (a m lo hi : Int), vs = [.int a, .int m, .int lo, .int hi] ∧ 0 < m ∧ Sz 2000 m ∧ 0 ≤ lo ∧ lo ≤ hi ∧ hi < m ∧ Trn j a m ∧ ∀ v, FR a m lo hi v → Q (vO v) H
abbrev sp_first_rest (K : PySem.W.Frag) : Sp := spF_first_rest K 290
theorem fb_290 : 1606938044258990275541962092341162602522202993782792835301376 ≤ fb 291 := by
  have h : ∀ k j : Nat, (fun x => x) (fb (j + k)) = fb (j + k) := fun _ _ => rfl
  have e : ∀ k x y : Nat, ∀ j, fb j = x → fb (j + 1) = y → fb (j + k) = (Nat.rec (motive := fun _ => Nat → Nat → Nat) (fun x _ => x) (fun _ ih x y => ih y (x + y)) k : Nat → Nat → Nat) x y := by
    intro k
    induction k with
    | zero => intro x y j h1 _; exact h1
    | succ k ih =>
      intro x y j h1 h2
      have := ih y (x + y) (j + 1) h2 (by
        show fb (j + 1) + fb j = x + y
        omega)
      rw [show j + (k + 1) = j + 1 + k by omega]
      exact this
  have e2 := e 291 0 1 0 rfl rfl
  rw [Nat.zero_add] at e2
  rw [e2]
  decide +kernel
theorem trn_290 {a m : Int} (z : Sz 200 m) : Trn 290 a m := by
  refine .inl ?_
  have h : m.natAbs < 2 ^ 200 := z
  have := fb_290
  show m < ((fb 291 : Nat) : Int)
  omega
theorem use_first_rest {K : PySem.W.Frag} {H : Hp} {Q : VK} {E : XK} {a m lo hi : Int} (hm : 0 < m) (zm : Sz 200 m) (l0 : 0 ≤ lo) (lh : lo ≤ hi) (hh : hi < m) (q : ∀ v, FR a m lo hi v → Q (vO v) H) : sp_first_rest K [.int a, .int m, .int lo, .int hi] H Q E :=
  ⟨a, m, lo, hi, rfl, hm, zm.mono (by decide), l0, lh, hh, trn_290 zm, q⟩
abbrev s_first_rest : Stmt := topS 27
abbrev nm_first_rest : List Str := ["a", "m", "low", "high", "k", "y"]
theorem sc_first_rest : FnScope nm_first_rest ["a", "m", "low", "high"] (defScope s_first_rest) := ⟨rfl, rfl, rfl, by decide +kernel, rfl, by decide +kernel, by decide +kernel⟩
theorem st_first_rest {v0 v1 v2 v3 : V} : start nm_first_rest [v0, v1, v2, v3] = [some v0, some v1, some v2, some v3, none, none] := rfl
section
variable {P : Program} {w : World} {K : PySem.W.Frag} {mg : Str → Option Value} {base : Heap}
theorem step_first_rest {j : Nat} (D : DefAt K mg "first_rest" s_first_rest ["a", "m", "low", "high"]) (G_over_up : Has P w K mg base CX0 2 "over_up" ["top", "bottom"] (sp_over_up K)) (G_self : HasD P w K mg base j "first_rest" ["a", "m", "low", "high"] (spF_first_rest K j)) : HasD P w K mg base (j + 1) "first_rest" ["a", "m", "low", "high"] (spF_first_rest K (j + 1)) := by
  refine D.okD sc_first_rest (by rintro _ _ _ _ ⟨_, _, _, _, rfl, _⟩; rfl) (fun f cdv A outer s H vs Q E hD h => ?_)
  have hr := hD.room
  obtain ⟨a, m, lo, hi, rfl, hm, zm, l0, lh, hh, tr, q⟩ := h
  refine ⟨_, (pss_cons (ps_if (pt_cmpR op_eq (pv 2) pe_int (nomark _)) (pss_one (ps_ret pe_int)) pss_nil)
      (pss_cons (ps_set (i := 0) sc_first_rest.nd rfl (Or.inl rfl) (pe_op op_mod (pv 0) (pv 1)))
      (pss_cons (ps_if (pt_cmpR op_eq (pv 0) pe_int (nomark _)) (pss_one (ps_ret pe_non)) pss_nil)
      (pss_cons (ps_set (i := 4) sc_first_rest.nd rfl (Or.inl rfl) (pcall G_over_up (hr.mono (by decide)) (pa_cons (pv 2) (pa_cons (pv 0) pa_nil))))
      (pss_cons (ps_if (pt_cmpR op_le (pe_op op_mulX (pv 4) (pv 0)) (pv 3) (nomark _)) (pss_one (ps_ret (pv 4))) pss_nil)
      (pss_cons (ps_set (i := 5) sc_first_rest.nd rfl (Or.inl rfl) (pcallD G_self hD (pa_cons (pv 1) (pa_cons (pv 0) (pa_cons (pe_op op_mod (pe_op op_sub pe_int (pv 3)) (pv 0)) (pa_cons (pe_op op_mod (pe_op op_sub pe_int (pv 2)) (pv 0)) pa_nil))))))
      (pss_cons (ps_if (pt_cmpR op_isNn (pv 5) pe_non (nomark _)) (pss_one (ps_ret pe_non)) pss_nil)
      (pss_one (ps_ret (pcall G_over_up (hr.mono (by decide)) (pa_cons (pe_op op_add (pv 2) (pe_op op_mulX (pv 1) (pv 5))) (pa_cons (pv 0) pa_nil)))))))))))), ?_⟩
  rw [st_first_rest]
  try dsimp only [Cx.nox, Cx.wish, Cx.blk, cx_K]
  walk_at "go"
  have zlo : Sz 2000 lo := zm.le (by omega) (by omega)
  refine if_2 (fun h0 => ?_) (fun h0 => ?_)
  · have h0 := of_decide_eq_true h0
    subst h0
    walk_at "go"
    exact q _ (FR_0 (by omega))
  · have h0 := of_decide_eq_false h0
    walk_at "go"
    have r0 := Int.emod_nonneg a (show m ≠ 0 by omega)
    have r1 := Int.emod_lt_of_pos a hm
    refine if_2 (fun h1 => ?_) (fun h1 => ?_)
    · have h1 := of_decide_eq_true h1
      walk_at "go"
      have f := FR_no (m := m) (lo := lo) (hi := hi) (by omega)
      rw [← h1] at f
      exact q _ (FR_mod f)
    · have h1 := of_decide_eq_false h1
      have nx := Trn_next hm tr h1
      generalize hA : a % m = A at *
      have A0 : 0 < A := by omega
      have zA : Sz 2000 A := zm.lt (by omega) r1
      have q' : ∀ v, FR A m lo hi v → Q (vO v) H := fun v f => q v (FR_mod (by rw [hA]; exact f))
      clear q hA tr
      walk_at "go"
      refine use_over_up A0 (zA.mono (by decide)) ?_
      obtain ⟨c0, c1⟩ := cup_b A0 (show 0 < lo by omega)
      have zc : Sz 2000 (cup lo A) := zlo.le (by omega) (by omega)
      walk_at "go"
      refine if_2 (fun h2 => ?_) (fun h2 => ?_)
      · have h2 := of_decide_eq_true h2
        walk_at "go"
        exact q' _ (FR_one A0 (by omega) hh h2)
      · have h2 := of_decide_eq_false h2
        walk_at "go"
        have b0 := Int.emod_nonneg (0 - hi) (show A ≠ 0 by omega)
        have b1 := Int.emod_lt_of_pos (0 - lo) A0
        have bb := turn_bounds A0 (show 0 < lo by omega) lh (show hi < cup lo A * A by omega)
        refine ⟨m, A, _, _, rfl, A0, zA, b0, bb, b1, nx, fun v f => ?_⟩
        have f' := FR_turn A0 hm (show 0 < lo by omega) lh hh (by omega) f
        cases v with
        | none =>
          dsimp only [vO]
          walk_at "go"
          exact q' _ f'
        | some y =>
          have yl := FR_lt A0 f
          have y0 := f.1
          have zy : Sz 2000 y := zA.lt y0 yl
          dsimp only [vO]
          walk_at "go"
          refine use_over_up A0 (zA.mono (by decide)) ?_
          walk_at "go"
          exact q' _ f'

theorem ok_first_rest (D : DefAt K mg "first_rest" s_first_rest ["a", "m", "low", "high"]) (G_over_up : Has P w K mg base CX0 2 "over_up" ["top", "bottom"] (sp_over_up K)) : Has P w K mg base CX0 111 "first_rest" ["a", "m", "low", "high"] (sp_first_rest K) := by
  have all : ∀ j, HasD P w K mg base j "first_rest" ["a", "m", "low", "high"] (spF_first_rest K j) := by
    intro j
    induction j with
    | zero => exact D.none (by
        rintro _ _ _ _ ⟨a, m, lo, hi, _, hm, _, _, _, _, t, _⟩
        exact Trn_0 hm t)
    | succ j ih => exact step_first_rest D G_over_up ih
  exact (all 290).has (by decide)
end
def sp_first_of (_ : PySem.W.Frag) : Sp := fun vs H Q _ => ∃ (p : Addr) (a b m lo hi : Int), vs = [.ref p, .int lo, .int hi] ∧ H p = some (.tup [.int a, .int b, .int m]) ∧ 0 < m ∧ Sz 200 m ∧ 0 ≤ lo ∧ lo ≤ hi ∧ hi ≤ m ∧ ∀ v, FH a b m lo hi v → Q (vO v) H
theorem use_first_of {K : PySem.W.Frag} {H : Hp} {Q : VK} {E : XK} {p : Addr} {a b m lo hi : Int} (hp : H p = some (.tup [.int a, .int b, .int m])) (hm : 0 < m) (zm : Sz 200 m) (l0 : 0 ≤ lo) (lh : lo ≤ hi) (hh : hi ≤ m) (q : ∀ v, FH a b m lo hi v → Q (vO v) H) : sp_first_of K [.ref p, .int lo, .int hi] H Q E :=
  ⟨p, a, b, m, lo, hi, rfl, hp, hm, zm, l0, lh, hh, q⟩
abbrev s_first_of : Stmt := topS 28
abbrev nm_first_of : List Str := ["stair", "low", "high", "a", "b", "m"]
theorem sc_first_of : FnScope nm_first_of ["stair", "low", "high"] (defScope s_first_of) := ⟨rfl, rfl, rfl, by decide +kernel, rfl, by decide +kernel, by decide +kernel⟩
theorem st_first_of {v0 v1 v2 : V} : start nm_first_of [v0, v1, v2] = [some v0, some v1, some v2, none, none, none] := rfl
section
variable {P : Program} {w : World} {K : PySem.W.Frag} {mg : Str → Option Value} {base : Heap}
theorem ok_first_of (D : DefAt K mg "first_of" s_first_of ["stair", "low", "high"]) (G_first_rest : Has P w K mg base CX0 111 "first_rest" ["a", "m", "low", "high"] (sp_first_rest K)) : Has P w K mg base CX0 112 "first_of" ["stair", "low", "high"] (sp_first_of K) := by
  refine D.ok sc_first_of (by rintro _ _ _ _ ⟨_, _, _, _, _, _, rfl, _⟩; rfl) (fun f cdv A outer s H vs Q E hr h => ?_)
  obtain ⟨p, a, b, m, lo, hi, rfl, hp, hm, zm, l0, lh, hh, q⟩ := h
  refine ⟨_, (pss_cons (ps_asg (pv 0) (pg_tup (by rfl) (pgs_cons (pg_name (i := 3) sc_first_of.nd rfl (Or.inl rfl)) (pgs_cons (pg_name (i := 4) sc_first_of.nd rfl (Or.inl rfl)) (pgs_cons (pg_name (i := 5) sc_first_of.nd rfl (Or.inl rfl)) pgs_nil)))))
      (pss_cons (ps_if (pt_cmpR op_eq (pv 1) (pv 2) (nomark _)) (pss_one (ps_ret pe_non)) pss_nil)
      (pss_cons (ps_if (pt_chain op_le op_lt (pv 1) (pe_op op_mod (pv 4) (pv 5)) (pv 2)) (pss_one (ps_ret pe_int)) pss_nil)
      (pss_one (ps_ret (pcall G_first_rest (hr.mono (by decide)) (pa_cons (pv 3) (pa_cons (pv 5) (pa_cons (pe_op op_mod (pe_op op_sub (pv 1) (pv 4)) (pv 5)) (pa_cons (pe_op op_mod (pe_op op_sub (pe_op op_sub (pv 2) pe_int) (pv 4)) (pv 5)) pa_nil)))))))))), ?_⟩
  rw [st_first_of]
  try dsimp only [Cx.nox, Cx.wish, Cx.blk, cx_K]
  walk_at "go"
  refine if_2 (fun h0 => ?_) (fun h0 => ?_)
  · have h0 := of_decide_eq_true h0
    subst h0
    walk_at "go"
    exact q none (FH_same a b m lo)
  · have h0 := of_decide_eq_false h0
    walk_at "go"
    by_cases hin : lo ≤ b % m ∧ b % m < hi
    · rw [decide_eq_true hin.1]
      refine if_T rfl ?_
      walk_at "go"
      exact q (some 0) (FH_0 hin.1 hin.2)
    · have tail : ∀ v, FR a m ((lo - b) % m) ((hi - 1 - b) % m) v → Q (vO v) H := fun v f => q v (FH_of hm l0 (by omega) hh hin f)
      obtain ⟨g1, g2, g3⟩ := rest_bounds hm l0 (show lo < hi by omega) hh hin
      refine if_2 (fun h1 => ?_) (fun h1 => ?_)
      · have h1 := of_decide_eq_true h1
        walk_at "go"
        refine use_first_rest hm zm (by omega) g2 g3 fun v f => ?_
        exact tail v f
      · walk_at "go"
        refine use_first_rest hm zm (by omega) g2 g3 fun v f => ?_
        exact tail v f

end
def sp_next_of (_ : PySem.W.Frag) : Sp := fun vs H Q _ => ∃ (p : Addr) (a b m lo hi k : Int), vs = [.ref p, .int lo, .int hi, .int k] ∧ H p = some (.tup [.int a, .int b, .int m]) ∧ 0 < m ∧ Sz 3000 a ∧ Sz 3000 k ∧ Sz 200 m ∧ 0 ≤ lo ∧ lo ≤ hi ∧ hi ≤ m ∧ ∀ v H', Ex H H' → FH a (a * k + b) m lo hi v → Q (vO (v.map (k + ·))) H'
theorem use_next_of {K : PySem.W.Frag} {H : Hp} {Q : VK} {E : XK} {p : Addr} {a b m lo hi k : Int} (hp : H p = some (.tup [.int a, .int b, .int m])) (hm : 0 < m) (za : Sz 3000 a) (zk : Sz 3000 k) (zm : Sz 200 m) (l0 : 0 ≤ lo) (lh : lo ≤ hi) (hh : hi ≤ m) (q : ∀ v H', Ex H H' → FH a (a * k + b) m lo hi v → Q (vO (v.map (k + ·))) H') : sp_next_of K [.ref p, .int lo, .int hi, .int k] H Q E :=
  ⟨p, a, b, m, lo, hi, k, rfl, hp, hm, za, zk, zm, l0, lh, hh, q⟩
abbrev s_next_of : Stmt := topS 29
abbrev nm_next_of : List Str := ["stair", "low", "high", "k", "a", "b", "m", "found"]
theorem sc_next_of : FnScope nm_next_of ["stair", "low", "high", "k"] (defScope s_next_of) := ⟨rfl, rfl, rfl, by decide +kernel, rfl, by decide +kernel, by decide +kernel⟩
theorem st_next_of {v0 v1 v2 v3 : V} : start nm_next_of [v0, v1, v2, v3] = [some v0, some v1, some v2, some v3, none, none, none, none] := rfl
section
variable {P : Program} {w : World} {K : PySem.W.Frag} {mg : Str → Option Value} {base : Heap}
theorem ok_next_of (D : DefAt K mg "next_of" s_next_of ["stair", "low", "high", "k"]) (G_first_of : Has P w K mg base CX0 112 "first_of" ["stair", "low", "high"] (sp_first_of K)) : Has P w K mg base CX0 113 "next_of" ["stair", "low", "high", "k"] (sp_next_of K) := by
  refine D.ok sc_next_of (by rintro _ _ _ _ ⟨_, _, _, _, _, _, _, rfl, _⟩; rfl) (fun f cdv A outer s H vs Q E hr h => ?_)
  obtain ⟨p, a, b, m, lo, hi, k, rfl, hp, hm, za, zk, zm, l0, lh, hh, q⟩ := h
  refine ⟨_, (pss_cons (ps_asg (pv 0) (pg_tup (by rfl) (pgs_cons (pg_name (i := 4) sc_next_of.nd rfl (Or.inl rfl)) (pgs_cons (pg_name (i := 5) sc_next_of.nd rfl (Or.inl rfl)) (pgs_cons (pg_name (i := 6) sc_next_of.nd rfl (Or.inl rfl)) pgs_nil)))))
      (pss_cons (ps_set (i := 7) sc_next_of.nd rfl (Or.inl rfl) (pcall G_first_of (hr.mono (by decide)) (pa_cons (pe_tup (pa_cons (pv 4) (pa_cons (pe_op op_add (pe_op op_mulX (pv 4) (pv 3)) (pv 5)) (pa_cons (pv 6) pa_nil)))) (pa_cons (pv 1) (pa_cons (pv 2) pa_nil)))))
      (pss_cons (ps_if (pt_cmpR op_isNn (pv 7) pe_non (nomark _)) (pss_one (ps_ret pe_non)) pss_nil)
      (pss_one (ps_ret (pe_op op_add (pv 3) (pv 7))))))), ?_⟩
  rw [st_next_of]
  try dsimp only [Cx.nox, Cx.wish, Cx.blk, cx_K]
  walk_at "go"
  rename_i t1 H1 n1 e1 h1
  refine use_first_of h1 hm zm l0 lh hh fun v f => ?_
  have q' := q v H1 e1 f
  cases v with
  | none =>
    dsimp only [vO]
    walk_at "go"
    exact q'
  | some y =>
    dsimp only [vO]
    walk_at "go"
    exact q'

end
--@ needs Hit
/-! lows -/
def rst (a b m k : Int) : Int := (a * k + b) % m
theorem rst_b (a b k : Int) {m : Int} (hm : 0 < m) : 0 ≤ rst a b m k ∧ rst a b m k < m :=
  ⟨Int.emod_nonneg _ (by omega), Int.emod_lt_of_pos _ hm⟩
/-- so many places on the rest is less by so much, where it is not less than that -/
theorem rst_on {a b m on down k : Int} (hm : 0 < m) (h : ∃ c, a * on = m * c - down) (g : down ≤ rst a b m k) (d0 : 0 ≤ down) : rst a b m (k + on) = rst a b m k - down := by
  obtain ⟨c, h⟩ := h
  have e := Int.emod_add_mul_ediv (a * k + b) m
  have r1 := Int.emod_lt_of_pos (a * k + b) hm
  unfold rst at g ⊢
  rw [show a * (k + on) + b = ((a * k + b) % m - down) + m * ((a * k + b) / m + c) by
    rw [Int.mul_add, h]
    grind, Int.add_mul_emod_self_left, Int.emod_eq_of_lt (by omega) (by omega)]
/-- a run: its steps, and that no place ahead of a step is so low -/
def Run (a b m place low on down times : Int) : Prop := 1 ≤ on ∧ 1 ≤ down ∧ 1 ≤ times ∧ down * times ≤ low ∧ rst a b m place = low ∧
  ∀ s : Nat, 1 ≤ s → (s : Int) ≤ times → rst a b m (place + on * s) = low - down * s ∧ ∀ k, 0 ≤ k → k < place + on * s → low - down * (s - 1) ≤ rst a b m k
/-- along a run, as long as the low lasts -/
theorem run_goes {a b m place low on down : Int} (hm : 0 < m) (p0 : 0 ≤ place) (on1 : 1 ≤ on) (d1 : 1 ≤ down) (hl : rst a b m place = low) (ht : rst a b m (place + on) = low - down) (hd : down ≤ low)
    (least : ∀ k, 0 ≤ k → k < place + on → low ≤ rst a b m k) : ∀ s : Nat, 1 ≤ s → down * s ≤ low → rst a b m (place + on * s) = low - down * s ∧ ∀ k, 0 ≤ k → k < place + on * s → low - down * (s - 1) ≤ rst a b m k := by
  have hc : ∃ c, a * on = m * c - down := by
    have e1 := Int.emod_add_mul_ediv (a * place + b) m
    have e2 := Int.emod_add_mul_ediv (a * (place + on) + b) m
    unfold rst at hl ht
    exact ⟨(a * (place + on) + b) / m - (a * place + b) / m, by grind⟩
  intro s
  induction s with
  | zero => intro h; omega
  | succ s ih =>
    intro _ hs
    by_cases z : s = 0
    · subst z
      refine ⟨?_, fun k k0 k1 => ?_⟩
      · simp
        exact ht
      · simp at k1 ⊢
        exact least k k0 k1
    · have es : down * ((s + 1 : Nat) : Int) = down * s + down := by
        rw [show ((s + 1 : Nat) : Int) = (s : Int) + 1 from rfl, Int.mul_add, Int.mul_one]
      have eo : on * ((s + 1 : Nat) : Int) = on * s + on := by
        rw [show ((s + 1 : Nat) : Int) = (s : Int) + 1 from rfl, Int.mul_add, Int.mul_one]
      have ed : down * ((s : Int) - 1) = down * s - down := by rw [Int.mul_sub, Int.mul_one]
      have os : on * 1 ≤ on * (s : Int) := Int.mul_le_mul_of_nonneg_left (by omega) (by omega)
      rw [es] at hs
      obtain ⟨i1, i2⟩ := ih (by omega) (by omega)
      rw [ed] at i2
      refine ⟨?_, fun k k0 k1 => ?_⟩
      · rw [eo, es, show place + (on * s + on) = place + on * s + on by omega, rst_on hm hc (by omega) (by omega)]
        omega
      · rw [show (((s + 1 : Nat) : Int) - 1) = (s : Int) by omega]
        by_cases y : k < place + on * s
        · have := i2 k k0 y
          omega
        · have h1 := i2 (k - on) (by omega) (by omega)
          have h3 : down ≤ rst a b m (k - on) := by omega
          have h2 := rst_on (k := k - on) hm hc h3 (by omega)
          rw [show k - on + on = k by omega] at h2
          omega

--@ needs Low
/-! the runs of lows -/
def endOf (b m : Int) (rs : List (List Int)) : Int × Int := match rs.getLast? with
  | some [p, l, on, dn, t] => (p + on * t, l - dn * t)
  | _ => (0, b % m)
def stepOf (rs : List (List Int)) : Int × Int := match rs.getLast? with
  | some [_, _, on, dn, _] => (on, dn)
  | _ => (0, 0)
theorem endOf_nil (b m : Int) : endOf b m [] = (0, b % m) := rfl
theorem stepOf_nil : stepOf [] = (0, 0) := rfl
theorem endOf_snoc (b m : Int) (rs : List (List Int)) (p l on dn t : Int) : endOf b m (rs ++ [[p, l, on, dn, t]]) = (p + on * t, l - dn * t) := by
  unfold endOf
  rw [List.getLast?_concat]
theorem stepOf_snoc (rs : List (List Int)) (p l on dn t : Int) : stepOf (rs ++ [[p, l, on, dn, t]]) = (on, dn) := by
  unfold stepOf
  rw [List.getLast?_concat]
def RunsP (a b m n : Int) (rs : List (List Int)) : Prop := ∀ i r, rs[i]? = some r → ∃ p l on dn t : Int, r = [p, l, on, dn, t] ∧ endOf b m (rs.take i) = (p, l) ∧ Run a b m p l on dn t ∧ 0 ≤ p ∧ p + on * t < n ∧ (on, dn) ≠ stepOf (rs.take i)
theorem RunsP.nil (a b m n : Int) : RunsP a b m n [] := fun i r h => by simp at h
theorem RunsP.snoc {a b m n : Int} {rs : List (List Int)} (h : RunsP a b m n rs) {p l on dn t : Int} (e : endOf b m rs = (p, l)) (r : Run a b m p l on dn t) (p0 : 0 ≤ p) (pn : p + on * t < n) (ne : (on, dn) ≠ stepOf rs) : RunsP a b m n (rs ++ [[p, l, on, dn, t]]) := by
  intro i r' hr
  by_cases hi : i < rs.length
  · rw [List.getElem?_append_left hi] at hr
    have ht : (rs ++ [[p, l, on, dn, t]]).take i = rs.take i := List.take_append_of_le_length (by omega)
    rw [ht]
    exact h i r' hr
  · have hl : i = rs.length := by
      have := (List.getElem?_eq_some_iff.mp hr).1
      rw [List.length_append] at this
      simp at this
      omega
    subst hl
    rw [List.getElem?_append_right (Nat.le_refl _), Nat.sub_self] at hr
    have ht : (rs ++ [[p, l, on, dn, t]]).take rs.length = rs := by
      rw [List.take_append_of_le_length (Nat.le_refl _), List.take_length]
    rw [ht]
    exact ⟨p, l, on, dn, t, (Option.some.inj hr).symm, e, r, p0, pn, ne⟩
/-- the least rest among the first places, and its first place -/
def Least (a b m n low place : Int) : Prop := 0 ≤ place ∧ place < n ∧ rst a b m place = low ∧ (∀ k, 0 ≤ k → k < place → low < rst a b m k) ∧ ∀ k, 0 ≤ k → k < n → low ≤ rst a b m k
theorem Least.uniq {a b m n l p l' p' : Int} (h : Least a b m n l p) (h' : Least a b m n l' p') : l = l' ∧ p = p' := by
  obtain ⟨h1, h2, h3, h4, h5⟩ := h
  obtain ⟨g1, g2, g3, g4, g5⟩ := h'
  have a1 := h5 p' g1 g2
  have a2 := g5 p h1 h2
  have e : l = l' := by omega
  refine ⟨e, ?_⟩
  by_cases z : p < p'
  · have := g4 p h1 z
    omega
  · by_cases y : p' < p
    · have := h4 p' g1 y
      omega
    · omega
/-- what the loop keeps -/
structure Lst (a b m n : Int) (rs : List (List Int)) (place low : Int) : Prop where
  e : endOf b m rs = (place, low)
  p0 : 0 ≤ place
  pn : place < n
  r : rst a b m place = low
  ah : ∀ k, 0 ≤ k → k < place → low < rst a b m k
  R : RunsP a b m n rs
  g : (low * 2 ^ rs.length < 2 ^ 200 ∧ (rs = [] ∨ low < (stepOf rs).2)) ∨ ((∀ k, 0 ≤ k → k < n → low ≤ rst a b m k) ∧ rs.length ≤ 200)
theorem Lst.new {a b m n : Int} (hm : 0 < m) (zm : m < 2 ^ 200) (hn : 0 < n) : Lst a b m n [] 0 (b % m) := by
  have r1 := Int.emod_lt_of_pos b hm
  refine ⟨rfl, by omega, hn, ?_, fun k h1 h2 => by omega, RunsP.nil _ _ _ _, .inl ⟨?_, .inl rfl⟩⟩
  · unfold rst
    rw [Int.mul_zero, Int.zero_add]
  · show b % m * 2 ^ 0 < 2 ^ 200
    omega
theorem Lst.len {a b m n : Int} {rs : List (List Int)} {place low : Int} (h : Lst a b m n rs place low) (hm : 0 < m) : rs.length ≤ 200 ∨ low = 0 := by
  rcases h.g with ⟨g, _⟩ | g
  · by_cases z : low = 0
    · exact .inr z
    · left
      have l0 := (rst_b a b place hm).1
      rw [h.r] at l0
      by_cases y : rs.length ≤ 200
      · exact y
      · have : (2 : Int) ^ 200 ≤ 2 ^ rs.length := by
          have := Nat.pow_le_pow_right (n := 2) (by decide) (show 200 ≤ rs.length by omega)
          exact_mod_cast this
        have h1 : 1 * (2 : Int) ^ rs.length ≤ low * 2 ^ rs.length := Int.mul_le_mul_of_nonneg_right (by omega) (by omega)
        omega
  · exact .inl g.2
/-- no lower one is left -/
theorem Lst.none {a b m n : Int} {rs : List (List Int)} {place low : Int} (h : Lst a b m n rs place low) (hm : 0 < m) (f : ∀ y : Int, 0 ≤ y → place + y < n → ¬ Ht a (a * place + b) m 0 low y) : Least a b m n low place := by
  refine ⟨h.p0, h.pn, h.r, h.ah, fun k k0 kn => ?_⟩
  by_cases z : k < place
  · exact Int.le_of_lt (h.ah k k0 z)
  · have := f (k - place) (by omega) (by omega)
    unfold Ht at this
    unfold rst
    have e : a * (k - place) + (a * place + b) = a * k + b := by grind
    rw [e] at this
    have := Int.emod_nonneg (a * k + b) (show m ≠ 0 by omega)
    omega
/-- a run more -/
theorem Lst.step {a b m n : Int} {rs : List (List Int)} {place low : Int} (h : Lst a b m n rs place low) (hm : 0 < m) {y : Int} (f : FH a (a * place + b) m 0 low (some y)) (hy : place + y < n) :
    rs.length < 200 ∧ 1 ≤ y ∧ 1 ≤ low - rst a b m (place + y) ∧ ∀ dn t : Int, dn = low - rst a b m (place + y) → t = min (low / dn) ((n - 1 - place) / y) →
      1 ≤ t ∧ dn * t ≤ low ∧ place + y * t < n ∧ Lst a b m n (rs ++ [[place, low, y, dn, t]]) (place + y * t) (low - dn * t) := by
  obtain ⟨y0, fy, fl⟩ := f
  have ex : ∀ j : Int, a * j + (a * place + b) = a * (place + j) + b := fun j => by grind
  have y1 : 1 ≤ y := by
    by_cases z : y = 0
    · subst z
      have := h.r
      unfold Ht at fy
      unfold rst at this
      rw [ex, Int.add_zero] at fy
      omega
    · omega
  have lo0 := (rst_b a b place hm).1
  rw [h.r] at lo0
  have ry : 0 ≤ rst a b m (place + y) ∧ rst a b m (place + y) < low := by
    unfold Ht at fy
    unfold rst
    rw [ex] at fy
    exact fy
  have least : ∀ k, 0 ≤ k → k < place + y → low ≤ rst a b m k := fun k k0 k1 => by
    by_cases z : k < place
    · exact Int.le_of_lt (h.ah k k0 z)
    · have := fl (k - place) (by omega) (by omega)
      unfold Ht at this
      rw [ex, show place + (k - place) = k by omega] at this
      have r0 := (rst_b a b k hm).1
      unfold rst at r0 ⊢
      omega
  obtain ⟨g1, g2⟩ : low * 2 ^ rs.length < 2 ^ 200 ∧ (rs = [] ∨ low < (stepOf rs).2) := by
    rcases h.g with g | ⟨g, _⟩
    · exact g
    · have := g (place + y) (by have := h.p0; omega) hy
      omega
  have len : rs.length < 200 := by
    by_cases z : rs.length < 200
    · exact z
    · have : (2 : Int) ^ 200 ≤ 2 ^ rs.length := by
        have := Nat.pow_le_pow_right (n := 2) (by decide) (show 200 ≤ rs.length by omega)
        exact_mod_cast this
      have h1 : 1 * (2 : Int) ^ rs.length ≤ low * 2 ^ rs.length := Int.mul_le_mul_of_nonneg_right (by omega) (by omega)
      omega
  refine ⟨len, y1, by omega, fun dn t ed et => ?_⟩
  have d1 : 1 ≤ dn := by omega
  have dl : dn ≤ low := by omega
  have rg := run_goes (a := a) (b := b) (place := place) (low := low) (on := y) (down := dn) hm h.p0 y1 d1 h.r (by omega) dl least
  have q1 : 1 ≤ low / dn := (Int.le_ediv_iff_mul_le (by omega)).mpr (by omega)
  have q2 : 1 ≤ (n - 1 - place) / y := (Int.le_ediv_iff_mul_le (by omega)).mpr (by omega)
  have t1 : 1 ≤ t := by omega
  have tl : t ≤ low / dn := by omega
  have tn : t ≤ (n - 1 - place) / y := by omega
  have hl : dn * t ≤ low := by
    have := (Int.le_ediv_iff_mul_le (by omega)).mp tl
    rw [Int.mul_comm]
    exact this
  have hn : place + y * t < n := by
    have := (Int.le_ediv_iff_mul_le (by omega)).mp tn
    rw [Int.mul_comm] at this
    omega
  have yt : 0 ≤ y * t := Int.mul_nonneg (by omega) (by omega)
  have p0 := h.p0
  obtain ⟨e1, e2⟩ := rg t.toNat (by omega) (by rw [show ((t.toNat : Nat) : Int) = t by omega]; exact hl)
  rw [show ((t.toNat : Nat) : Int) = t by omega] at e1 e2
  have edt : dn * (t - 1) = dn * t - dn := by rw [Int.mul_sub, Int.mul_one]
  refine ⟨t1, hl, hn, ⟨endOf_snoc .., by omega, hn, e1, fun k k0 k1 => ?_, h.R.snoc h.e ⟨y1, d1, t1, hl, h.r, fun s s1 s2 => ?_⟩ p0 hn ?_, ?_⟩⟩
  · have := e2 k k0 k1
    omega
  · refine rg s s1 ?_
    have : dn * (s : Int) ≤ dn * t := Int.mul_le_mul_of_nonneg_left s2 (by omega)
    omega
  · intro z
    rcases g2 with rfl | g2
    · rw [stepOf_nil] at z
      have := congrArg Prod.fst z
      dsimp at this
      omega
    · have := congrArg Prod.snd z
      dsimp at this
      omega
  · rw [stepOf_snoc, List.length_append]
    show _ ∧ (_ ∨ low - dn * t < dn) ∨ _ ∧ rs.length + 1 ≤ 200
    by_cases ca : t = low / dn
    · left
      have em := Int.emod_add_mul_ediv low dn
      have r1 := Int.emod_lt_of_pos low (show 0 < dn by omega)
      have ll : low - dn * t = low % dn := by
        rw [ca]
        omega
      have dd : dn * 1 ≤ dn * t := Int.mul_le_mul_of_nonneg_left t1 (by omega)
      refine ⟨?_, .inr (by omega)⟩
      rw [show rs.length + [[place, low, y, dn, t]].length = rs.length + 1 from rfl, Int.pow_succ]
      have h2 : (low - dn * t) * 2 * 2 ^ rs.length ≤ low * 2 ^ rs.length := Int.mul_le_mul_of_nonneg_right (by omega) (Int.pow_nonneg (by decide))
      have h3 : (low - dn * t) * (2 ^ rs.length * 2) = (low - dn * t) * 2 * 2 ^ rs.length := by
        rw [Int.mul_comm ((2 : Int) ^ rs.length) 2, Int.mul_assoc]
      omega
    · right
      refine ⟨fun k k0 kn => ?_, by omega⟩
      have tq : t = (n - 1 - place) / y := by omega
      have t2 : t + 1 ≤ low / dn := by omega
      have hl2 : dn * (t + 1) ≤ low := by
        have := (Int.le_ediv_iff_mul_le (by omega)).mp t2
        rw [Int.mul_comm]
        exact this
      have := (rg (t.toNat + 1) (by omega) (by rw [show ((t.toNat + 1 : Nat) : Int) = t + 1 by omega]; exact hl2)).2 k k0 (by
        rw [show ((t.toNat + 1 : Nat) : Int) = t + 1 by omega]
        have em := Int.emod_add_mul_ediv (n - 1 - place) y
        have r1 := Int.emod_lt_of_pos (n - 1 - place) (show 0 < y by omega)
        rw [← tq] at em
        rw [Int.mul_add, Int.mul_one]
        omega)
      rw [show ((t.toNat + 1 : Nat) : Int) - 1 = t by omega] at this
      exact this
theorem rst_turn {a b m : Int} (hm : 0 < m) (k : Int) : rst (0 - a) (m - 1 - b) m k = m - 1 - rst a b m k := by
  have e := Int.emod_add_mul_ediv (a * k + b) m
  have r0 := Int.emod_nonneg (a * k + b) (show m ≠ 0 by omega)
  have r1 := Int.emod_lt_of_pos (a * k + b) hm
  unfold rst
  rw [show (0 - a) * k + (m - 1 - b) = (m - 1 - (a * k + b) % m) + m * (-((a * k + b) / m)) by grind, Int.add_mul_emod_self_left, Int.emod_eq_of_lt (by omega) (by omega)]
/-- the greatest rest, and its first place -/
theorem Least.turn {a b m n h p : Int} (hm : 0 < m) (L : Least (0 - a) (m - 1 - b) m n (m - 1 - h) p) : 0 ≤ p ∧ p < n ∧ rst a b m p = h ∧ (∀ k, 0 ≤ k → k < p → rst a b m k < h) ∧ ∀ k, 0 ≤ k → k < n → rst a b m k ≤ h := by
  obtain ⟨h1, h2, h3, h4, h5⟩ := L
  refine ⟨h1, h2, ?_, fun k k0 k1 => ?_, fun k k0 k1 => ?_⟩
  · rw [rst_turn hm] at h3
    omega
  · have := h4 k k0 k1
    rw [rst_turn hm] at this
    omega
  · have := h5 k k0 k1
    rw [rst_turn hm] at this
    omega

def sp_runs_of (_ : PySem.W.Frag) : Sp := fun vs H Q _ => ∃ (p : Addr) (a b m n : Int), vs = [.ref p, .int n] ∧ H p = some (.tup [.int a, .int b, .int m]) ∧ 0 < m ∧ Sz 3000 a ∧ Sz 2500 b ∧ Sz 200 m ∧ 0 < n ∧ n < 1000000000000000000000000000000 ∧
  ∀ l rs place low H', H l = none → Ex H H' → RwL H' l rs → RunsP a b m n rs → endOf b m rs = (place, low) → Least a b m n low place → rs.length ≤ 200 → Q (.ref l) H'
theorem use_runs_of {K : PySem.W.Frag} {H : Hp} {Q : VK} {E : XK} {p : Addr} {a b m n : Int} (hp : H p = some (.tup [.int a, .int b, .int m])) (hm : 0 < m) (za : Sz 3000 a) (zb : Sz 2500 b) (zm : Sz 200 m) (n0 : 0 < n) (n1 : n < 1000000000000000000000000000000)
  (q : ∀ l rs place low H', H l = none → Ex H H' → RwL H' l rs → RunsP a b m n rs → endOf b m rs = (place, low) → Least a b m n low place → rs.length ≤ 200 → Q (.ref l) H') : sp_runs_of K [.ref p, .int n] H Q E := ⟨p, a, b, m, n, rfl, hp, hm, za, zb, zm, n0, n1, q⟩
abbrev s_runs_of : Stmt := topS 32
abbrev nm_runs_of : List Str := ["stair", "n", "a", "b", "m", "found", "place", "low", "there", "on", "down", "times"]
theorem sc_runs_of : FnScope nm_runs_of ["stair", "n"] (defScope s_runs_of) := ⟨rfl, rfl, rfl, by decide +kernel, rfl, by decide +kernel, by decide +kernel⟩
theorem st_runs_of {v0 v1 : V} : start nm_runs_of [v0, v1] = [some v0, some v1, none, none, none, none, none, none, none, none, none, none] := rfl
section
variable {P : Program} {w : World} {K : PySem.W.Frag} {mg : Str → Option Value} {base : Heap}
theorem ok_runs_of (D : DefAt K mg "runs_of" s_runs_of ["stair", "n"]) (B_min : mg "min" = none) (G_next_of : Has P w K mg base CX0 113 "next_of" ["stair", "low", "high", "k"] (sp_next_of K)) : Has P w K mg base CX0 114 "runs_of" ["stair", "n"] (sp_runs_of K) := by
  refine D.ok sc_runs_of (by rintro _ _ _ _ ⟨_, _, _, _, _, rfl, _⟩; rfl) (fun f cdv A outer s H vs Q E hr h => ?_)
  obtain ⟨p, a, b, m, n, rfl, hp, hm, za, zb, zm, n0, n1, q⟩ := h
  have zn : Sz 200 n := by
    show n.natAbs < 2 ^ 200
    omega
  have m2 : m < 2 ^ 200 := by
    have h : m.natAbs < 2 ^ 200 := zm
    omega
  have b0 := Int.emod_nonneg b (show m ≠ 0 by omega)
  have b1 := Int.emod_lt_of_pos b hm
  refine ⟨_, (pss_cons (ps_asg (pv 0) (pg_tup (by rfl) (pgs_cons (pg_name (i := 2) sc_runs_of.nd rfl (Or.inl rfl)) (pgs_cons (pg_name (i := 3) sc_runs_of.nd rfl (Or.inl rfl)) (pgs_cons (pg_name (i := 4) sc_runs_of.nd rfl (Or.inl rfl)) pgs_nil)))))
      (pss_cons (ps_set (i := 5) sc_runs_of.nd rfl (Or.inl rfl) (pe_lst pa_nil))
      (pss_cons (ps_set (i := 6) sc_runs_of.nd rfl (Or.inl rfl) pe_int)
      (pss_cons (ps_set (i := 7) sc_runs_of.nd rfl (Or.inl rfl) (pe_op op_mod (pv 3) (pv 4)))
      (pss_cons (ps_set (i := 8) sc_runs_of.nd rfl (Or.inl rfl) (pcall G_next_of (hr.mono (by decide)) (pa_cons (pv 0) (pa_cons pe_int (pa_cons (pv 7) (pa_cons pe_int pa_nil))))))
      (pss_cons (ps_while PassesOwn.never (PW.pt (pw_and (pt_cmpR op_notNn (pv 8) pe_non (nomark _)) (pw_and1 (pt_cmpR op_lt (pv 8) (pv 1) (nomark _))))) (pss_cons (ps_set (i := 9) sc_runs_of.nd rfl (Or.inl rfl) (pe_op op_sub (pv 8) (pv 6)))
        (pss_cons (ps_set (i := 10) sc_runs_of.nd rfl (Or.inl rfl) (pe_op op_sub (pv 7) (pe_op op_mod (pe_op op_add (pe_op op_mulX (pv 2) (pv 8)) (pv 3)) (pv 4))))
        (pss_cons (ps_set (i := 11) sc_runs_of.nd rfl (Or.inl rfl) (pe_callB (cl_min2 rfl) (by rfl) B_min (by decide +kernel) (pa_cons (pe_op op_fdivW (pv 7) (pv 10)) (pa_cons (pe_op op_fdivW (pe_op op_sub (pe_op op_sub (pv 1) pe_int) (pv 6)) (pv 9)) pa_nil))))
        (pss_cons (ps_expr (pe_bm PySem.F.plainAttrs_list PySem.F.slot_list_append PySem.F.type_list_append mt_append (pv 5) (pa_cons (pe_tup (pa_cons (pv 6) (pa_cons (pv 7) (pa_cons (pv 9) (pa_cons (pv 10) (pa_cons (pv 11) pa_nil)))))) pa_nil)))
        (pss_cons (ps_aug (i := 6) sc_runs_of.nd rfl (Or.inl rfl) (pe_op op_mulX (pv 9) (pv 11)) ip_add)
        (pss_cons (ps_aug (i := 7) sc_runs_of.nd rfl (Or.inl rfl) (pe_op op_mulX (pv 10) (pv 11)) ip_sub)
        (pss_one (ps_set (i := 8) sc_runs_of.nd rfl (Or.inl rfl) (pcall G_next_of (hr.mono (by decide)) (pa_cons (pv 0) (pa_cons pe_int (pa_cons (pv 7) (pa_cons (pv 6) pa_nil))))))))))))))
      (pss_one (ps_ret (pv 5))))))))), ?_⟩
  rw [st_runs_of]
  try dsimp only [Cx.nox, Cx.wish, Cx.blk, cx_K]
  walk_at "go"
  rename_i l H1 nl e1 h1
  refine use_next_of (e1.at hp) hm za (Sz.mono (n := 200) Sz.lit (by decide)) zm (by decide) b0 (by omega) fun v H2 e2 f => ?_
  walk_at "go"
  refine while_m (fun μ σ H' => Ex H H' ∧ ∃ (vs : List V) (rs : List (List Int)) (place low : Int) (v : Option Int) (o9 o10 o11 : Option V), σ = [some (.ref p), some (.int n), some (.int a), some (.int b), some (.int m), some (.ref l), some (.int place), some (.int low), some (vO (v.map (place + ·))), o9, o10, o11] ∧ H' l = some (.lst vs) ∧ RowsA H' vs rs ∧
    Lst a b m n rs place low ∧ FH a (a * place + b) m 0 low v ∧ rs.length ≤ 200 ∧ μ = 200 - rs.length)
    200 ⟨e1.trans e2, [], [], 0, b % m, v, _, _, _, rfl, e2.at h1, trivial, Lst.new hm m2 n0, f, by decide, rfl⟩ ?_
  rintro μ σ H4 ⟨e4, vs, rs, place, low, v, o9, o10, o11, rfl, hl4, R4, L, f, len, rfl⟩
  cases v with
  | none =>
    rw [show vO (Option.map (fun x => place + x) none) = V.non from rfl]
    walk_at "go"
    exact q l rs place low _ nl e4 ⟨vs, hl4, R4⟩ L.R L.e (L.none hm fun y y0 _ => f y y0) len
  | some y =>
    rw [show vO (Option.map (fun x => place + x) (some y)) = V.int (place + y) from rfl]
    walk_at "go"
    refine if_2 (fun ht => ?_) (fun ht => ?_)
    · have ht := of_decide_eq_true ht
      obtain ⟨len2, y1, dn1, st⟩ := L.step hm f ht
      have st := st _ _ rfl rfl
      generalize hd : low - rst a b m (place + y) = dn at *
      generalize htm : min (low / dn) ((n - 1 - place) / y) = tm at *
      obtain ⟨t1, dl, pn, L'⟩ := st
      have p0 := L.p0
      have lo0 := (rst_b a b place hm).1
      have lo1 := (rst_b a b place hm).2
      rw [L.r] at lo0 lo1
      have ry0 := (rst_b a b (place + y) hm).1
      have zp : Sz 200 place := zn.le (by omega) (by omega)
      have zlow : Sz 200 low := zm.le (by omega) (by omega)
      have zy : Sz 200 y := zn.le (by omega) (by omega)
      have zdn : Sz 200 dn := zm.le (by omega) (by omega)
      have ztm : Sz 200 tm := by
        have h1 : low / dn ≤ low := Int.ediv_le_self _ lo0
        exact zm.le (by omega) (by omega)
      have eq1 : place + y - place = y := by omega
      have eq2 : low - (a * (place + y) + b) % m = dn := hd
      refine r_body (fun σ H' => Ex H H' ∧ ∃ (vs : List V) (rs' : List (List Int)) (place low : Int) (v : Option Int) (o9 o10 o11 : Option V), σ = [some (.ref p), some (.int n), some (.int a), some (.int b), some (.int m), some (.ref l), some (.int place), some (.int low), some (vO (v.map (place + ·))), o9, o10, o11] ∧ H' l = some (.lst vs) ∧ RowsA H' vs rs' ∧
        Lst a b m n rs' place low ∧ FH a (a * place + b) m 0 low v ∧ rs'.length = rs.length + 1) ?_ ?_
      · rintro σ' H' ⟨e, vs, rs', place, low, v, o9, o10, o11, rfl, g1, g2, g3, g4, g5⟩
        exact ⟨200 - rs'.length, by omega, e, vs, rs', place, low, v, o9, o10, o11, rfl, g1, g2, g3, g4, by omega, rfl⟩
      walk_at "go"
      rw [eq1]
      walk_at "go"
      rw [eq2]
      walk_at "go"
      rw [htm]
      walk_at "go"
      rename_i t6 H6 n6 e6 h6
      rw [eq1, eq2, htm] at h6
      have hl6 := e6 _ _ hl4
      have R6 := R4.ex e6
      refine r_app hl6 (by rw [R6.len]; omega) fun H7 k7 h7 => ?_
      have R7 : RowsA H7 (vs ++ [.ref t6]) (rs ++ [[place, low, y, dn, tm]]) := RowsA.app (r := [place, low, y, dn, tm]) (k7.tupL hl6 h6) (R6.kpL k7 hl6)
      have e7 : Ex H H7 := (e4.trans e6).kpd nl k7
      clear e6 R6 hl6 h6 k7 n6
      walk_at "go"
      have zp2 : Sz 200 (place + y * tm) := by
        have := Int.mul_nonneg (show 0 ≤ y by omega) (show 0 ≤ tm by omega)
        exact zn.le (by omega) (by omega)
      have l2 : 0 ≤ low - dn * tm := by omega
      have l3 : low - dn * tm ≤ low := by
        have := Int.mul_nonneg (show 0 ≤ dn by omega) (show 0 ≤ tm by omega)
        omega
      walk_at "go"
      refine use_next_of (e7.at hp) hm za (zp2.mono (by decide)) zm (by decide) l2 (by omega) fun v H8 e8 f8 => ?_
      walk_at "go"
      exact ⟨e7.trans e8, _, _, _, _, v, _, _, _, rfl, e8 _ _ h7, R7.ex e8, L', f8, by rw [List.length_append]; rfl⟩
    · have ht := of_decide_eq_false ht
      walk_at "go"
      exact q l rs place low _ nl e4 ⟨vs, hl4, R4⟩ L.R L.e (L.none hm fun j j0 jn => f.2.2 j j0 (by omega)) len

end
def sp_lows (_ : PySem.W.Frag) : Sp := fun vs H Q _ => ∃ (p : Addr) (a b m n : Int), vs = [.ref p, .int n] ∧ H p = some (.tup [.int a, .int b, .int m]) ∧ 0 < m ∧ Sz 3000 a ∧ Sz 2500 b ∧ Sz 200 m ∧ 0 < n ∧ n < 1000000000000000000000000000000 ∧
  ∀ l rs place low H', H l = none → Ex H H' → RwL H' l rs → RunsP a b m n rs → endOf b m rs = (place, low) → Least a b m n low place → rs.length ≤ 200 → Q (.ref l) H'
theorem use_lows {K : PySem.W.Frag} {H : Hp} {Q : VK} {E : XK} {p : Addr} {a b m n : Int} (hp : H p = some (.tup [.int a, .int b, .int m])) (hm : 0 < m) (za : Sz 3000 a) (zb : Sz 2500 b) (zm : Sz 200 m) (n0 : 0 < n) (n1 : n < 1000000000000000000000000000000)
  (q : ∀ l rs place low H', H l = none → Ex H H' → RwL H' l rs → RunsP a b m n rs → endOf b m rs = (place, low) → Least a b m n low place → rs.length ≤ 200 → Q (.ref l) H') : sp_lows K [.ref p, .int n] H Q E := ⟨p, a, b, m, n, rfl, hp, hm, za, zb, zm, n0, n1, q⟩
abbrev s_lows : Stmt := topS 33
abbrev nm_lows : List Str := ["stair", "n"]
theorem sc_lows : FnScope nm_lows ["stair", "n"] (defScope s_lows) := ⟨rfl, rfl, rfl, by decide +kernel, rfl, by decide +kernel, by decide +kernel⟩
theorem st_lows {v0 v1 : V} : start nm_lows [v0, v1] = [some v0, some v1] := rfl
section
variable {P : Program} {w : World} {K : PySem.W.Frag} {mg : Str → Option Value} {base : Heap}
theorem ok_lows (D : DefAt K mg "lows" s_lows ["stair", "n"]) (G_need_stair : Has P w K mg base CX0 4 "need_stair" ["thing"] (sp_need_stair K)) (G_need_some : Has P w K mg base CX0 3 "need_some" ["n"] (sp_need_some K)) (G_runs_of : Has P w K mg base CX0 114 "runs_of" ["stair", "n"] (sp_runs_of K)) : Has P w K mg base CX0 115 "lows" ["stair", "n"] (sp_lows K) := by
  refine D.ok sc_lows (by rintro _ _ _ _ ⟨_, _, _, _, _, rfl, _⟩; rfl) (fun f cdv A outer s H vs Q E hr h => ?_)
  obtain ⟨p, a, b, m, n, rfl, hp, hm, za, zb, zm, n0, n1, q⟩ := h
  refine ⟨_, (pss_cons (ps_expr (pcall G_need_stair (hr.mono (by decide)) (pa_cons (pv 0) pa_nil)))
      (pss_cons (ps_expr (pcall G_need_some (hr.mono (by decide)) (pa_cons (pv 1) pa_nil)))
      (pss_one (ps_ret (pcall G_runs_of (hr.mono (by decide)) (pa_cons (pv 0) (pa_cons (pv 1) pa_nil))))))), ?_⟩
  rw [st_lows]
  try dsimp only [Cx.nox, Cx.wish, Cx.blk, cx_K]
  walk_at "go"
  refine use_need_stair hp hm fun H1 e1 => ?_
  walk_at "go"
  refine use_need_some n0 n1 ?_
  walk_at "go"
  refine use_runs_of (e1.at hp) hm za zb zm n0 n1 fun l rs place low H2 nl e2 R P e L len => ?_
  walk_at "go"
  exact q l rs place low H2 (free_back e1 nl) (e1.trans e2) R P e L len

end
abbrev MOST_LISTED_val : Int := 2000
def sp_need_listed (_ : PySem.W.Frag) : Sp := fun vs H Q _ => ∃ (n : Int), vs = [.int n] ∧ n ≤ 2000 ∧ Q .non H
theorem use_need_listed {K : PySem.W.Frag} {H : Hp} {Q : VK} {E : XK} {n : Int} (h1 : n ≤ 2000) (q : Q .non H) : sp_need_listed K [.int n] H Q E := ⟨n, rfl, h1, q⟩
abbrev s_need_listed : Stmt := topS 17
abbrev nm_need_listed : List Str := ["n"]
theorem sc_need_listed : FnScope nm_need_listed ["n"] (defScope s_need_listed) := ⟨rfl, rfl, rfl, by decide +kernel, rfl, by decide +kernel, by decide +kernel⟩
theorem st_need_listed {v0 : V} : start nm_need_listed [v0] = [some v0] := rfl
section
variable {P : Program} {w : World} {K : PySem.W.Frag} {mg : Str → Option Value} {base : Heap}
theorem ok_need_listed (D : DefAt K mg "need_listed" s_need_listed ["n"]) (T_MOST_LISTED : ∃ t, mg "MOST_LISTED" = some (.int MOST_LISTED_val t)) : Has P w K mg base CX0 2 "need_listed" ["n"] (sp_need_listed K) := by
  refine D.ok sc_need_listed (by rintro _ _ _ _ ⟨_, rfl, _⟩; rfl) (fun f cdv A outer s H vs Q E hr h => ?_)
  obtain ⟨_, T_MOST_LISTED⟩ := T_MOST_LISTED
  obtain ⟨n, rfl, h1, q⟩ := h
  refine ⟨_, (pss_one (ps_if (pt_cmpR op_gt (pv 0) (pe_glob (v := .int (2000)) rfl T_MOST_LISTED ⟨_, rfl⟩) (nomark _)) (pss_one ps_never) pss_nil)), ?_⟩
  rw [st_need_listed]
  try dsimp only [Cx.nox, Cx.wish, Cx.blk, cx_K]
  walk_at "go"
  exact q

end
--@ needs Sum
/-- so many heights from a place on -/
def hts (a b m k : Int) (n : Nat) : List Int := (List.range n).map fun (i : Nat) => (a * (k + (i : Int)) + b) / m
theorem hts_sum (a b m : Int) : ∀ n : Nat, (hts a b m 0 n).sum = fs n a b m
  | 0 => by rw [fs_zero]; rfl
  | n + 1 => by
    have h := hts_sum a b m n
    unfold hts at h ⊢
    rw [List.range_succ, List.map_append, List.sum_append, h, fs_succ]
    simp
theorem hts_len (a b m k : Int) (n : Nat) : (hts a b m k n).length = n := by
  unfold hts
  rw [List.length_map, List.length_range]

def sp_heights (_ : PySem.W.Frag) : Sp := fun vs H Q _ => ∃ (p : Addr) (a b m k n : Int), vs = [.ref p, .int k, .int n] ∧ H p = some (.tup [.int a, .int b, .int m]) ∧ 0 < m ∧ Sz 2000 a ∧ Sz 2000 m ∧ Sz 2000 k ∧ 0 ≤ n ∧ n ≤ 2000 ∧ ∀ l H', H l = none → Ex H H' → H' l = some (.lst ((hts a b m k n.toNat).map V.int)) → Q (.ref l) H'
theorem use_heights {K : PySem.W.Frag} {H : Hp} {Q : VK} {E : XK} {p : Addr} {a b m k n : Int} (h : H p = some (.tup [.int a, .int b, .int m])) (hm : 0 < m) (za : Sz 2000 a) (zm : Sz 2000 m) (zk : Sz 2000 k) (n0 : 0 ≤ n) (n1 : n ≤ 2000)
    (q : ∀ l H', H l = none → Ex H H' → H' l = some (.lst ((hts a b m k n.toNat).map V.int)) → Q (.ref l) H') : sp_heights K [.ref p, .int k, .int n] H Q E := ⟨p, a, b, m, k, n, rfl, h, hm, za, zm, zk, n0, n1, q⟩
abbrev s_heights : Stmt := topS 18
abbrev nm_heights : List Str := ["stair", "k", "n", "a", "b", "m", "place"]
theorem sc_heights : FnScope nm_heights ["stair", "k", "n"] (defScope s_heights) := ⟨rfl, rfl, rfl, by decide +kernel, rfl, by decide +kernel, by decide +kernel⟩
theorem st_heights {v0 v1 v2 : V} : start nm_heights [v0, v1, v2] = [some v0, some v1, some v2, none, none, none, none] := rfl
section
variable {P : Program} {w : World} {K : PySem.W.Frag} {mg : Str → Option Value} {base : Heap}
theorem ok_heights (D : DefAt K mg "heights" s_heights ["stair", "k", "n"]) (B_range : mg "range" = none) (G_need_stair : Has P w K mg base CX0 4 "need_stair" ["thing"] (sp_need_stair K)) (G_need_count : Has P w K mg base CX0 2 "need_count" ["n"] (sp_need_count K)) (G_need_listed : Has P w K mg base CX0 2 "need_listed" ["n"] (sp_need_listed K)) : Has P w K mg base CX0 5 "heights" ["stair", "k", "n"] (sp_heights K) := by
  refine D.ok sc_heights (by rintro _ _ _ _ ⟨_, _, _, _, _, _, rfl, _⟩; rfl) (fun f cdv A outer s H vs Q E hr h => ?_)
  obtain ⟨p, a, b, m, k, n, rfl, hp, hm, za, zm, zk, n0, n1, q⟩ := h
  refine ⟨_, (pss_cons (ps_expr (pcall G_need_stair (hr.mono (by decide)) (pa_cons (pv 0) pa_nil)))
      (pss_cons (ps_expr (pcall G_need_count (hr.mono (by decide)) (pa_cons (pv 2) pa_nil)))
      (pss_cons (ps_expr (pcall G_need_listed (hr.mono (by decide)) (pa_cons (pv 2) pa_nil)))
      (pss_cons (ps_asg (pv 0) (pg_tup (by rfl) (pgs_cons (pg_name (i := 3) sc_heights.nd rfl (Or.inr rfl)) (pgs_cons (pg_name (i := 4) sc_heights.nd rfl (Or.inr rfl)) (pgs_cons (pg_name (i := 5) sc_heights.nd rfl (Or.inr rfl)) pgs_nil)))))
      (pss_one (ps_ret (pe_lc rfl sc_heights.nd (pi_rng2 rfl B_range (pa_cons (pv 1) (pa_cons (pe_op op_add (pv 1) (pv 2)) pa_nil))) (blkOk_by (own := [("place", 6)]) (N := nm_heights) (sc := defScope s_heights) (by decide +kernel)) (fun _ _ _ _ _ => (pg_name (i := 6) sc_heights.nd rfl (Or.inl rfl))) (fun _ _ _ _ _ => pts_nil) (fun _ _ _ _ _ => (pe_op op_fdivW (pe_op op_add (pe_op op_mulX (pv 3) (pv 6)) (pv 4)) (pv 5)))))))))), ?_⟩
  rw [st_heights]
  try dsimp only [Cx.nox, Cx.wish, Cx.blk, cx_K]
  walk_at "go"
  refine use_need_stair hp hm fun H0 e0 => ?_
  walk_at "go"
  refine use_need_count n0 (by omega) ?_
  walk_at "go"
  refine use_need_listed n1 ?_
  walk_at "go"
  refine r_rngL ?_
  have en : (k + n - k).toNat = n.toNat := by omega
  rw [en]
  refine lc_rngP (fun i => .int ((a * (k + i) + b) / m)) (by omega) (fun _ => rfl) (fun i hi H1 e1 QE kE => ?_) (fun l H1 nl e1 hl => ?_)
  · have zi : Sz 200 (i : Int) := Sz.small (by omega)
    try dsimp only [wipe, List.set_cons_succ, List.set_cons_zero]
    walk_at "go"
    exact kE _ Ex.refl
  · walk_at "go"
    refine q _ _ (free_back e0 nl) (e0.trans e1) ?_
    rw [hl]
    unfold hts
    rw [List.map_map]
    rfl

end
def sp_Ledger_entries (_ : PySem.W.Frag) (C : Addr) : Sp := fun vs H Q _ => ∃ (p fl : Addr) (F : Hp) (es : List Ent) (hs : List (List Ent)), vs = [.ref p] ∧ LgAt C F H p fl es hs ∧ Ex F H ∧ ∀ l H' vs, H l = none → Ex H H' → H' l = some (.lst vs) → EntsA F vs es → Q (.ref l) H'
theorem use_Ledger_entries {K : PySem.W.Frag} {C : Addr} {H : Hp} {Q : VK} {E : XK} {p fl : Addr} {F : Hp} {es : List Ent} {hs : List (List Ent)} (L : LgAt C F H p fl es hs) (eF : Ex F H) (q : ∀ l H' vs, H l = none → Ex H H' → H' l = some (.lst vs) → EntsA F vs es → Q (.ref l) H') : sp_Ledger_entries K C [.ref p] H Q E := ⟨p, fl, F, es, hs, rfl, L, eF, q⟩
abbrev s_Ledger_entries : Stmt := inClass (topS 24) 7
abbrev nm_Ledger_entries : List Str := ["self"]
theorem sc_Ledger_entries : FnScope nm_Ledger_entries ["self"] (defScope s_Ledger_entries) := ⟨rfl, rfl, rfl, by decide +kernel, rfl, by decide +kernel, by decide +kernel⟩
theorem st_Ledger_entries {v0 : V} : start nm_Ledger_entries [v0] = [some v0] := rfl
section
variable {P : Program} {w : World} {K : PySem.W.Frag} {mg : Str → Option Value} {base : Heap}
theorem ok_Ledger_entries {C_Ledger : Addr} (D : MetAt K C_Ledger "entries" "Ledger.entries" s_Ledger_entries ["self"]) (U_Ledger : TxC K mg "Ledger" C_Ledger ["kept", "now_worth", "former"]) (B_list : mg "list" = none) : HasM P w K mg base CX0 2 C_Ledger "entries" ["self"] (sp_Ledger_entries K C_Ledger) := by
  refine D.ok sc_Ledger_entries (by rintro _ _ _ _ ⟨_, _, _, _, _, rfl, _⟩; rfl) (fun f cdv A outer s H vs Q E hr h => ?_)
  obtain ⟨cl_Ledger, mg_Ledger, n_Ledger_kept, n_Ledger_now_worth, n_Ledger_former, _⟩ := U_Ledger
  obtain ⟨p, fl, F, es, hs, rfl, ⟨⟨dx, k0, hp, vs, hk, he⟩, us, hf, hh⟩, eF, q⟩ := h
  have hkH := eF _ _ hk
  refine ⟨_, (pss_one (ps_ret (pe_callTy cl_listOf (by rfl) B_list (by decide +kernel) (pa_cons (pe_fld (pv 0) rfl) pa_nil)))), ?_⟩
  rw [st_Ledger_entries]
  try dsimp only [Cx.nox, Cx.wish, Cx.blk, cx_K]
  walk_at "go"
  rename_i l H1 n1 e1 h1
  exact q l H1 vs n1 e1 h1 he

end
--@ needs Runs
/-! lows one by one, and put to runs -/
def lastR (r : List (List Int)) : Int × Int := match r.getLast? with
  | some [p, l] => (p, l)
  | _ => (0, 0)
theorem lastR_snoc (rs : List (List Int)) (p l : Int) : lastR (rs ++ [[p, l]]) = (p, l) := by
  unfold lastR
  rw [List.getLast?_concat]
def recF (f : Nat → Int) : Nat → List (List Int)
  | 0 => []
  | n + 1 => if recF f n = [] ∨ f n < (lastR (recF f n)).2 then recF f n ++ [[(n : Int), f n]] else recF f n
def addR (rs : List (List Int)) (p l p' l' : Int) : List (List Int) :=
  if rs ≠ [] ∧ stepOf rs = (p' - p, l - l') then rs.dropLast ++ [[(rs.getLastD []).getD 0 0, (rs.getLastD []).getD 1 0, p' - p, l - l', (rs.getLastD []).getD 4 0 + 1]] else rs ++ [[p, l, p' - p, l - l', 1]]
def grpN (ss : List (List Int)) : Nat → List (List Int)
  | 0 => []
  | i + 1 => addR (grpN ss i) ((ss.getD i []).getD 0 0) ((ss.getD i []).getD 1 0) ((ss.getD (i + 1) []).getD 0 0) ((ss.getD (i + 1) []).getD 1 0)
theorem grpN_app (ss ts : List (List Int)) : ∀ i, i < ss.length → grpN (ss ++ ts) i = grpN ss i
  | 0, _ => rfl
  | i + 1, h => by
    have e : ∀ j, j < ss.length → (ss ++ ts).getD j [] = ss.getD j [] := fun j hj => by
      rw [List.getD_eq_getElem?_getD, List.getD_eq_getElem?_getD, List.getElem?_append_left hj]
    unfold grpN
    rw [grpN_app ss ts i (by omega), e i (by omega), e (i + 1) h]
theorem addR_more (rs : List (List Int)) (p l on dn t p' l' p2 l2 : Int) (h1 : p2 - p' = on) (h2 : l' - l2 = dn) : addR (rs ++ [[p, l, on, dn, t]]) p' l' p2 l2 = rs ++ [[p, l, on, dn, t + 1]] := by
  unfold addR
  rw [if_pos ⟨by simp, by rw [stepOf_snoc, h1, h2]⟩, h1, h2]
  simp
theorem addR_new (rs : List (List Int)) (p l p' l' : Int) (h : rs = [] ∨ stepOf rs ≠ (p' - p, l - l')) : addR rs p l p' l' = rs ++ [[p, l, p' - p, l - l', 1]] := by
  unfold addR
  rw [if_neg]
  rintro ⟨h1, h2⟩
  rcases h with h | h
  · exact h1 h
  · exact h h2
/-- behind so many places: the last low, and the runs up to it -/
def Fus (f : Nat → Int) (k : Nat) (rs : List (List Int)) (p l : Int) : Prop := recF f k ≠ [] ∧ lastR (recF f k) = (p, l) ∧ (recF f k).getD ((recF f k).length - 1) [] = [p, l] ∧ grpN (recF f k) ((recF f k).length - 1) = rs
theorem Fus.one (f : Nat → Int) : Fus f 1 [] 0 (f 0) := by
  have e : recF f 1 = [[0, f 0]] := by
    show (if recF f 0 = [] ∨ f 0 < (lastR (recF f 0)).2 then recF f 0 ++ [[((0 : Nat) : Int), f 0]] else recF f 0) = _
    rw [if_pos (.inl rfl)]
    rfl
  unfold Fus
  rw [e]
  exact ⟨by simp, rfl, rfl, rfl⟩
theorem Fus.stay {f : Nat → Int} {k : Nat} {rs : List (List Int)} {p l : Int} (h : Fus f k rs p l) (hl : l ≤ f k) : Fus f (k + 1) rs p l := by
  have e : recF f (k + 1) = recF f k := by
    show (if recF f k = [] ∨ f k < (lastR (recF f k)).2 then recF f k ++ [[(k : Int), f k]] else recF f k) = _
    rw [if_neg]
    rintro (z | z)
    · exact h.1 z
    · rw [h.2.1] at z
      have z : f k < l := z
      omega
  unfold Fus
  rw [e]
  exact h
theorem Fus.stays {f : Nat → Int} {k : Nat} {rs : List (List Int)} {p l : Int} (h : Fus f k rs p l) : ∀ j : Nat, (∀ i, k ≤ i → i < k + j → l ≤ f i) → Fus f (k + j) rs p l
  | 0, _ => h
  | j + 1, hl => (h.stays j fun i h1 h2 => hl i h1 (by omega)).stay (hl (k + j) (by omega) (by omega))
theorem Fus.down {f : Nat → Int} {k : Nat} {rs : List (List Int)} {p l : Int} (h : Fus f k rs p l) (hl : f k < l) : Fus f (k + 1) (addR rs p l k (f k)) k (f k) := by
  obtain ⟨h1, h2, h3, h4⟩ := h
  have e : recF f (k + 1) = recF f k ++ [[(k : Int), f k]] := by
    show (if recF f k = [] ∨ f k < (lastR (recF f k)).2 then recF f k ++ [[(k : Int), f k]] else recF f k) = _
    rw [if_pos]
    right
    rw [h2]
    exact hl
  unfold Fus
  rw [e]
  generalize recF f k = ss at *
  have l0 : 0 < ss.length := List.length_pos_iff.mpr h1
  have e1 : (ss ++ [[(k : Int), f k]]).length - 1 = ss.length := by
    rw [List.length_append]
    rfl
  have e2 : (ss ++ [[(k : Int), f k]]).getD ss.length [] = [(k : Int), f k] := by
    rw [List.getD_eq_getElem?_getD, List.getElem?_append_right (Nat.le_refl _), Nat.sub_self]
    rfl
  refine ⟨by simp, lastR_snoc .., by rw [e1, e2], ?_⟩
  rw [e1]
  obtain ⟨j, hj⟩ : ∃ j, ss.length = j + 1 := ⟨ss.length - 1, by omega⟩
  rw [hj] at h3 h4 e2 ⊢
  simp only [Nat.add_sub_cancel] at h3 h4
  show addR (grpN (ss ++ [[(k : Int), f k]]) j) _ _ _ _ = _
  have e3 : (ss ++ [[(k : Int), f k]]).getD j [] = ss.getD j [] := by
    rw [List.getD_eq_getElem?_getD, List.getD_eq_getElem?_getD, List.getElem?_append_left (by omega)]
  rw [grpN_app _ _ _ (by omega), h4, e2, e3, h3]
  rfl
/-- along one run -/
theorem Fus.run {a b m n : Int} {rs : List (List Int)} {p l on dn t : Int} (p0 : 0 ≤ p) (pn : p + on * t < n) (h : Fus (fun i => rst a b m i) (p + 1).toNat rs p l) (r : Run a b m p l on dn t) (ne : (on, dn) ≠ stepOf rs) : ∀ s : Nat, 1 ≤ s → (s : Int) ≤ t →
    Fus (fun i => rst a b m i) (p + on * s + 1).toNat (rs ++ [[p, l, on, dn, (s : Int)]]) (p + on * s) (l - dn * s) := by
  obtain ⟨o1, d1, t1, dl, r0, hs⟩ := r
  intro s
  induction s with
  | zero => intro h; omega
  | succ s ih =>
    intro _ hst
    obtain ⟨g1, g2⟩ := hs (s + 1) (by omega) hst
    have eo : on * ((s + 1 : Nat) : Int) = on * s + on := by
      rw [show ((s + 1 : Nat) : Int) = (s : Int) + 1 from rfl, Int.mul_add, Int.mul_one]
    have ed : dn * ((s + 1 : Nat) : Int) = dn * s + dn := by
      rw [show ((s + 1 : Nat) : Int) = (s : Int) + 1 from rfl, Int.mul_add, Int.mul_one]
    rw [eo, ed] at g1
    rw [eo, show ((s + 1 : Nat) : Int) - 1 = (s : Int) by omega] at g2
    have os : 0 ≤ on * (s : Int) := Int.mul_nonneg (by omega) (by omega)
    have prev : Fus (fun i => rst a b m i) (p + on * s + 1).toNat (if s = 0 then rs else rs ++ [[p, l, on, dn, (s : Int)]]) (p + on * s) (l - dn * s) := by
      by_cases z : s = 0
      · subst z
        rw [if_pos rfl]
        simp
        exact h
      · rw [if_neg z]
        exact ih (by omega) (by omega)
    have st := prev.stays (on - 1).toNat (fun i h1 h2 => g2 i (by omega) (by omega))
    rw [show (p + on * s + 1).toNat + (on - 1).toNat = (p + (on * s + on)).toNat by omega] at st
    have ek : (((p + (on * s + on)).toNat : Nat) : Int) = p + (on * s + on) := by omega
    have dw := st.down (by
      show rst a b m (((p + (on * s + on)).toNat : Nat) : Int) < _
      rw [ek, g1]
      omega)
    rw [show (p + (on * s + on)).toNat + 1 = (p + (on * s + on) + 1).toNat by omega] at dw
    rw [eo, ed]
    have dw : Fus (fun i => rst a b m i) (p + (on * s + on) + 1).toNat (addR (if s = 0 then rs else rs ++ [[p, l, on, dn, (s : Int)]]) (p + on * s) (l - dn * s) (p + (on * s + on)) (l - (dn * s + dn))) (p + (on * s + on)) (l - (dn * s + dn)) := by
      have := dw
      simp only [ek, g1] at this
      exact this
    by_cases z : s = 0
    · subst z
      rw [if_pos rfl] at dw
      rw [addR_new] at dw
      · simp at dw ⊢
        rw [show p + on - p = on by omega, show l - (l - dn) = dn by omega] at dw
        exact dw
      · right
        intro y
        apply ne
        rw [y]
        simp
        omega
    · rw [if_neg z, addR_more _ _ _ _ _ _ _ _ _ _ (by omega) (by omega)] at dw
      exact dw
/-- the runs are those of the lows, gone through one by one -/
theorem runs_one {a b m n : Int} (hn : 0 < n) {rs : List (List Int)} (P : RunsP a b m n rs) {place low : Int} (e : endOf b m rs = (place, low)) (L : Least a b m n low place) : grpN (recF (fun i => rst a b m i) n.toNat) ((recF (fun i => rst a b m i) n.toNat).length - 1) = rs := by
  have all : ∀ j : Nat, j ≤ rs.length → ∀ p l, endOf b m (rs.take j) = (p, l) → 0 ≤ p ∧ Fus (fun i => rst a b m i) (p + 1).toNat (rs.take j) p l := by
    intro j
    induction j with
    | zero =>
      intro _ p l h
      rw [List.take_zero, endOf_nil] at h
      cases h
      have := Fus.one (fun i => rst a b m i)
      refine ⟨by decide, ?_⟩
      have e0 : rst a b m ((0 : Nat) : Int) = b % m := by
        unfold rst
        simp
      rw [e0] at this
      exact this
    | succ j ih =>
      intro hj p l h
      have hr : rs[j]? = some rs[j] := List.getElem?_eq_getElem (by omega)
      obtain ⟨p', l', on, dn, t, er, ee, rn, p0, pn, ne⟩ := P j _ hr
      have tk : rs.take (j + 1) = rs.take j ++ [[p', l', on, dn, t]] := by
        rw [List.take_add_one, hr, er]
        rfl
      obtain ⟨_, fu⟩ := ih (by omega) p' l' ee
      have t1 := rn.2.2.1
      have o1 := rn.1
      have := Fus.run p0 pn fu rn ne t.toNat (by omega) (by omega)
      rw [show ((t.toNat : Nat) : Int) = t by omega] at this
      rw [tk, endOf_snoc] at h
      cases h
      have ot : 0 ≤ on * t := Int.mul_nonneg (by omega) (by omega)
      refine ⟨by omega, ?_⟩
      rw [tk]
      exact this
  obtain ⟨p0, fu⟩ := all rs.length (Nat.le_refl _) place low (by rw [List.take_length]; exact e)
  rw [List.take_length] at fu
  obtain ⟨l0, l1, l2, l3, l4⟩ := L
  have := fu.stays (n - place - 1).toNat (fun i h1 h2 => l4 i (by omega) (by omega))
  rw [show (place + 1).toNat + (n - place - 1).toNat = n.toNat by omega] at this
  exact this.2.2.2

--@ needs LedgV
/-- an entry, its count perhaps none -/
structure EntY (e : Ent) : Prop where
  m0 : 0 < e.m
  za : Sz 620 e.a
  zb : Sz 620 e.b
  zm : Sz 200 e.m
  zk : Sz 620 e.k
  zt : Sz 620 e.t
theorem EntY.z {e : Ent} (y : EntY e) (n0 : 0 ≤ e.n) (n1 : e.n < 1000000000000000000000000000000) : EntZ e := ⟨y.m0, y.za, y.zb, y.zm, y.zk, n0, n1, y.zt⟩
/-- a ledger's deed -/
inductive LD where
  | put (s : Addr) (e : Ent)
  | drop (i : Int)
  | change (i t : Int)
  | back
def LD.v : LD → List V
  | .put s e => [.str "put", .ref s, .int e.k, .int e.n, .int e.t]
  | .drop i => [.str "drop", .int i]
  | .change i t => [.str "change", .int i, .int t]
  | .back => [.str "back"]
/-- it may be asked -/
def LD.ok (F : Hp) : LD → Prop
  | .put s e => F s = some (.tup [.int e.a, .int e.b, .int e.m]) ∧ EntY e
  | .drop _ => True
  | .change _ t => Sz 620 t
  | .back => True
theorem LD.ok.ex {F F' : Hp} {d : LD} (h : d.ok F) (e : Ex F F') : d.ok F' := by
  cases d with
  | put s en => exact ⟨e _ _ h.1, h.2⟩
  | drop _ => trivial
  | change _ _ => exact h
  | back => trivial
inductive OutL (es : List Ent) (hs : List (List Ent)) : LD → List Fd → List Ent → List (List Ent) → Prop where
  | put {s : Addr} {e : Ent} (h0 : 0 ≤ e.n) (h1 : e.n < 1000000000000000000000000000000) (l : es.length ≠ 200) : OutL es hs (.put s e) [.i (wL (es ++ [e])), .s ""] (es ++ [e]) (hs ++ [es])
  | putC {s : Addr} {e : Ent} (h : e.n < 0 ∨ 1000000000000000000000000000000 ≤ e.n) : OutL es hs (.put s e) [.s "none", .s "NoCount+"] es hs
  | putM {s : Addr} {e : Ent} (h0 : 0 ≤ e.n) (h1 : e.n < 1000000000000000000000000000000) (l : es.length = 200) : OutL es hs (.put s e) [.s "none", .s "TooMany+"] es hs
  | drop {i : Int} (h : 0 ≤ i ∧ i < es.length) : OutL es hs (.drop i) [.i (wL (es.take i.toNat ++ es.drop (i.toNat + 1))), .s ""] (es.take i.toNat ++ es.drop (i.toNat + 1)) (hs ++ [es])
  | dropX {i : Int} (h : ¬ (0 ≤ i ∧ i < es.length)) : OutL es hs (.drop i) [.s "none", .s "NoEntry+"] es hs
  | change {i t : Int} {e : Ent} (i0 : 0 ≤ i) (g : es[i.toNat]? = some e) : OutL es hs (.change i t) [.i (wL (es.take i.toNat ++ [e.times t] ++ es.drop (i.toNat + 1))), .s ""] (es.take i.toNat ++ [e.times t] ++ es.drop (i.toNat + 1)) (hs ++ [es])
  | changeX {i t : Int} (h : ¬ (0 ≤ i ∧ i < es.length)) : OutL es hs (.change i t) [.s "none", .s "NoEntry+"] es hs
  | back {es0 : List Ent} {hs' : List (List Ent)} (e : hs = hs' ++ [es0]) : OutL es hs .back [.n, .s ""] es0 hs'
  | backX (e : hs = []) : OutL es hs .back [.s "none", .s "NothingLeft+"] es hs
theorem snocL_inj {α : Type} {xs ys : List α} {x y : α} (h : xs ++ [x] = ys ++ [y]) : xs = ys ∧ x = y := by
  have h1 := congrArg List.reverse h
  simp at h1
  exact ⟨h1.2, h1.1⟩
theorem OutL.uniq {es : List Ent} {hs : List (List Ent)} {d : LD} {r r' : List Fd} {e1 e2 : List Ent} {h1 h2 : List (List Ent)} (o : OutL es hs d r e1 h1) (o' : OutL es hs d r' e2 h2) : r = r' ∧ e1 = e2 ∧ h1 = h2 := by
  cases o with
  | put a b l =>
    cases o' with
    | put _ _ _ => exact ⟨rfl, rfl, rfl⟩
    | putC h => omega
    | putM _ _ l' => exact (l l').elim
  | putC h =>
    cases o' with
    | put _ _ _ => omega
    | putC _ => exact ⟨rfl, rfl, rfl⟩
    | putM _ _ _ => omega
  | putM a b l =>
    cases o' with
    | put _ _ l' => exact (l' l).elim
    | putC h => omega
    | putM _ _ _ => exact ⟨rfl, rfl, rfl⟩
  | drop h =>
    cases o' with
    | drop _ => exact ⟨rfl, rfl, rfl⟩
    | dropX h' => exact (h' h).elim
  | dropX h =>
    cases o' with
    | drop h' => exact (h h').elim
    | dropX _ => exact ⟨rfl, rfl, rfl⟩
  | change i0 g =>
    cases o' with
    | change _ g' =>
      rw [g] at g'
      cases g'
      exact ⟨rfl, rfl, rfl⟩
    | changeX h' =>
      have := (List.getElem?_eq_some_iff.mp g).1
      exact (h' (by omega)).elim
  | changeX h =>
    cases o' with
    | change _ g' =>
      have := (List.getElem?_eq_some_iff.mp g').1
      exact (h (by omega)).elim
    | changeX _ => exact ⟨rfl, rfl, rfl⟩
  | back e =>
    cases o' with
    | back e' =>
      obtain ⟨a, b⟩ := snocL_inj (e.symm.trans e')
      exact ⟨rfl, b, a⟩
    | backX e' =>
      rw [e'] at e
      simp at e
  | backX e =>
    cases o' with
    | back e' =>
      rw [e] at e'
      simp at e'
    | backX _ => exact ⟨rfl, rfl, rfl⟩
theorem OutL.ok {es : List Ent} {hs : List (List Ent)} {d : LD} {r : List Fd} {e1 : List Ent} {h1 : List (List Ent)} (o : OutL es hs d r e1 h1) : r.all Fd.ok = true := by
  cases o with
  | put _ _ _ => exact ok_iS
  | putC _ => exact ok_SS
  | putM _ _ _ => exact ok_SS
  | drop _ => exact ok_iS
  | dropX _ => exact ok_SS
  | change _ _ => exact ok_iS
  | changeX _ => exact ok_SS
  | back _ => exact ok_nS
  | backX _ => exact ok_SS
theorem AllZ.app {es fs : List Ent} (h : AllZ es) (h' : AllZ fs) : AllZ (es ++ fs) := fun e he => (List.mem_append.mp he).elim (h e) (h' e)
theorem AllZ.take {es : List Ent} (h : AllZ es) (i : Nat) : AllZ (es.take i) := fun e he => h e (List.mem_of_mem_take he)
theorem AllZ.drop {es : List Ent} (h : AllZ es) (i : Nat) : AllZ (es.drop i) := fun e he => h e (List.mem_of_mem_drop he)
theorem AllZ.one {e : Ent} (z : EntZ e) : AllZ [e] := fun x hx => by
  rw [List.mem_singleton.mp hx]
  exact z
/-- what a ledger keeps is in its bounds -/
def HisZ (n : Nat) (es : List Ent) (hs : List (List Ent)) : Prop := (AllZ es ∧ es.length ≤ 200) ∧ (∀ x ∈ hs, AllZ x ∧ x.length ≤ 200) ∧ hs.length ≤ n
theorem HisZ.out {F : Hp} {n : Nat} {es e1 : List Ent} {hs h1 : List (List Ent)} {d : LD} {r : List Fd} (h : HisZ n es hs) (o : OutL es hs d r e1 h1) (ok : d.ok F) : HisZ (n + 1) e1 h1 := by
  obtain ⟨⟨z, l⟩, zs, ln⟩ := h
  have up : ∀ x ∈ hs ++ [es], AllZ x ∧ x.length ≤ 200 := fun x hx => by
    rcases List.mem_append.mp hx with hx | hx
    · exact zs x hx
    · rw [List.mem_singleton.mp hx]
      exact ⟨z, l⟩
  have ul : (hs ++ [es]).length ≤ n + 1 := by
    rw [List.length_append]
    show hs.length + 1 ≤ _
    omega
  cases o with
  | put a b ne => exact ⟨⟨z.app (.one (ok.2.z a b)), by rw [List.length_append]; show es.length + 1 ≤ _; omega⟩, up, ul⟩
  | putC _ => exact ⟨⟨z, l⟩, zs, by omega⟩
  | putM _ _ _ => exact ⟨⟨z, l⟩, zs, by omega⟩
  | drop _ => exact ⟨⟨(z.take _).app (z.drop _), by rw [List.length_append, List.length_take, List.length_drop]; omega⟩, up, ul⟩
  | dropX _ => exact ⟨⟨z, l⟩, zs, by omega⟩
  | change i0 g =>
    have := (List.getElem?_eq_some_iff.mp g).1
    exact ⟨⟨((z.take _).app (.one ((z.at g).times ok))).app (z.drop _), by rw [List.length_append, List.length_append, List.length_take, List.length_drop]; show _ + 1 + _ ≤ _; omega⟩, up, ul⟩
  | changeX _ => exact ⟨⟨z, l⟩, zs, by omega⟩
  | back e =>
    subst e
    have hx := zs e1 (by simp)
    refine ⟨hx, fun x hx => zs x (by simp [hx]), ?_⟩
    rw [List.length_append] at ln
    have ln : h1.length + 1 ≤ n := ln
    omega
  | backX _ => exact ⟨⟨z, l⟩, zs, by omega⟩
/-- lists of entries by values -/
def PastA (F : Hp) : List V → List (List Ent) → Prop
  | [], [] => True
  | v :: vs, es :: hs => (∃ l, v = .ref l ∧ KeptA F l es) ∧ PastA F vs hs
  | _, _ => False
theorem PastA.ex {F F' : Hp} (x : Ex F F') : ∀ {vs : List V} {hs : List (List Ent)}, PastA F vs hs → PastA F' vs hs
  | [], [], _ => trivial
  | _ :: _, _ :: _, ⟨⟨l, e, k⟩, r⟩ => ⟨⟨l, e, k.ex x⟩, PastA.ex x r⟩
  | [], _ :: _, h => h.elim
  | _ :: _, [], h => h.elim
theorem PastA.len {F : Hp} : ∀ {vs : List V} {hs : List (List Ent)}, PastA F vs hs → vs.length = hs.length
  | [], [], _ => rfl
  | _ :: _, _ :: _, ⟨_, r⟩ => by rw [List.length_cons, List.length_cons, PastA.len r]
  | [], _ :: _, h => h.elim
  | _ :: _, [], h => h.elim
theorem PastA.app {F : Hp} : ∀ {vs us : List V} {hs ks : List (List Ent)}, PastA F vs hs → PastA F us ks → PastA F (vs ++ us) (hs ++ ks)
  | [], _, [], _, _, h => h
  | _ :: _, _, _ :: _, _, ⟨h, r⟩, h' => ⟨h, PastA.app r h'⟩
  | [], _, _ :: _, _, h, _ => h.elim
  | _ :: _, _, [], _, h, _ => h.elim
theorem PastA.last {F : Hp} : ∀ {vs : List V} {hs : List (List Ent)} {es : List Ent}, PastA F vs (hs ++ [es]) → ∃ us l, vs = us ++ [.ref l] ∧ PastA F us hs ∧ KeptA F l es
  | [], [], _, h => h.elim
  | [], _ :: _, _, h => h.elim
  | [v], [], _, ⟨⟨l, e, k⟩, _⟩ => ⟨[], l, by rw [e]; rfl, trivial, k⟩
  | _ :: _ :: _, [], _, ⟨_, h⟩ => h.elim
  | v :: vs, k :: hs, es, ⟨h, r⟩ => by
    obtain ⟨us, l, e, h1, h2⟩ := PastA.last (hs := hs) r
    exact ⟨v :: us, l, by rw [e]; rfl, ⟨h, h1⟩, h2⟩
theorem at_lastV (us : List V) (v : V) : atI (us ++ [v]) (-1) = some v := by
  unfold atI ixN
  rw [if_neg (by decide), if_pos (by rw [List.length_append]; show -((us.length + 1 : Nat) : Int) ≤ -1; omega)]
  show (us ++ [v])[((-1 : Int) + ((us ++ [v]).length : Nat)).toNat]? = some v
  rw [List.length_append, show ((-1 : Int) + ((us.length + [v].length : Nat) : Int)).toNat = us.length by show ((-1 : Int) + ((us.length + 1 : Nat) : Int)).toNat = _; omega]
  simp
theorem rPop_V {l : Addr} {us : List V} {v : V} {H : Hp} {Q : VK} (h : H l = some (.lst (us ++ [v]))) (q : ∀ H', Kp l H H' → H' l = some (.lst us) → Q v H') : rPop (.ref l) [] H Q :=
  rPop_is h (by simp) fun H' kp h' => q H' kp (by rw [h']; simp)
theorem wL_sum : ∀ es : List Ent, (es.map wE).sum = wL es
  | [] => rfl
  | e :: es => by
    show wE e + (es.map wE).sum = wE e + wL es
    rw [wL_sum es]

--@ needs LOut
/-- the heap without some addresses -/
noncomputable def minus (H : Hp) (M : List Addr) : Hp := fun a => if a ∈ M then none else H a
theorem minus_in {H : Hp} {M : List Addr} {a : Addr} (h : a ∈ M) : minus H M a = none := if_pos h
theorem minus_at {H : Hp} {M : List Addr} {a : Addr} {o : HO} (n : a ∉ M) (h : H a = some o) : minus H M a = some o := by
  unfold minus
  rw [if_neg n]
  exact h
theorem minus_ex {H : Hp} {M : List Addr} : Ex (minus H M) H := fun a o h => by
  unfold minus at h
  by_cases z : a ∈ M
  · rw [if_pos z] at h
    cases h
  · rw [if_neg z] at h
    exact h
theorem ex_minus {F H : Hp} {M : List Addr} (e : Ex F H) (n : ∀ a ∈ M, F a = none) : Ex F (minus H M) := fun a o h => minus_at (fun z => by
  rw [n a z] at h
  cases h) (e _ _ h)
/-- a ledger and the list of all that it kept -/
structure LB (C : Addr) (F H : Hp) (x fl lp : Addr) (es : List Ent) (hs : List (List Ent)) (n : Nat) : Prop where
  L : LgAt C F H x fl es hs
  P : ∃ us, H lp = some (.lst us) ∧ PastA F us (hs ++ [es])
  z : HisZ n es hs
theorem LB.grow {C : Addr} {F F' H H' : Hp} {x fl lp : Addr} {es : List Ent} {hs : List (List Ent)} {n : Nat} (B : LB C F H x fl lp es hs n) (e : Ex H H') (f : Ex F F') : LB C F' H' x fl lp es hs n := by
  obtain ⟨L, ⟨us, h1, h2⟩, z⟩ := B
  exact ⟨L.grow e f, ⟨us, e _ _ h1, h2.ex f⟩, z⟩
theorem LB.kp {C : Addr} {F H H' : Hp} {x fl lp d : Addr} {es : List Ent} {hs : List (List Ent)} {n : Nat} {ys : List V} (B : LB C F H x fl lp es hs n) (k : Kp d H H') (D : H d = some (.lst ys)) (n1 : fl ≠ d) (n2 : lp ≠ d) : LB C F H' x fl lp es hs n := by
  obtain ⟨⟨⟨dx, kl, h1, h2⟩, us, h3, h4⟩, ⟨vs, g1, g2⟩, z⟩ := B
  exact ⟨⟨⟨dx, kl, k _ _ (ne_of h1 D (by intro z; cases z)) h1, h2⟩, us, k _ _ n1 h3, h4⟩, ⟨vs, k _ _ n2 g1, g2⟩, z⟩
theorem LB.kq {C : Addr} {F H H' : Hp} {x fl lp x2 fl2 : Addr} {es es2 : List Ent} {hs hs2 : List (List Ent)} {n : Nat} (B : LB C F H x fl lp es hs n) (k : Kq [x2, fl2] H H') (L2 : LgAt C F H x2 fl2 es2 hs2) (nx : x ≠ x2) (nf : fl ≠ fl2) (np : lp ≠ fl2) : LB C F H' x fl lp es hs n := by
  obtain ⟨⟨⟨dx, kl, h1, h2⟩, us, h3, h4⟩, ⟨vs, g1, g2⟩, z⟩ := B
  obtain ⟨⟨dx2, kl2, q1, q2⟩, us2, q3, q4⟩ := L2
  refine ⟨⟨⟨dx, kl, k _ _ ?_ h1, h2⟩, us, k _ _ ?_ h3, h4⟩, ⟨vs, k _ _ ?_ g1, g2⟩, z⟩
  · simp only [List.mem_cons, List.not_mem_nil, or_false, not_or]
    exact ⟨nx, ne_of h1 q3 (by intro z; cases z)⟩
  · simp only [List.mem_cons, List.not_mem_nil, or_false, not_or]
    exact ⟨ne_of h3 q1 (by intro z; cases z), nf⟩
  · simp only [List.mem_cons, List.not_mem_nil, or_false, not_or]
    exact ⟨ne_of g1 q1 (by intro z; cases z), np⟩
theorem LB.suc {C : Addr} {F H : Hp} {x fl lp : Addr} {es : List Ent} {hs : List (List Ent)} {n : Nat} (B : LB C F H x fl lp es hs n) : LB C F H x fl lp es hs (n + 1) := ⟨B.L, B.P, B.z.1, B.z.2.1, by have := B.z.2.2; omega⟩
theorem HisZ.mono {n m : Nat} {es : List Ent} {hs : List (List Ent)} (h : HisZ n es hs) (l : n ≤ m) : HisZ m es hs := ⟨h.1, h.2.1, by have := h.2.2; omega⟩
/-- a list kept by a deed -/
theorem LgAt.lst {C : Addr} {F H H' : Hp} {x fl q : Addr} {es : List Ent} {hs : List (List Ent)} {ys : List V} (L : LgAt C F H x fl es hs) (k : Kq [x, fl] H H') (n : q ≠ fl) (h : H q = some (.lst ys)) : H' q = some (.lst ys) := by
  obtain ⟨⟨dx, kl, h1, h2⟩, us, h3, h4⟩ := L
  refine k _ _ ?_ h
  simp only [List.mem_cons, List.not_mem_nil, or_false, not_or]
  exact ⟨ne_of h h1 (by intro z; cases z), n⟩
theorem LgAt.tup {C : Addr} {F H H' : Hp} {x fl q : Addr} {es : List Ent} {hs : List (List Ent)} {ys : List V} (L : LgAt C F H x fl es hs) (k : Kq [x, fl] H H') (h : H q = some (.tup ys)) : H' q = some (.tup ys) := by
  obtain ⟨⟨dx, kl, h1, h2⟩, us, h3, h4⟩ := L
  refine k _ _ ?_ h
  simp only [List.mem_cons, List.not_mem_nil, or_false, not_or]
  exact ⟨ne_of h h1 (by intro z; cases z), ne_of h h3 (by intro z; cases z)⟩
theorem LgAt.kpL {C : Addr} {F H H' : Hp} {x fl d : Addr} {es : List Ent} {hs : List (List Ent)} {ys : List V} (L : LgAt C F H x fl es hs) (k : Kp d H H') (D : H d = some (.lst ys)) (n1 : fl ≠ d) : LgAt C F H' x fl es hs := by
  obtain ⟨⟨dx, kl, h1, h2⟩, us, h3, h4⟩ := L
  exact ⟨⟨dx, kl, k _ _ (ne_of h1 D (by intro z; cases z)) h1, h2⟩, us, k _ _ n1 h3, h4⟩
theorem LB.exi {C : Addr} {F H : Hp} {x fl lp : Addr} {es : List Ent} {hs : List (List Ent)} {n : Nat} (B : LB C F H x fl lp es hs n) : (∃ o, H x = some o) ∧ (∃ o, H fl = some o) ∧ ∃ o, H lp = some o := by
  obtain ⟨⟨⟨dx, kl, h1, h2⟩, us, h3, h4⟩, ⟨vs, g1, g2⟩, z⟩ := B
  exact ⟨⟨_, h1⟩, ⟨_, h3⟩, _, g1⟩
theorem exi6 {H : Hp} {x f p x2 f2 p2 : Addr} (h : (∃ o, H x = some o) ∧ (∃ o, H f = some o) ∧ ∃ o, H p = some o) (h2 : (∃ o, H x2 = some o) ∧ (∃ o, H f2 = some o) ∧ ∃ o, H p2 = some o) : ∀ m ∈ [x, f, p, x2, f2, p2], ∃ o, H m = some o := fun m hm => by
  simp only [List.mem_cons, List.not_mem_nil, or_false] at hm
  rcases hm with rfl | rfl | rfl | rfl | rfl | rfl
  · exact h.1
  · exact h.2.1
  · exact h.2.2
  · exact h2.1
  · exact h2.2.1
  · exact h2.2.2

/-! rings of corners: what lies at the left hand of all edges -/
abbrev Pt := Rat × Rat
/-- above 0 where r lies at the left hand of the way from p to q -/
def cr (p q r : Pt) : Rat := (q.1 - p.1) * (r.2 - p.2) - (q.2 - p.2) * (r.1 - p.1)
/-- corner number k, counted round -/
def cor (P : List Pt) (k : Nat) : Pt := (P[k % P.length]?).getD (0, 0)
def RingP (P : List Pt) : Prop := 3 ≤ P.length ∧ ∀ k, k < P.length → ∀ j, j < P.length → j ≠ k → j ≠ (k + 1) % P.length → 0 < cr (cor P k) (cor P (k + 1)) (cor P j)
/-- at no edge's right hand -/
def InsP (P : List Pt) (q : Pt) : Prop := ∀ k, k < P.length → 0 ≤ cr (cor P k) (cor P (k + 1)) q
theorem cor_mod (P : List Pt) (k : Nat) : cor P (k % P.length) = cor P k := by
  unfold cor
  rw [Nat.mod_mod]
theorem cor_succ_mod (P : List Pt) (k : Nat) : cor P (k % P.length + 1) = cor P (k + 1) := by
  unfold cor
  rw [Nat.mod_add_mod]
theorem cor_lt {P : List Pt} {k : Nat} (h : k < P.length) : P[k]? = some (cor P k) := by
  unfold cor
  rw [Nat.mod_eq_of_lt h, List.getElem?_eq_getElem h]
  rfl
theorem cr_same1 (p q : Pt) : cr p q p = 0 := by unfold cr; grind
theorem cr_same2 (p q : Pt) : cr p q q = 0 := by unfold cr; grind
/-- no corner lies at an edge's right hand -/
theorem RingP.weak {P : List Pt} (R : RingP P) (k j : Nat) : 0 ≤ cr (cor P k) (cor P (k + 1)) (cor P j) := by
  have n0 : 0 < P.length := by have := R.1; omega
  rw [← cor_mod P k, ← cor_succ_mod P k, ← cor_mod P j]
  have hk := Nat.mod_lt k n0
  have hj := Nat.mod_lt j n0
  by_cases h1 : j % P.length = k % P.length
  · rw [h1, cr_same1]; decide
  · by_cases h2 : j % P.length = (k % P.length + 1) % P.length
    · rw [h2, cor_mod P (k % P.length + 1), cr_same2]; decide
    · exact Rat.le_of_lt (R.2 _ hk _ hj h1 h2)
theorem InsP.all {P : List Pt} {q : Pt} (h : InsP P q) (n0 : 0 < P.length) (k : Nat) : 0 ≤ cr (cor P k) (cor P (k + 1)) q := by
  rw [← cor_mod P k, ← cor_succ_mod P k]
  exact h _ (Nat.mod_lt k n0)
/-- what is handed on round the ring holds all round -/
theorem round_all {P : List Pt} {W : Nat → Prop} (n0 : 0 < P.length) (hm : ∀ k, W k ↔ W (k % P.length)) (hs : ∀ k, W k → W (k + 1)) {i : Nat} (h : W i) (j : Nat) : W j := by
  have all : ∀ t, W (i + t) := by
    intro t
    induction t with
    | zero => exact h
    | succ t ih => exact hs _ ih
  have := all (j + (P.length - 1) * i + 0)
  rw [hm] at this ⊢
  rw [show i + (j + (P.length - 1) * i + 0) = j + P.length * i by
    have : P.length * i = (P.length - 1) * i + i := by
      obtain ⟨m, hm⟩ : ∃ m, P.length = m + 1 := ⟨P.length - 1, by omega⟩
      rw [hm, Nat.add_sub_cancel, Nat.add_mul, Nat.one_mul]
    omega, Nat.add_mul_mod_self_left] at this
  exact this
/-- an edge to the right by which x is reached -/
theorem edge_to {P : List Pt} (n0 : 0 < P.length) {x : Rat} {i j : Nat} (hi : (cor P i).1 < x) (hj : x ≤ (cor P j).1) : ∃ k, k < P.length ∧ (cor P k).1 < x ∧ x ≤ (cor P (k + 1)).1 := by
  apply Classical.byContradiction
  intro no
  have := round_all (P := P) (W := fun k => (cor P k).1 < x) n0 (fun k => by rw [cor_mod]) (fun k h => by
    apply Classical.byContradiction
    intro h2
    refine no ⟨k % P.length, Nat.mod_lt _ n0, ?_, ?_⟩
    · rw [cor_mod]; exact h
    · rw [cor_succ_mod]; exact Rat.not_lt.mp h2) hi j
  exact absurd hj (Rat.not_le.mpr this)
/-- an edge to the right by which x is left -/
theorem edge_from {P : List Pt} (n0 : 0 < P.length) {x : Rat} {i j : Nat} (hi : (cor P i).1 ≤ x) (hj : x < (cor P j).1) : ∃ k, k < P.length ∧ (cor P k).1 ≤ x ∧ x < (cor P (k + 1)).1 := by
  apply Classical.byContradiction
  intro no
  have := round_all (P := P) (W := fun k => (cor P k).1 ≤ x) n0 (fun k => by rw [cor_mod]) (fun k h => by
    apply Classical.byContradiction
    intro h2
    refine no ⟨k % P.length, Nat.mod_lt _ n0, ?_, ?_⟩
    · rw [cor_mod]; exact h
    · rw [cor_succ_mod]; exact Rat.not_le.mp h2) hi j
  exact absurd hj (Rat.not_lt.mpr this)
/-- the same for edges to the left -/
theorem back_to {P : List Pt} (n0 : 0 < P.length) {x : Rat} {i j : Nat} (hi : (cor P i).1 < x) (hj : x ≤ (cor P j).1) : ∃ k, k < P.length ∧ (cor P (k + 1)).1 < x ∧ x ≤ (cor P k).1 := by
  apply Classical.byContradiction
  intro no
  have := round_all (P := P) (W := fun k => x ≤ (cor P k).1) n0 (fun k => by rw [cor_mod]) (fun k h => by
    apply Classical.byContradiction
    intro h2
    refine no ⟨k % P.length, Nat.mod_lt _ n0, ?_, ?_⟩
    · rw [cor_succ_mod]; exact Rat.not_le.mp h2
    · rw [cor_mod]; exact h) hj i
  exact absurd hi (Rat.not_lt.mpr this)
theorem back_from {P : List Pt} (n0 : 0 < P.length) {x : Rat} {i j : Nat} (hi : (cor P i).1 ≤ x) (hj : x < (cor P j).1) : ∃ k, k < P.length ∧ (cor P (k + 1)).1 ≤ x ∧ x < (cor P k).1 := by
  apply Classical.byContradiction
  intro no
  have := round_all (P := P) (W := fun k => x < (cor P k).1) n0 (fun k => by rw [cor_mod]) (fun k h => by
    apply Classical.byContradiction
    intro h2
    refine no ⟨k % P.length, Nat.mod_lt _ n0, ?_, ?_⟩
    · rw [cor_succ_mod]; exact Rat.not_lt.mp h2
    · rw [cor_mod]; exact h) hj i
  exact absurd hi (Rat.not_le.mpr this)
/-- some corners have unlike x -/
theorem RingP.wide {P : List Pt} (R : RingP P) (i : Nat) : ∃ j, (cor P j).1 ≠ (cor P i).1 := by
  apply Classical.byContradiction
  intro no
  have al : ∀ j, (cor P j).1 = (cor P i).1 := fun j => Classical.byContradiction fun h => no ⟨j, h⟩
  have n3 := R.1
  have := R.2 0 (by omega) 2 (by omega) (by omega) (by rw [Nat.mod_eq_of_lt (by omega)]; omega)
  unfold cr at this
  rw [al 2, al 0, al (0 + 1)] at this
  have z : ((cor P i).1 - (cor P i).1) = 0 := by grind
  rw [z] at this
  grind
theorem nn_mul {d c : Rat} (hd : 0 < d) (h : 0 ≤ d * c) : 0 ≤ c := by
  apply Classical.byContradiction
  intro n
  have : 0 < d * (-c) := Rat.mul_pos hd (by grind)
  grind
/-- from the line to the left, where both its ends are -/
theorem cr_between {p q a b : Pt} {x y : Rat} (pa : 0 ≤ cr p q a) (pb : 0 ≤ cr p q b) (ax : a.1 ≤ x) (xb : x ≤ b.1) (ab : a.1 < b.1) (h : cr a b (x, y) = 0) : 0 ≤ cr p q (x, y) := by
  have e : (b.1 - a.1) * cr p q (x, y) = (b.1 - x) * cr p q a + (x - a.1) * cr p q b + (q.1 - p.1) * cr a b (x, y) := by
    unfold cr; grind
  have d : 0 < b.1 - a.1 := by grind
  have t1 : 0 ≤ (b.1 - x) * cr p q a := Rat.mul_nonneg (by grind) pa
  have t2 : 0 ≤ (x - a.1) * cr p q b := Rat.mul_nonneg (by grind) pb
  rw [h] at e
  have : 0 ≤ (b.1 - a.1) * cr p q (x, y) := by grind
  exact nn_mul d this
/-- the height of a line at x -/
def onL (a b : Pt) (x : Rat) : Rat := a.2 + (b.2 - a.2) * (x - a.1) / (b.1 - a.1)
theorem cr_onL {a b : Pt} (x : Rat) (ab : b.1 - a.1 ≠ 0) : cr a b (x, onL a b x) = 0 := by
  unfold cr onL
  have := Rat.mul_inv_cancel _ ab
  rw [Rat.div_def]
  grind
theorem cr_move {p q : Pt} (x y z : Rat) : cr p q (x, y) = cr p q (x, z) + (q.1 - p.1) * (y - z) := by
  unfold cr; grind
/-- within: above a lower edge, and below an upper edge -/
theorem RingP.ins_iff {P : List Pt} (R : RingP P) {x y : Rat} {k l : Nat} (k1 : (cor P k).1 ≤ x) (k2 : x ≤ (cor P (k + 1)).1) (k3 : (cor P k).1 < (cor P (k + 1)).1)
    (l1 : (cor P (l + 1)).1 ≤ x) (l2 : x ≤ (cor P l).1) (l3 : (cor P (l + 1)).1 < (cor P l).1) :
    InsP P (x, y) ↔ 0 ≤ cr (cor P k) (cor P (k + 1)) (x, y) ∧ 0 ≤ cr (cor P l) (cor P (l + 1)) (x, y) := by
  have n0 : 0 < P.length := by have := R.1; omega
  constructor
  · intro h
    exact ⟨h.all n0 k, h.all n0 l⟩
  · rintro ⟨hk, hl⟩ j _
    have z0 := cr_onL (a := cor P k) (b := cor P (k + 1)) x (by grind)
    have z1 := cr_onL (a := cor P (l + 1)) (b := cor P l) x (by grind)
    have b0 := cr_between (R.weak j k) (R.weak j (k + 1)) k1 k2 k3 z0
    have b1 := cr_between (R.weak j (l + 1)) (R.weak j l) l1 l2 l3 z1
    have m0 := cr_move (p := cor P k) (q := cor P (k + 1)) x y (onL (cor P k) (cor P (k + 1)) x)
    have m1 := cr_move (p := cor P (l + 1)) (q := cor P l) x y (onL (cor P (l + 1)) (cor P l) x)
    generalize onL (cor P k) (cor P (k + 1)) x = y0 at *
    generalize onL (cor P (l + 1)) (cor P l) x = y1 at *
    have g0 : 0 ≤ y - y0 := nn_mul (d := (cor P (k + 1)).1 - (cor P k).1) (by grind) (by rw [m0, z0] at hk; grind)
    have g1 : 0 ≤ y1 - y := nn_mul (d := (cor P l).1 - (cor P (l + 1)).1) (by grind) (by
      have : cr (cor P l) (cor P (l + 1)) (x, y) = -cr (cor P (l + 1)) (cor P l) (x, y) := by unfold cr; grind
      rw [this, m1, z1] at hl; grind)
    have e0 := cr_move (p := cor P j) (q := cor P (j + 1)) x y y0
    have e1 := cr_move (p := cor P j) (q := cor P (j + 1)) x y y1
    rcases Rat.le_total (a := (cor P j).1) (b := (cor P (j + 1)).1) with d | d
    · have : 0 ≤ ((cor P (j + 1)).1 - (cor P j).1) * (y - y0) := Rat.mul_nonneg (by grind) g0
      grind
    · have : 0 ≤ ((cor P j).1 - (cor P (j + 1)).1) * (y1 - y) := Rat.mul_nonneg (by grind) g1
      grind
/-- two lower edges have one height where both are -/
theorem RingP.one_low {P : List Pt} (R : RingP P) {x y : Rat} {k l : Nat} (k1 : (cor P k).1 ≤ x) (k2 : x ≤ (cor P (k + 1)).1) (k3 : (cor P k).1 < (cor P (k + 1)).1)
    (l3 : (cor P l).1 < (cor P (l + 1)).1) (h : 0 ≤ cr (cor P k) (cor P (k + 1)) (x, y)) : 0 ≤ cr (cor P l) (cor P (l + 1)) (x, y) := by
  have z0 := cr_onL (a := cor P k) (b := cor P (k + 1)) x (by grind)
  have b0 := cr_between (R.weak l k) (R.weak l (k + 1)) k1 k2 k3 z0
  have m0 := cr_move (p := cor P k) (q := cor P (k + 1)) x y (onL (cor P k) (cor P (k + 1)) x)
  have e0 := cr_move (p := cor P l) (q := cor P (l + 1)) x y (onL (cor P k) (cor P (k + 1)) x)
  generalize onL (cor P k) (cor P (k + 1)) x = y0 at *
  have g0 : 0 ≤ y - y0 := nn_mul (d := (cor P (k + 1)).1 - (cor P k).1) (by grind) (by rw [m0, z0] at h; grind)
  have : 0 ≤ ((cor P (l + 1)).1 - (cor P l).1) * (y - y0) := Rat.mul_nonneg (by grind) g0
  grind
theorem RingP.one_high {P : List Pt} (R : RingP P) {x y : Rat} {k l : Nat} (k1 : (cor P (k + 1)).1 ≤ x) (k2 : x ≤ (cor P k).1) (k3 : (cor P (k + 1)).1 < (cor P k).1)
    (l3 : (cor P (l + 1)).1 < (cor P l).1) (h : 0 ≤ cr (cor P k) (cor P (k + 1)) (x, y)) : 0 ≤ cr (cor P l) (cor P (l + 1)) (x, y) := by
  have z0 := cr_onL (a := cor P (k + 1)) (b := cor P k) x (by grind)
  have b0 := cr_between (R.weak l (k + 1)) (R.weak l k) k1 k2 k3 z0
  have m0 := cr_move (p := cor P (k + 1)) (q := cor P k) x y (onL (cor P (k + 1)) (cor P k) x)
  have e0 := cr_move (p := cor P l) (q := cor P (l + 1)) x y (onL (cor P (k + 1)) (cor P k) x)
  generalize onL (cor P (k + 1)) (cor P k) x = y0 at *
  have g0 : 0 ≤ y0 - y := nn_mul (d := (cor P k).1 - (cor P (k + 1)).1) (by grind) (by
    have : cr (cor P k) (cor P (k + 1)) (x, y) = -cr (cor P (k + 1)) (cor P k) (x, y) := by unfold cr; grind
    rw [this, m0, z0] at h; grind)
  have : 0 ≤ ((cor P l).1 - (cor P (l + 1)).1) * (y0 - y) := Rat.mul_nonneg (by grind) g0
  grind
/-- as seen from a point that lies at the left of all corners (or the right), the slopes rise round the ring: none can be within -/
theorem slopes_round {P : List Pt} (n0 : 0 < P.length) {q : Pt} (h : InsP P q) (sd : ∀ k, 0 < ((cor P k).1 - q.1) * ((cor P (k + 1)).1 - q.1)) (nz : ∀ k, (cor P k).1 - q.1 ≠ 0) (i j : Nat) :
    ((cor P i).2 - q.2) / ((cor P i).1 - q.1) ≤ ((cor P j).2 - q.2) / ((cor P j).1 - q.1) := by
  refine round_all (P := P) (W := fun k => ((cor P i).2 - q.2) / ((cor P i).1 - q.1) ≤ ((cor P k).2 - q.2) / ((cor P k).1 - q.1)) n0 (fun k => by rw [cor_mod]) (fun k hk => ?_) (i := i) Rat.le_refl j
  have a := h.all n0 k
  have s := sd k
  have i1 := Rat.mul_inv_cancel _ (nz k)
  have i2 := Rat.mul_inv_cancel _ (nz (k + 1))
  rw [Rat.div_def] at hk ⊢
  rw [Rat.div_def] at hk ⊢
  refine Rat.le_trans hk ?_
  have e : ((cor P k).1 - q.1) * ((cor P (k + 1)).1 - q.1) * (((cor P (k + 1)).2 - q.2) * ((cor P (k + 1)).1 - q.1)⁻¹ - ((cor P k).2 - q.2) * ((cor P k).1 - q.1)⁻¹) = cr (cor P k) (cor P (k + 1)) q := by
    unfold cr; grind
  have := nn_mul s (by rw [e]; exact a)
  grind
theorem RingP.not_beside {P : List Pt} (R : RingP P) {q : Pt} (h : InsP P q) (sd : ∀ k, 0 < ((cor P k).1 - q.1) * ((cor P (k + 1)).1 - q.1)) (nz : ∀ k, (cor P k).1 - q.1 ≠ 0) : False := by
  have n3 := R.1
  have n0 : 0 < P.length := by omega
  have S := slopes_round n0 h sd nz
  have p := R.2 0 (by omega) 2 (by omega) (by omega) (by rw [Nat.mod_eq_of_lt (by omega)]; omega)
  have e1 := S 0 1
  have e2 := S 1 0
  have e3 := S 0 2
  have e4 := S 2 0
  have i0 := Rat.mul_inv_cancel _ (nz 0)
  have i1 := Rat.mul_inv_cancel _ (nz 1)
  have i2 := Rat.mul_inv_cancel _ (nz 2)
  simp only [Rat.div_def] at e1 e2 e3 e4
  unfold cr at p
  rw [show (0 + 1 : Nat) = 1 from rfl] at p
  generalize (cor P 0).1 = x0 at *
  generalize (cor P 0).2 = y0 at *
  generalize (cor P 1).1 = x1 at *
  generalize (cor P 1).2 = y1 at *
  generalize (cor P 2).1 = x2 at *
  generalize (cor P 2).2 = y2 at *
  have f1 : (y1 - q.2) * (x1 - q.1)⁻¹ = (y0 - q.2) * (x0 - q.1)⁻¹ := Rat.le_antisymm e2 e1
  have f2 : (y2 - q.2) * (x2 - q.1)⁻¹ = (y0 - q.2) * (x0 - q.1)⁻¹ := Rat.le_antisymm e4 e3
  have g1 : y1 - q.2 = (y0 - q.2) * (x0 - q.1)⁻¹ * (x1 - q.1) := by grind
  have g2 : y2 - q.2 = (y0 - q.2) * (x0 - q.1)⁻¹ * (x2 - q.1) := by grind
  have g0 : y0 - q.2 = (y0 - q.2) * (x0 - q.1)⁻¹ * (x0 - q.1) := by grind
  generalize (y0 - q.2) * (x0 - q.1)⁻¹ = s at *
  have : (x1 - x0) * (y2 - y0) - (y1 - y0) * (x2 - x0) = 0 := by grind
  grind
/-- what is within is not beside the ring -/
theorem RingP.ins_wide {P : List Pt} (R : RingP P) {x y : Rat} (h : InsP P (x, y)) : (∃ i, (cor P i).1 ≤ x) ∧ ∃ j, x ≤ (cor P j).1 := by
  constructor
  · apply Classical.byContradiction
    intro no
    have al : ∀ k, 0 < (cor P k).1 - x := fun k => Classical.byContradiction fun h => no ⟨k, by grind⟩
    exact R.not_beside h (fun k => Rat.mul_pos (al k) (al (k + 1))) (fun k => by have := al k; show (cor P k).1 - x ≠ 0; grind)
  · apply Classical.byContradiction
    intro no
    have al : ∀ k, 0 < x - (cor P k).1 := fun k => Classical.byContradiction fun h => no ⟨k, by grind⟩
    exact R.not_beside h (fun k => by
      have := Rat.mul_pos (al k) (al (k + 1))
      show 0 < ((cor P k).1 - x) * ((cor P (k + 1)).1 - x)
      grind) (fun k => by have := al k; show (cor P k).1 - x ≠ 0; grind)
/-- over each x of the ring there are a lower and an upper edge -/
theorem RingP.low_at {P : List Pt} (R : RingP P) {x : Rat} {i j : Nat} (hi : (cor P i).1 ≤ x) (hj : x ≤ (cor P j).1) : ∃ k, k < P.length ∧ (cor P k).1 ≤ x ∧ x ≤ (cor P (k + 1)).1 ∧ (cor P k).1 < (cor P (k + 1)).1 := by
  have n0 : 0 < P.length := by have := R.1; omega
  by_cases h : ∃ j, x < (cor P j).1
  · obtain ⟨j, hj⟩ := h
    obtain ⟨k, k0, k1, k2⟩ := edge_from n0 hi hj
    exact ⟨k, k0, k1, Rat.le_of_lt k2, by grind⟩
  · have al : ∀ k, (cor P k).1 ≤ x := fun k => Rat.not_lt.mp fun h2 => h ⟨k, h2⟩
    obtain ⟨z, hz⟩ := R.wide j
    have := al z
    have := al j
    obtain ⟨k, k0, k1, k2⟩ := edge_to n0 (x := x) (i := z) (j := j) (by grind) hj
    exact ⟨k, k0, Rat.le_of_lt k1, k2, by grind⟩
theorem RingP.high_at {P : List Pt} (R : RingP P) {x : Rat} {i j : Nat} (hi : (cor P i).1 ≤ x) (hj : x ≤ (cor P j).1) : ∃ k, k < P.length ∧ (cor P (k + 1)).1 ≤ x ∧ x ≤ (cor P k).1 ∧ (cor P (k + 1)).1 < (cor P k).1 := by
  have n0 : 0 < P.length := by have := R.1; omega
  by_cases h : ∃ j, x < (cor P j).1
  · obtain ⟨j, hj⟩ := h
    obtain ⟨k, k0, k1, k2⟩ := back_from n0 hi hj
    exact ⟨k, k0, k1, Rat.le_of_lt k2, by grind⟩
  · have al : ∀ k, (cor P k).1 ≤ x := fun k => Rat.not_lt.mp fun h2 => h ⟨k, h2⟩
    obtain ⟨z, hz⟩ := R.wide j
    have := al z
    have := al j
    obtain ⟨k, k0, k1, k2⟩ := back_to n0 (x := x) (i := z) (j := j) (by grind) hj
    exact ⟨k, k0, Rat.le_of_lt k1, k2, by grind⟩
/-- below a lower edge is not above an upper one -/
theorem RingP.gap {P : List Pt} (R : RingP P) {x y : Rat} {k l : Nat} (k1 : (cor P k).1 ≤ x) (k2 : x ≤ (cor P (k + 1)).1) (k3 : (cor P k).1 < (cor P (k + 1)).1)
    (l1 : (cor P (l + 1)).1 ≤ x) (l2 : x ≤ (cor P l).1) (l3 : (cor P (l + 1)).1 < (cor P l).1) (h : ¬ 0 ≤ cr (cor P k) (cor P (k + 1)) (x, y)) : 0 ≤ cr (cor P l) (cor P (l + 1)) (x, y) := by
  have z0 := cr_onL (a := cor P k) (b := cor P (k + 1)) x (by grind)
  have b0 := cr_between (R.weak l k) (R.weak l (k + 1)) k1 k2 k3 z0
  have m0 := cr_move (p := cor P k) (q := cor P (k + 1)) x y (onL (cor P k) (cor P (k + 1)) x)
  have e0 := cr_move (p := cor P l) (q := cor P (l + 1)) x y (onL (cor P k) (cor P (k + 1)) x)
  generalize onL (cor P k) (cor P (k + 1)) x = y0 at *
  have g0 : 0 ≤ y0 - y := by
    apply Classical.byContradiction
    intro n
    refine h ?_
    rw [m0, z0]
    have : 0 ≤ ((cor P (k + 1)).1 - (cor P k).1) * (y - y0) := Rat.mul_nonneg (by grind) (by grind)
    grind
  have : 0 ≤ ((cor P l).1 - (cor P (l + 1)).1) * (y0 - y) := Rat.mul_nonneg (by grind) g0
  grind

--@ needs Gcd RingM
/-! fractions of whole numbers -/
def qv (t b : Int) : Rat := (t : Rat) / (b : Rat)
theorem cast_ne {b : Int} (h : 0 < b) : (b : Rat) ≠ 0 := by
  intro z
  have : (b : Rat) = ((0 : Int) : Rat) := z
  rw [Rat.intCast_inj] at this
  omega
theorem cast_pos {b : Int} (h : 0 < b) : (0 : Rat) < (b : Rat) := by
  have : ((0 : Int) : Rat) < (b : Rat) := Rat.intCast_lt_intCast.mpr h
  exact this
theorem qv_mul {t b : Int} (h : 0 < b) : qv t b * (b : Rat) = (t : Rat) := by
  unfold qv
  have := Rat.mul_inv_cancel _ (cast_ne h)
  rw [Rat.div_def]
  grind
theorem qv_of {t b : Int} {x : Rat} (h : 0 < b) (e : x * (b : Rat) = (t : Rat)) : qv t b = x := by
  have h1 := qv_mul (t := t) h
  have n := cast_ne h
  have : (qv t b - x) * (b : Rat) = 0 := by grind
  grind
/-- the fraction made least -/
def frT (t b : Int) : Int := t / (Int.gcd t b : Int)
def frB (t b : Int) : Int := b / (Int.gcd t b : Int)
theorem frT_mul (t b : Int) : frT t b * (Int.gcd t b : Int) = t := Int.ediv_mul_cancel (Int.gcd_dvd_left t b)
theorem frB_mul (t b : Int) : frB t b * (Int.gcd t b : Int) = b := Int.ediv_mul_cancel (Int.gcd_dvd_right t b)
theorem frB_pos {t b : Int} (h : 0 < b) : 0 < frB t b := lsM_pos h
theorem fr_qv {t b : Int} (h : 0 < b) : qv (frT t b) (frB t b) = qv t b := by
  have h1 := qv_mul (t := t) h
  have e1 := frT_mul t b
  have e2 := frB_mul t b
  have g := gcd_pos (a := t) h
  refine qv_of (frB_pos h) ?_
  have gn := cast_ne g
  have f1 : (frT t b : Rat) * ((Int.gcd t b : Int) : Rat) = (t : Rat) := by rw [← Rat.intCast_mul, e1]
  have f2 : (frB t b : Rat) * ((Int.gcd t b : Int) : Rat) = (b : Rat) := by rw [← Rat.intCast_mul, e2]
  generalize ((Int.gcd t b : Int) : Rat) = G at *
  grind
theorem qv_sub {t b u c : Int} (h : 0 < b) (k : 0 < c) : qv (t * c - u * b) (b * c) = qv t b - qv u c := by
  have h1 := qv_mul (t := t) h
  have h2 := qv_mul (t := u) k
  refine qv_of (Int.mul_pos h k) ?_
  rw [Rat.intCast_sub, Rat.intCast_mul, Rat.intCast_mul, Rat.intCast_mul]
  grind
theorem qv_prod {t b u c : Int} (h : 0 < b) (k : 0 < c) : qv (t * u) (b * c) = qv t b * qv u c := by
  have h1 := qv_mul (t := t) h
  have h2 := qv_mul (t := u) k
  refine qv_of (Int.mul_pos h k) ?_
  rw [Rat.intCast_mul, Rat.intCast_mul]
  grind
theorem qv_pos {t b : Int} (h : 0 < b) : 0 < qv t b ↔ 0 < t := by
  have e := qv_mul (t := t) h
  have p := cast_pos h
  constructor
  · intro q
    have : (0 : Rat) < (t : Rat) := by
      have := Rat.mul_pos q p
      grind
    have : ((0 : Int) : Rat) < (t : Rat) := this
    exact Rat.intCast_lt_intCast.mp this
  · intro q
    have q' := cast_pos q
    apply Classical.byContradiction
    intro n
    have : 0 ≤ (-qv t b) * (b : Rat) := Rat.mul_nonneg (by grind) (Rat.le_of_lt p)
    grind
theorem qv_nonneg {t b : Int} (h : 0 < b) : 0 ≤ qv t b ↔ 0 ≤ t := by
  have e := qv_pos (t := -t) h
  have e2 : qv (-t) b = -qv t b := by
    refine qv_of h ?_
    have := qv_mul (t := t) h
    rw [Rat.intCast_neg]
    grind
  rw [e2] at e
  constructor
  · intro a
    by_cases h : 0 ≤ t
    · exact h
    · have := e.mpr (by omega)
      grind
  · intro a
    apply Classical.byContradiction
    intro n
    have := e.mp (by grind)
    omega
theorem qv_int (x : Int) : qv x 1 = (x : Rat) := by
  refine qv_of (by decide) ?_
  show (x : Rat) * ((1 : Int) : Rat) = x
  have : ((1 : Int) : Rat) = 1 := rfl
  grind
/-- a whole number from a fraction on, or up to one -/
theorem le_floor {t b x : Int} (h : 0 < b) : x ≤ t / b ↔ (x : Rat) ≤ qv t b := by
  have e := qv_nonneg (t := t * 1 - x * b) (b := b * 1) (by omega)
  rw [qv_sub h (by decide : (0:Int) < 1), qv_int] at e
  rw [Int.le_ediv_iff_mul_le h]
  constructor
  · intro a
    have := e.mpr (by omega)
    grind
  · intro a
    have := e.mp (by grind)
    omega
theorem ceil_le {t b x : Int} (h : 0 < b) : 0 - (0 - t) / b ≤ x ↔ qv t b ≤ (x : Rat) := by
  have e := le_floor (t := 0 - t) (x := 0 - x) h
  have e2 : qv (0 - t) b = -qv t b := by
    refine qv_of h ?_
    have := qv_mul (t := t) h
    rw [Rat.intCast_sub]
    have : ((0 : Int) : Rat) = 0 := rfl
    grind
  rw [e2, Rat.intCast_sub] at e
  have : ((0 : Int) : Rat) = 0 := rfl
  constructor
  · intro a
    have := e.mp (by omega)
    grind
  · intro a
    have := e.mpr (by grind)
    omega
/-- (a, b, m) is the stair of the line through two corners, one left of the other -/
def LnOf (p q : Pt) (a b m : Int) : Prop := 0 < m ∧ (a : Rat) * (q.1 - p.1) = (q.2 - p.2) * (m : Rat) ∧ (b : Rat) = p.2 * (m : Rat) - (a : Rat) * p.1
theorem LnOf.cr {p q : Pt} {a b m : Int} (L : LnOf p q a b m) (x y : Int) : (m : Rat) * cr p q ((x : Rat), (y : Rat)) = (q.1 - p.1) * ((m * y - (a * x + b) : Int) : Rat) := by
  obtain ⟨_, h1, h2⟩ := L
  rw [Rat.intCast_sub, Rat.intCast_add, Rat.intCast_mul, Rat.intCast_mul, h2]
  unfold Sd.cr
  grind
theorem mul_sign {c d x : Rat} (hc : 0 < c) (hd : 0 < d) {y : Rat} (h : c * x = d * y) : 0 ≤ x ↔ 0 ≤ y := by
  constructor
  · intro a
    exact nn_mul hd (by rw [← h]; exact Rat.mul_nonneg (Rat.le_of_lt hc) a)
  · intro a
    exact nn_mul hc (by rw [h]; exact Rat.mul_nonneg (Rat.le_of_lt hd) a)
theorem cast_nonneg {x : Int} : (0 : Rat) ≤ (x : Rat) ↔ 0 ≤ x := by
  have : ((0 : Int) : Rat) ≤ (x : Rat) ↔ 0 ≤ x := Rat.intCast_le_intCast
  exact this
/-- at the left hand of a lower edge: from the rounded up height on -/
theorem LnOf.low {p q : Pt} {a b m : Int} (L : LnOf p q a b m) (pq : p.1 < q.1) (x y : Int) : 0 ≤ Sd.cr p q ((x : Rat), (y : Rat)) ↔ 0 - (0 - (a * x + b)) / m ≤ y := by
  have m0 := L.1
  rw [mul_sign (cast_pos m0) (by grind : 0 < q.1 - p.1) (L.cr x y), cast_nonneg]
  have e := Int.le_ediv_iff_mul_le (a := 0 - y) (b := 0 - (a * x + b)) m0
  have e2 : (0 - y) * m = -(m * y) := by grind
  rw [e2] at e
  omega
theorem LnOf.high {p q : Pt} {a b m : Int} (L : LnOf p q a b m) (pq : p.1 < q.1) (x y : Int) : 0 ≤ Sd.cr q p ((x : Rat), (y : Rat)) ↔ y ≤ (a * x + b) / m := by
  have m0 := L.1
  have e0 : Sd.cr q p ((x : Rat), (y : Rat)) = -Sd.cr p q ((x : Rat), (y : Rat)) := by unfold Sd.cr; grind
  have c := L.cr x y
  rw [e0, mul_sign (x := -Sd.cr p q ((x : Rat), (y : Rat))) (y := ((a * x + b - m * y : Int) : Rat)) (cast_pos m0) (by grind : 0 < q.1 - p.1) (by
    rw [Rat.intCast_sub] at c ⊢
    grind), cast_nonneg, Int.le_ediv_iff_mul_le m0, Int.mul_comm y m]
  omega

--@ needs FracM
/-! fractions and corners where they stand -/
abbrev Fq := Int × Int
abbrev Cn := Fq × Fq
def frd (f : Fq) : Fq := (frT f.1 f.2, frB f.1 f.2)
def fDif (f g : Fq) : Fq := frd (f.1 * g.2 - g.1 * f.2, f.2 * g.2)
def fPro (f g : Fq) : Fq := frd (f.1 * g.1, f.2 * g.2)
def handI (one other third : Cn) : Int := (fDif (fPro (fDif other.1 one.1) (fDif third.2 one.2)) (fPro (fDif other.2 one.2) (fDif third.1 one.1))).1
def slopeI (one other : Cn) : Fq := frd ((fDif other.2 one.2).1 * (fDif other.1 one.1).2, (fDif other.2 one.2).2 * (fDif other.1 one.1).1)
def lineI (one other : Cn) : Int × Int × Int :=
  ((slopeI one other).1 * (fDif one.2 (fPro (slopeI one other) one.1)).2, (fDif one.2 (fPro (slopeI one other) one.1)).1 * (slopeI one other).2, (slopeI one other).2 * (fDif one.2 (fPro (slopeI one other) one.1)).2)
def fv (f : Fq) : Rat := qv f.1 f.2
def cv (c : Cn) : Pt := (fv c.1, fv c.2)
theorem frd_pos {f : Fq} (h : 0 < f.2) : 0 < (frd f).2 := frB_pos h
theorem frd_v {f : Fq} (h : 0 < f.2) : fv (frd f) = fv f := fr_qv h
theorem fDif_pos {f g : Fq} (h : 0 < f.2) (k : 0 < g.2) : 0 < (fDif f g).2 := frd_pos (Int.mul_pos h k)
theorem fPro_pos {f g : Fq} (h : 0 < f.2) (k : 0 < g.2) : 0 < (fPro f g).2 := frd_pos (Int.mul_pos h k)
theorem fDif_v {f g : Fq} (h : 0 < f.2) (k : 0 < g.2) : fv (fDif f g) = fv f - fv g := (frd_v (Int.mul_pos h k)).trans (qv_sub h k)
theorem fPro_v {f g : Fq} (h : 0 < f.2) (k : 0 < g.2) : fv (fPro f g) = fv f * fv g := (frd_v (Int.mul_pos h k)).trans (qv_prod h k)
def OkC (c : Cn) : Prop := 0 < c.1.2 ∧ 0 < c.2.2
theorem handI_cr {a b c : Cn} (ha : OkC a) (hb : OkC b) (hc : OkC c) : 0 < handI a b c ↔ 0 < cr (cv a) (cv b) (cv c) := by
  have p1 := fDif_pos hb.1 ha.1
  have p2 := fDif_pos hc.2 ha.2
  have p3 := fDif_pos hb.2 ha.2
  have p4 := fDif_pos hc.1 ha.1
  have e : fv (fDif (fPro (fDif b.1 a.1) (fDif c.2 a.2)) (fPro (fDif b.2 a.2) (fDif c.1 a.1))) = cr (cv a) (cv b) (cv c) := by
    rw [fDif_v (fPro_pos p1 p2) (fPro_pos p3 p4), fPro_v p1 p2, fPro_v p3 p4, fDif_v hb.1 ha.1, fDif_v hc.2 ha.2, fDif_v hb.2 ha.2, fDif_v hc.1 ha.1]
    rfl
  rw [← e]
  exact (qv_pos (fDif_pos (fPro_pos p1 p2) (fPro_pos p3 p4))).symm
theorem fDif_sign {f g : Fq} (h : 0 < f.2) (k : 0 < g.2) : 0 < (fDif f g).1 ↔ fv g < fv f := by
  have e := qv_pos (t := (fDif f g).1) (fDif_pos h k)
  have v := fDif_v h k
  rw [show qv (fDif f g).1 (fDif f g).2 = fv f - fv g from v] at e
  rw [← e]
  constructor <;> intro h <;> grind
theorem lineI_ok {a b : Cn} (ha : OkC a) (hb : OkC b) (h : 0 < (fDif b.1 a.1).1) : LnOf (cv a) (cv b) (lineI a b).1 (lineI a b).2.1 (lineI a b).2.2 := by
  have p1 := fDif_pos hb.1 ha.1
  have p2 := fDif_pos hb.2 ha.2
  have sp0 : 0 < (fDif b.2 a.2).2 * (fDif b.1 a.1).1 := Int.mul_pos p2 h
  have sp : 0 < (slopeI a b).2 := frd_pos sp0
  have v1 := fDif_v hb.1 ha.1
  have v2 := fDif_v hb.2 ha.2
  have sv : fv (slopeI a b) * (fv b.1 - fv a.1) = fv b.2 - fv a.2 := by
    have e : fv (slopeI a b) = qv ((fDif b.2 a.2).1 * (fDif b.1 a.1).2) ((fDif b.2 a.2).2 * (fDif b.1 a.1).1) := frd_v sp0
    have m := qv_mul (t := (fDif b.2 a.2).1 * (fDif b.1 a.1).2) sp0
    rw [← e, Rat.intCast_mul, Rat.intCast_mul] at m
    have m1 : fv (fDif b.1 a.1) * ((fDif b.1 a.1).2 : Rat) = ((fDif b.1 a.1).1 : Rat) := qv_mul p1
    have m2 : fv (fDif b.2 a.2) * ((fDif b.2 a.2).2 : Rat) = ((fDif b.2 a.2).1 : Rat) := qv_mul p2
    rw [v1] at m1
    rw [v2] at m2
    have n1 := cast_ne p1
    have n2 := cast_ne p2
    generalize fv (slopeI a b) = s at *
    generalize ((fDif b.1 a.1).1 : Rat) = A at *
    generalize ((fDif b.1 a.1).2 : Rat) = B at *
    generalize ((fDif b.2 a.2).1 : Rat) = C at *
    generalize ((fDif b.2 a.2).2 : Rat) = D at *
    have : (s * (fv b.1 - fv a.1) - (fv b.2 - fv a.2)) * (D * B) = 0 := by grind
    have nz : D * B ≠ 0 := by grind
    grind
  have q1 := fPro_pos sp ha.1
  have bp := fDif_pos ha.2 q1
  have bv : fv (fDif a.2 (fPro (slopeI a b) a.1)) = fv a.2 - fv (slopeI a b) * fv a.1 := by rw [fDif_v ha.2 q1, fPro_v sp ha.1]
  have ms : fv (slopeI a b) * ((slopeI a b).2 : Rat) = ((slopeI a b).1 : Rat) := qv_mul sp
  have mb : fv (fDif a.2 (fPro (slopeI a b) a.1)) * ((fDif a.2 (fPro (slopeI a b) a.1)).2 : Rat) = ((fDif a.2 (fPro (slopeI a b) a.1)).1 : Rat) := qv_mul bp
  rw [bv] at mb
  unfold lineI
  refine ⟨Int.mul_pos sp bp, ?_, ?_⟩
  · show (((slopeI a b).1 * (fDif a.2 (fPro (slopeI a b) a.1)).2 : Int) : Rat) * (fv b.1 - fv a.1) = (fv b.2 - fv a.2) * (((slopeI a b).2 * (fDif a.2 (fPro (slopeI a b) a.1)).2 : Int) : Rat)
    rw [Rat.intCast_mul, Rat.intCast_mul, ← ms, ← sv]
    grind
  · show (((fDif a.2 (fPro (slopeI a b) a.1)).1 * (slopeI a b).2 : Int) : Rat) = fv a.2 * (((slopeI a b).2 * (fDif a.2 (fPro (slopeI a b) a.1)).2 : Int) : Rat) - (((slopeI a b).1 * (fDif a.2 (fPro (slopeI a b) a.1)).2 : Int) : Rat) * fv a.1
    rw [Rat.intCast_mul, Rat.intCast_mul, Rat.intCast_mul, ← ms, ← mb]
    grind
/-! where they stand -/
def FrAt (H : Hp) (v : V) (f : Fq) : Prop := ∃ p, v = .ref p ∧ H p = some (.tup [.int f.1, .int f.2])
def CnAt (H : Hp) (v : V) (c : Cn) : Prop := ∃ p u w, v = .ref p ∧ H p = some (.tup [u, w]) ∧ FrAt H u c.1 ∧ FrAt H w c.2
theorem FrAt.ex {H H' : Hp} {v : V} {f : Fq} (h : FrAt H v f) (e : Ex H H') : FrAt H' v f := by
  obtain ⟨p, rfl, h⟩ := h
  exact ⟨p, rfl, e.at h⟩
theorem CnAt.ex {H H' : Hp} {v : V} {c : Cn} (h : CnAt H v c) (e : Ex H H') : CnAt H' v c := by
  obtain ⟨p, u, w, rfl, h, a, b⟩ := h
  exact ⟨p, u, w, rfl, e.at h, a.ex e, b.ex e⟩
theorem FrAt.kp {H H' : Hp} {d : Addr} {v : V} {f : Fq} (h : FrAt H v f) (k : Kp d H H') (D : Dr H d) : FrAt H' v f := by
  obtain ⟨p, rfl, h⟩ := h
  exact ⟨p, rfl, k.tup D h⟩
theorem CnAt.kp {H H' : Hp} {d : Addr} {v : V} {c : Cn} (h : CnAt H v c) (k : Kp d H H') (D : Dr H d) : CnAt H' v c := by
  obtain ⟨p, u, w, rfl, h, a, b⟩ := h
  exact ⟨p, u, w, rfl, k.tup D h, a.kp k D, b.kp k D⟩
theorem FrAt.kpL {H H' : Hp} {d : Addr} {v : V} {f : Fq} {ys : List V} (h : FrAt H v f) (k : Kp d H H') (D : H d = some (.lst ys)) : FrAt H' v f := by
  obtain ⟨p, rfl, h⟩ := h
  exact ⟨p, rfl, k.tupL D h⟩
theorem CnAt.kpL {H H' : Hp} {d : Addr} {v : V} {c : Cn} {ys : List V} (h : CnAt H v c) (k : Kp d H H') (D : H d = some (.lst ys)) : CnAt H' v c := by
  obtain ⟨p, u, w, rfl, h, a, b⟩ := h
  exact ⟨p, u, w, rfl, k.tupL D h, a.kpL k D, b.kpL k D⟩
/-- a sum, of like sizes -/
theorem Sz.add1 {n m k : Nat} {x y : Int} (h : Sz n x) (q : Sz m y) (hn : n < k := by decide) (hm : m < k := by decide) : Sz k (x + y) := by
  have a : Sz (k - 1) x := h.mono (by omega)
  have b : Sz (k - 1) y := q.mono (by omega)
  have a' : x.natAbs < 2 ^ (k - 1) := a
  have b' : y.natAbs < 2 ^ (k - 1) := b
  obtain ⟨j, rfl⟩ : ∃ j, k = j + 1 := ⟨k - 1, by omega⟩
  rw [Nat.add_sub_cancel] at a' b'
  show (x + y).natAbs < 2 ^ (j + 1)
  rw [Nat.pow_succ]
  omega
theorem Sz.sub1 {n m k : Nat} {x y : Int} (h : Sz n x) (q : Sz m y) (hn : n < k := by decide) (hm : m < k := by decide) : Sz k (x - y) := by
  rw [Int.sub_eq_add_neg]
  exact h.add1 q.neg hn hm
def SzF (n m : Nat) (f : Fq) : Prop := 0 < f.2 ∧ Sz n f.1 ∧ Sz m f.2
theorem SzF.mono {n m n' m' : Nat} {f : Fq} (h : SzF n m f) (a : n ≤ n' := by decide) (b : m ≤ m' := by decide) : SzF n' m' f := ⟨h.1, h.2.1.mono a, h.2.2.mono b⟩
theorem frd_sz {n m : Nat} {f : Fq} (h : SzF n m f) : SzF n m (frd f) := ⟨frd_pos h.1, h.2.1.div (gcd_pos h.1), h.2.2.div (gcd_pos h.1)⟩
theorem fDif_sz {n m n' m' k : Nat} {f g : Fq} (h : SzF n m f) (q : SzF n' m' g) (h1 : n + m' < k := by decide) (h2 : n' + m < k := by decide) : SzF k (m + m') (fDif f g) :=
  frd_sz (f := (f.1 * g.2 - g.1 * f.2, f.2 * g.2)) ⟨Int.mul_pos h.1 q.1, (h.2.1.mul q.2.2).sub1 (q.2.1.mul h.2.2) h1 h2, h.2.2.mul q.2.2⟩
theorem fPro_sz {n m n' m' : Nat} {f g : Fq} (h : SzF n m f) (q : SzF n' m' g) : SzF (n + n') (m + m') (fPro f g) :=
  frd_sz (f := (f.1 * g.1, f.2 * g.2)) ⟨Int.mul_pos h.1 q.1, h.2.1.mul q.2.1, h.2.2.mul q.2.2⟩
def SzC (c : Cn) : Prop := SzF 300 30 c.1 ∧ SzF 300 30 c.2
theorem SzC.ok {c : Cn} (h : SzC c) : OkC c := ⟨h.1.1, h.2.1⟩
theorem slopeI_sz {a b : Cn} (za : SzC a) (zb : SzC b) (h0 : 0 < (fDif b.1 a.1).1) : SzF 391 391 (slopeI a b) := by
  have y1 : SzF 331 60 (fDif b.1 a.1) := fDif_sz zb.1 za.1
  have y2 : SzF 331 60 (fDif b.2 a.2) := fDif_sz zb.2 za.2
  exact frd_sz (f := ((fDif b.2 a.2).1 * (fDif b.1 a.1).2, (fDif b.2 a.2).2 * (fDif b.1 a.1).1)) ⟨Int.mul_pos y2.1 h0, (y2.2.1.mul y1.2.2).mono (by decide), (y2.2.2.mul y1.2.1).mono (by decide)⟩
theorem beginI_sz {a b : Cn} (za : SzC a) (zb : SzC b) (h0 : 0 < (fDif b.1 a.1).1) : SzF 722 451 (fDif a.2 (fPro (slopeI a b) a.1)) := by
  have s := slopeI_sz za zb h0
  have q : SzF 691 421 (fPro (slopeI a b) a.1) := fPro_sz s za.1
  exact fDif_sz (k := 722) za.2 q
theorem lineI_sz {a b : Cn} (za : SzC a) (zb : SzC b) (h0 : 0 < (fDif b.1 a.1).1) : 0 < (lineI a b).2.2 ∧ Sz 842 (lineI a b).1 ∧ Sz 1113 (lineI a b).2.1 ∧ Sz 842 (lineI a b).2.2 := by
  have s := slopeI_sz za zb h0
  have q := beginI_sz za zb h0
  exact ⟨Int.mul_pos s.1 q.1, (s.2.1.mul q.2.2).mono (by decide), (q.2.1.mul s.2.2).mono (by decide), (s.2.2.mul q.2.2).mono (by decide)⟩

--@ needs FracM Sum
/-! the sides of a ring, summed over whole x -/
structure Eg where
  f : Int
  l : Int
  a : Int
  b : Int
  m : Int
def sr (g : Int → Int) (lo hi : Int) : Int := sm (fun k : Nat => g (lo + k)) (hi - lo).toNat
theorem sr_self (g : Int → Int) (lo : Int) : sr g lo lo = 0 := by
  unfold sr
  rw [Int.sub_self]
  rfl
theorem sr_split (g : Int → Int) {lo mid hi : Int} (h : lo ≤ mid) (k : mid ≤ hi) : sr g lo hi = sr g lo mid + sr g mid hi := by
  unfold sr
  rw [show (hi - lo).toNat = (mid - lo).toNat + (hi - mid).toNat by omega, sm_add]
  congr 1
  refine sm_congr fun i _ => ?_
  rw [show lo + (((mid - lo).toNat + i : Nat) : Int) = mid + i by omega]
theorem sr_congr {g g' : Int → Int} {lo hi : Int} (h : ∀ x, lo ≤ x → x < hi → g x = g' x) : sr g lo hi = sr g' lo hi := by
  unfold sr
  exact sm_congr fun i hi => h _ (by omega) (by omega)
theorem sr_plus (g g' : Int → Int) (lo hi : Int) : sr (fun x => g x + g' x) lo hi = sr g lo hi + sr g' lo hi := by
  unfold sr
  exact sm_plus _
theorem sr_const (c lo hi : Int) (h : lo ≤ hi) : sr (fun _ => c) lo hi = c * (hi - lo) := by
  unfold sr
  rw [sm_const]
  congr 1
  omega
theorem sr_zero {g : Int → Int} {lo hi : Int} (h : ∀ x, lo ≤ x → x < hi → g x = 0) : sr g lo hi = 0 := by
  rw [sr_congr (g' := fun _ => 0) h]
  unfold sr
  rw [sm_const]
  omega
/-- a sum over more, of nothing -/
theorem sr_wide {g : Int → Int} {lo hi lo' hi' : Int} (h1 : lo' ≤ lo) (h : lo ≤ hi) (h2 : hi ≤ hi') (z1 : ∀ x, x < lo → g x = 0) (z2 : ∀ x, hi ≤ x → g x = 0) : sr g lo' hi' = sr g lo hi := by
  rw [sr_split g h1 (by omega : lo ≤ hi'), sr_split g h h2, sr_zero (fun x _ h => z1 x h), sr_zero (fun x h _ => z2 x h)]
  omega
theorem sr_fs {a b m lo hi : Int} : fs (hi - lo).toNat a (a * lo + b) m = sr (fun x => (a * x + b) / m) lo hi := by
  unfold fs sr
  refine sm_congr fun i _ => ?_
  show _ = (a * (lo + (i : Int)) + b) / m
  rw [Int.mul_add]
  congr 1
  omega
/-- the sides' sum: behind i edges -/
structure SideI (es : List Eg) (g : Int → Int) (first : Int) (i : Nat) (begin total : Int) : Prop where
  le : first ≤ begin
  past : ∀ j e, j < i → es[j]? = some e → e.l < begin
  at_ : begin = first ∨ ∃ e ∈ es, begin = e.l + 1
  sum : total = sr g first begin
/-- edges from the left, all x covered, one height at each x -/
structure SideW (es : List Eg) (g : Int → Int) : Prop where
  up : es.Pairwise fun e e' => e.f ≤ e'.f
  all : ∀ x, (∃ e ∈ es, e.f ≤ x) → (∃ e ∈ es, x ≤ e.l) → ∃ e ∈ es, e.f ≤ x ∧ x ≤ e.l
  one : ∀ e ∈ es, ∀ x, e.f ≤ x → x ≤ e.l → (e.a * x + e.b) / e.m = g x
theorem SideI.zero {es : List Eg} {g : Int → Int} {e0 : Eg} (_ : es[0]? = some e0) : SideI es g e0.f 0 e0.f 0 := ⟨Int.le_refl _, fun _ _ h => absurd h (Nat.not_lt_zero _), .inl rfl, (sr_self _ _).symm⟩
theorem SideI.skip {es : List Eg} {g : Int → Int} {first begin total : Int} {i : Nat} {e : Eg} (I : SideI es g first i begin total) (h : es[i]? = some e) (n : ¬ begin ≤ e.l) : SideI es g first (i + 1) begin total :=
  ⟨I.le, fun j e' hj he => by
    by_cases z : j = i
    · subst z
      rw [h] at he
      cases he
      omega
    · exact I.past j e' (by omega) he, I.at_, I.sum⟩
theorem SideI.step {es : List Eg} {g : Int → Int} {e0 : Eg} {begin total : Int} {i : Nat} {e : Eg} (W : SideW es g) (h0 : es[0]? = some e0) (I : SideI es g e0.f i begin total) (h : es[i]? = some e) (n : begin ≤ e.l) :
    SideI es g e0.f (i + 1) (e.l + 1) (total + fs (e.l - begin + 1).toNat e.a (e.a * begin + e.b) e.m) := by
  have m0 : e0 ∈ es := List.mem_of_getElem? h0
  have mi : e ∈ es := List.mem_of_getElem? h
  have ef : e.f ≤ begin := by
    obtain ⟨e', me', c1, c2⟩ := W.all begin ⟨e0, m0, I.le⟩ ⟨e, mi, n⟩
    obtain ⟨j, hj⟩ := List.getElem?_of_mem me'
    by_cases z : j < i
    · have := I.past j e' z hj
      omega
    · by_cases z2 : j = i
      · subst z2
        rw [h] at hj
        cases hj
        exact c1
      · have li : i < es.length := (List.getElem?_eq_some_iff.mp h).1
        have lj : j < es.length := (List.getElem?_eq_some_iff.mp hj).1
        have p := List.pairwise_iff_getElem.mp W.up i j li lj (by omega)
        rw [(List.getElem?_eq_some_iff.mp h).2, (List.getElem?_eq_some_iff.mp hj).2] at p
        omega
  refine ⟨by have := I.le; omega, fun j e' hj he => ?_, .inr ⟨e, mi, rfl⟩, ?_⟩
  · by_cases z : j = i
    · subst z
      rw [h] at he
      cases he
      omega
    · have := I.past j e' (by omega) he
      omega
  · rw [I.sum, show e.l - begin + 1 = (e.l + 1) - begin by omega, sr_fs, sr_split g I.le (by omega : begin ≤ e.l + 1)]
    congr 1
    exact sr_congr fun x h1 h2 => W.one e mi x (by omega) (by omega)
theorem SideI.last {es : List Eg} {g : Int → Int} {first begin total : Int} (I : SideI es g first es.length begin total) {x : Int} (hx : first ≤ x) : x < begin ↔ ∃ e ∈ es, x ≤ e.l := by
  constructor
  · intro h
    rcases I.at_ with z | ⟨e, he, z⟩
    · omega
    · exact ⟨e, he, by omega⟩
  · rintro ⟨e, he, h⟩
    obtain ⟨j, hj⟩ := List.getElem?_of_mem he
    have := I.past j e (List.getElem?_eq_some_iff.mp hj).1 hj
    omega
/-- the least first x stands first -/
theorem SideW.first {es : List Eg} {g : Int → Int} (W : SideW es g) {e0 : Eg} (h0 : es[0]? = some e0) {x : Int} : e0.f ≤ x ↔ ∃ e ∈ es, e.f ≤ x := by
  constructor
  · exact fun h => ⟨e0, List.mem_of_getElem? h0, h⟩
  · rintro ⟨e, he, h⟩
    obtain ⟨j, hj⟩ := List.getElem?_of_mem he
    by_cases z : j = 0
    · subst z
      rw [h0] at hj
      cases hj
      exact h
    · have li : 0 < es.length := (List.getElem?_eq_some_iff.mp h0).1
      have lj : j < es.length := (List.getElem?_eq_some_iff.mp hj).1
      have p := List.pairwise_iff_getElem.mp W.up 0 j li lj (by omega)
      rw [(List.getElem?_eq_some_iff.mp h0).2, (List.getElem?_eq_some_iff.mp hj).2] at p
      omega
/-! what is counted -/
noncomputable def ind (p : Prop) : Int := @ite _ p (Classical.propDecidable p) 1 0
theorem ind_yes {p : Prop} (h : p) : ind p = 1 := by unfold ind; exact if_pos h
theorem ind_no {p : Prop} (h : ¬ p) : ind p = 0 := by unfold ind; exact if_neg h
/-- the whole points of a box that are within -/
noncomputable def cnt (S : Int → Int → Prop) (B : Int) : Int := sr (fun x => sr (fun y => ind (S x y)) (-B) (B + 1)) (-B) (B + 1)
/-- N whole points in all -/
def Cnt (S : Int → Int → Prop) (N : Int) : Prop := ∃ B0 : Int, ∀ B, B0 ≤ B → cnt S B = N
theorem Cnt.uniq {S : Int → Int → Prop} {N M : Int} (h : Cnt S N) (k : Cnt S M) : N = M := by
  obtain ⟨B, hB⟩ := h
  obtain ⟨C, hC⟩ := k
  rw [← hB (max B C) (by omega), hC (max B C) (by omega)]
/-- y from c to u -/
theorem sr_col {p : Int → Prop} {c u B : Int} (h : ∀ y, p y ↔ c ≤ y ∧ y ≤ u) (cu : c ≤ u + 1) (c0 : -B ≤ c) (u0 : u ≤ B) : sr (fun y => ind (p y)) (-B) (B + 1) = u - c + 1 := by
  rw [sr_wide c0 cu (by omega : u + 1 ≤ B + 1) (fun x hx => ind_no (by rw [h]; omega)) (fun x hx => ind_no (by rw [h]; omega)), sr_congr (g' := fun _ => 1) (fun y h1 h2 => ind_yes (by rw [h]; omega)), sr_const _ _ _ cu]
  omega
theorem bound_all (g : Int → Int) (lo : Int) : ∀ n : Nat, ∃ B : Int, ∀ x, lo ≤ x → x < lo + n → -B ≤ g x ∧ g x ≤ B
  | 0 => ⟨0, fun x h1 h2 => by omega⟩
  | n + 1 => by
    obtain ⟨B, hB⟩ := bound_all g lo n
    refine ⟨max B (max (g (lo + n)) (- g (lo + n))), fun x h1 h2 => ?_⟩
    by_cases z : x = lo + n
    · subst z
      omega
    · have := hB x h1 (by omega)
      omega
/-- columns from x0 to below x1, each from c x to u x -/
theorem Cnt.of {S : Int → Int → Prop} {c u : Int → Int} {x0 x1 : Int} (h01 : x0 ≤ x1) (h : ∀ x y, S x y ↔ (x0 ≤ x ∧ x < x1) ∧ c x ≤ y ∧ y ≤ u x) (cu : ∀ x, x0 ≤ x → x < x1 → c x ≤ u x + 1) : Cnt S (sr (fun x => u x - c x + 1) x0 x1) := by
  obtain ⟨B1, b1⟩ := bound_all c x0 (x1 - x0).toNat
  obtain ⟨B2, b2⟩ := bound_all u x0 (x1 - x0).toNat
  refine ⟨max (max B1 B2) (max (max x0 (-x0)) (max x1 (-x1))), fun B hB => ?_⟩
  unfold cnt
  rw [sr_wide (lo := x0) (hi := x1) (by omega) h01 (by omega)]
  · refine sr_congr fun x h1 h2 => ?_
    have := b1 x h1 (by omega)
    have := b2 x h1 (by omega)
    exact sr_col (fun y => by rw [h]; omega) (cu x h1 h2) (by omega) (by omega)
  · intro x hx
    refine sr_zero fun y _ _ => ind_no ?_
    rw [h]
    omega
  · intro x hx
    refine sr_zero fun y _ _ => ind_no ?_
    rw [h]
    omega

--@ needs FracV SideM
/-! a ring where it stands -/
def cI (cs : List Cn) (k : Nat) : Cn := (cs[k % cs.length]?).getD ((0, 1), (0, 1))
def RingI (cs : List Cn) : Prop := 3 ≤ cs.length ∧ cs.length ≤ 20 ∧ ∀ k, k < cs.length → ∀ j, j < cs.length → j ≠ k → j ≠ (k + 1) % cs.length → 0 < handI (cI cs k) (cI cs (k + 1)) (cI cs j)
structure RgAt (K : PySem.W.Frag) (H : Hp) (a : Addr) (rs : List (V × Cn)) : Prop where
  l : SqL K H a (rs.map (·.1))
  c : ∀ r ∈ rs, CnAt H r.1 r.2
  z : ∀ r ∈ rs, SzC r.2
def rcs (rs : List (V × Cn)) : List Cn := rs.map (·.2)
theorem RgAt.ex {K : PySem.W.Frag} {H H' : Hp} {a : Addr} {rs : List (V × Cn)} (R : RgAt K H a rs) (e : Ex H H') : RgAt K H' a rs := ⟨sql_up e R.l, fun r hr => (R.c r hr).ex e, R.z⟩
/-- corner number k mod n -/
theorem RgAt.at {K : PySem.W.Frag} {H : Hp} {a : Addr} {rs : List (V × Cn)} (R : RgAt K H a rs) {i : Int} (h0 : 0 ≤ i) (h1 : i < rs.length) : ∃ v, atI (rs.map (·.1)) i = some v ∧ CnAt H v (cI (rcs rs) i.toNat) ∧ SzC (cI (rcs rs) i.toNat) := by
  have hl : i.toNat < rs.length := by omega
  refine ⟨(rs[i.toNat]).1, at_of (j := i.toNat) (by omega) (by rw [List.getElem?_map, List.getElem?_eq_getElem hl]; rfl), ?_⟩
  have e : cI (rcs rs) i.toNat = (rs[i.toNat]).2 := by
    unfold cI rcs
    rw [List.length_map, Nat.mod_eq_of_lt hl, List.getElem?_map, List.getElem?_eq_getElem hl]
    rfl
  rw [e]
  exact ⟨R.c _ (List.getElem_mem hl), R.z _ (List.getElem_mem hl)⟩
theorem cI_mod (cs : List Cn) (k : Nat) : cI cs (k % cs.length) = cI cs k := by
  unfold cI
  rw [Nat.mod_mod]
theorem cI_mem {cs : List Cn} (h : 0 < cs.length) (k : Nat) : cI cs k ∈ cs := by
  unfold cI
  rw [List.getElem?_eq_getElem (Nat.mod_lt k h)]
  exact List.getElem_mem _
theorem cI_lt {cs : List Cn} {k : Nat} (h : k < cs.length) : cs[k]? = some (cI cs k) := by
  unfold cI
  rw [Nat.mod_eq_of_lt h, List.getElem?_eq_getElem h]
  rfl
def pts (cs : List Cn) : List Pt := cs.map cv
theorem cor_pts {cs : List Cn} (h : 0 < cs.length) (k : Nat) : cor (pts cs) k = cv (cI cs k) := by
  unfold cor cI pts
  rw [List.length_map, List.getElem?_map, List.getElem?_eq_getElem (Nat.mod_lt k h)]
  rfl
/-- a ring by the program's own reckoning is one -/
theorem ringI_iff {cs : List Cn} (ok : ∀ c ∈ cs, OkC c) : RingI cs ↔ RingP (pts cs) ∧ cs.length ≤ 20 := by
  unfold RingI RingP
  rw [show (pts cs).length = cs.length from List.length_map ..]
  constructor
  · rintro ⟨h3, h20, h⟩
    have n0 : 0 < cs.length := by omega
    refine ⟨⟨h3, fun k hk j hj a b => ?_⟩, h20⟩
    rw [cor_pts n0, cor_pts n0, cor_pts n0]
    exact (handI_cr (ok _ (cI_mem n0 _)) (ok _ (cI_mem n0 _)) (ok _ (cI_mem n0 _))).mp (h k hk j hj a b)
  · rintro ⟨⟨h3, h⟩, h20⟩
    have n0 : 0 < cs.length := by omega
    refine ⟨h3, h20, fun k hk j hj a b => ?_⟩
    have := h k hk j hj a b
    rw [cor_pts n0, cor_pts n0, cor_pts n0] at this
    exact (handI_cr (ok _ (cI_mem n0 _)) (ok _ (cI_mem n0 _)) (ok _ (cI_mem n0 _))).mpr this
theorem RgAt.ok {K : PySem.W.Frag} {H : Hp} {a : Addr} {rs : List (V × Cn)} (R : RgAt K H a rs) : ∀ c ∈ rcs rs, OkC c := fun c hc => by
  obtain ⟨r, hr, rfl⟩ := List.mem_map.mp hc
  exact (R.z r hr).ok
theorem mod1 (n i : Nat) : ((i : Int) + 1) % (n : Int) = (((i + 1) % n : Nat) : Int) := by
  rw [Int.natCast_emod]
  rfl

/-! sorted(xs), xs a list of data (whole numbers, texts, tuples of these ..) -/
def rSortD (K : PySem.W.Frag) : List V → Hp → VK → Prop := fun vs H Q => ∃ (a : Addr) (bs : List (V × PyData)), vs = [V.ref a] ∧ SqL K H a (bs.map (·.1)) ∧ (∀ b ∈ bs, Dp K H b.1 b.2) ∧
  PySem.W.AllAlike (bs.map (·.2)) ∧ PySem.W.Sortable (bs.map (·.2)) ∧ (∀ b ∈ bs, b.2.depth ≤ 60) ∧
  ∀ p, H p = none → Q (.ref p) (upd H p (.lst ((bs.mergeSort (PySem.W.dataLe false (·.2))).map (·.1))))
theorem each_vals {H : Hp} {vs : List Value} : ∀ {bs : List (V × PyData)} {vs : List Value}, Vals (bs.map (·.1)) vs → PySem.W.EachIs (fun v (b : V × PyData) => RelV b.1 v) vs bs
  | [], _, r => by
    cases r
    exact .nil
  | b :: bs, _, r => by
    cases r with
    | cons h t => exact .cons h (each_vals (H := H) (vs := vs) t)
theorem vals_each : ∀ {bs : List (V × PyData)} {vs : List Value}, PySem.W.EachIs (fun v (b : V × PyData) => RelV b.1 v) vs bs → Vals (bs.map (·.1)) vs
  | _, _, .nil => .nil
  | _, _, .cons h t => .cons h (vals_each t)
theorem each_reads {X : Cx} {pins : List (Addr × Obj)} {σ : L2.St} {H : Hp} {s : Shared} (I : Inv X pins σ H s) : ∀ {bs : List (V × PyData)} {vs : List Value}, (∀ b ∈ bs, Dp X.K H b.1 b.2) → PySem.W.EachIs (fun v (b : V × PyData) => RelV b.1 v) vs bs →
    PySem.W.EachIs (fun v (b : V × PyData) => ∃ as, Reads s.heap v b.2 as) vs bs
  | _, _, _, .nil => .nil
  | b :: bs, _, d, .cons h t => .cons (Dp.reads I _ _ _ (d b List.mem_cons_self) h) (each_reads I (fun b hb => d b (List.mem_cons_of_mem _ hb)) t)
theorem cr_sortedD {X : Cx} (hu : X.A.units + 64 < cLine) : CallR X (.builtin "sorted") (rSortD X.K) := by
  intro pins s σ H vs us Q I r h
  obtain ⟨a, bs, rfl, hs, hd, hal, hk, hdp, q⟩ := h
  obtain ⟨its, rv, hl, hz⟩ := I.list hs
  rw [Vals.ref1 r]
  have ee := each_vals (H := H) (vs := []) rv
  refine PySem.W.sorted_data (vs := its) (enc := (·.2)) hl.isList ee (each_reads I hd ee) hal hk (by rw [← List.length_map (f := (·.1))]; exact hz) (fun b hb => by have := hdp b hb; omega) fun out h1 h2 => ?_
  obtain ⟨ep, he'⟩ := PyProof.Rows.sortedAll_at s.heap its out.toArray
  have hlen : ((bs.mergeSort (PySem.W.dataLe false (·.2))).map (·.1)).length ≤ sizeLine := by
    rw [List.length_map, List.length_mergeSort, ← List.length_map (f := (·.1)) (as := bs)]
    exact hz
  exact ⟨.ref _, upd H (s.heap.objs.size + 1) (.lst ((bs.mergeSort (PySem.W.dataLe false (·.2))).map (·.1))), I.laid (t' := s.toks) (fun _ _ => PyProof.Rows.sortedAll_old) (Nat.le_succ _) ⟨hlen, out.toArray.toList, ep, vals_each h2, he'⟩, rfl, q _ (I.hok.fresh (Nat.le_succ _))⟩

--@ needs RingV SortD
/-! the edges of a ring's sides -/
def egO (o t : Cn) : Option Eg := if 0 < (fDif t.1 o.1).1 then some ⟨0 - (0 - o.1.1) / o.1.2, t.1.1 / t.1.2, (lineI o t).1, (lineI o t).2.1, (lineI o t).2.2⟩ else none
def egI (cs : List Cn) (side : Int) (k : Nat) : Option Eg := if side = 1 then egO (cI cs (k + 1)) (cI cs k) else egO (cI cs k) (cI cs (k + 1))
def sideL (cs : List Cn) (side : Int) (n : Nat) : List Eg := (List.range n).filterMap (egI cs side)
theorem sideL_succ (cs : List Cn) (side : Int) (n : Nat) : sideL cs side (n + 1) = sideL cs side n ++ (egI cs side n).toList := by
  unfold sideL
  rw [List.range_succ, List.filterMap_append]
  congr 1
/-- e is the edge from p to q, p left of q -/
def EgOf (p q : Pt) (e : Eg) : Prop := p.1 < q.1 ∧ (∀ x : Int, e.f ≤ x ↔ p.1 ≤ (x : Rat)) ∧ (∀ x : Int, x ≤ e.l ↔ (x : Rat) ≤ q.1) ∧ LnOf p q e.a e.b e.m
theorem egO_of {o t : Cn} {e : Eg} (ho : OkC o) (ht : OkC t) (h : egO o t = some e) : EgOf (cv o) (cv t) e := by
  unfold egO at h
  split at h
  · next c =>
    cases h
    refine ⟨(fDif_sign ht.1 ho.1).mp c, fun x => ceil_le ho.1, fun x => le_floor ht.1, lineI_ok ho ht c⟩
  · cases h
theorem egO_ex {o t : Cn} (ho : OkC o) (ht : OkC t) (h : (cv o).1 < (cv t).1) : ∃ e, egO o t = some e := by
  unfold egO
  rw [if_pos ((fDif_sign ht.1 ho.1).mpr h)]
  exact ⟨_, rfl⟩
def szE (e : Eg) : Prop := Sz 302 e.f ∧ Sz 302 e.l ∧ Sz 842 e.a ∧ Sz 1113 e.b ∧ Sz 842 e.m ∧ 0 < e.m
theorem egO_sz {o t : Cn} {e : Eg} (ho : SzC o) (ht : SzC t) (h : egO o t = some e) : szE e := by
  unfold egO at h
  split at h
  · next c =>
    cases h
    have z := lineI_sz ho ht c
    have z0 : Sz 300 (0 : Int) := (Sz.lit (x := 0)).mono (by decide)
    refine ⟨?_, (Sz.div ht.1.2.1 ht.1.1).mono (by decide), z.2.1, z.2.2.1, z.2.2.2, z.1⟩
    exact Sz.sub1 (k := 302) z0 (Sz.div (Sz.sub1 (k := 301) z0 ho.1.2.1) ho.1.1) (by decide) (by decide)
  · cases h
/-- a lower (side 0) or upper side of a ring -/
def pA (P : List Pt) (side : Int) (k : Nat) : Pt := if side = 1 then cor P (k + 1) else cor P k
def pB (P : List Pt) (side : Int) (k : Nat) : Pt := if side = 1 then cor P k else cor P (k + 1)
structure SideE (P : List Pt) (side : Int) (es : List Eg) : Prop where
  of : ∀ e ∈ es, ∃ k, k < P.length ∧ EgOf (pA P side k) (pB P side k) e
  ex : ∀ k, k < P.length → (pA P side k).1 < (pB P side k).1 → ∃ e ∈ es, EgOf (pA P side k) (pB P side k) e
theorem sideL_e {cs : List Cn} {side : Int} (n0 : 0 < cs.length) (ok : ∀ c ∈ cs, OkC c) : SideE (pts cs) side (sideL cs side cs.length) := by
  have len : (pts cs).length = cs.length := List.length_map ..
  constructor
  · intro e he
    obtain ⟨k, hk, h⟩ := List.mem_filterMap.mp he
    refine ⟨k, by rw [len]; exact List.mem_range.mp hk, ?_⟩
    unfold egI at h
    unfold pA pB
    split at h
    · next s =>
      rw [if_pos s, if_pos s, cor_pts n0, cor_pts n0]
      exact egO_of (ok _ (cI_mem n0 _)) (ok _ (cI_mem n0 _)) h
    · next s =>
      rw [if_neg s, if_neg s, cor_pts n0, cor_pts n0]
      exact egO_of (ok _ (cI_mem n0 _)) (ok _ (cI_mem n0 _)) h
  · intro k hk h
    rw [len] at hk
    unfold pA pB at h ⊢
    by_cases s : side = 1
    · rw [if_pos s, if_pos s] at h ⊢
      rw [cor_pts n0, cor_pts n0] at h ⊢
      obtain ⟨e, he⟩ := egO_ex (ok _ (cI_mem n0 _)) (ok _ (cI_mem n0 _)) h
      exact ⟨e, List.mem_filterMap.mpr ⟨k, List.mem_range.mpr hk, by unfold egI; rw [if_pos s]; exact he⟩, egO_of (ok _ (cI_mem n0 _)) (ok _ (cI_mem n0 _)) he⟩
    · rw [if_neg s, if_neg s] at h ⊢
      rw [cor_pts n0, cor_pts n0] at h ⊢
      obtain ⟨e, he⟩ := egO_ex (ok _ (cI_mem n0 _)) (ok _ (cI_mem n0 _)) h
      exact ⟨e, List.mem_filterMap.mpr ⟨k, List.mem_range.mpr hk, by unfold egI; rw [if_neg s]; exact he⟩, egO_of (ok _ (cI_mem n0 _)) (ok _ (cI_mem n0 _)) he⟩
theorem SideE.perm {P : List Pt} {side : Int} {es es' : List Eg} (h : SideE P side es) (p : es'.Perm es) : SideE P side es' :=
  ⟨fun e he => h.of e (p.mem_iff.mp he), fun k hk hl => by
    obtain ⟨e, he, z⟩ := h.ex k hk hl
    exact ⟨e, p.mem_iff.mpr he, z⟩⟩
/-- x is between the least and the greatest x of the corners -/
def OverX (P : List Pt) (x : Int) : Prop := (∃ i, (cor P i).1 ≤ (x : Rat)) ∧ ∃ j, (x : Rat) ≤ (cor P j).1
def covers (x : Int) (e : Eg) : Prop := e.f ≤ x ∧ x ≤ e.l
instance (x : Int) (e : Eg) : Decidable (covers x e) := inferInstanceAs (Decidable (_ ∧ _))
/-- the rounded up height of the lower side, the rounded down one of the upper side -/
def lowC (e : Eg) (x : Int) : Int := 0 - (0 - (e.a * x + e.b)) / e.m
def highU (e : Eg) (x : Int) : Int := (e.a * x + e.b) / e.m
theorem SideE.cov {P : List Pt} {side : Int} {es : List Eg} (R : RingP P) (h : SideE P side es) (s : side = 0 ∨ side = 1) {x : Int} (o : OverX P x) : ∃ e ∈ es, covers x e := by
  obtain ⟨⟨i, hi⟩, j, hj⟩ := o
  rcases s with rfl | rfl
  · obtain ⟨k, hk, k1, k2, k3⟩ := R.low_at hi hj
    obtain ⟨e, he, ef⟩ := h.ex k hk k3
    exact ⟨e, he, (ef.2.1 x).mpr k1, (ef.2.2.1 x).mpr k2⟩
  · obtain ⟨k, hk, k1, k2, k3⟩ := R.high_at hi hj
    obtain ⟨e, he, ef⟩ := h.ex k hk k3
    exact ⟨e, he, (ef.2.1 x).mpr k1, (ef.2.2.1 x).mpr k2⟩
theorem SideE.over {P : List Pt} {side : Int} {es : List Eg} (h : SideE P side es) {x : Int} {e e' : Eg} (he : e ∈ es) (he' : e' ∈ es) (c1 : e.f ≤ x) (c2 : x ≤ e'.l) : OverX P x := by
  obtain ⟨k, hk, ef⟩ := h.of e he
  obtain ⟨k', hk', ef'⟩ := h.of e' he'
  have a := (ef.2.1 x).mp c1
  have b := (ef'.2.2.1 x).mp c2
  unfold pA at a
  unfold pB at b
  constructor
  · split at a
    · exact ⟨_, a⟩
    · exact ⟨_, a⟩
  · split at b
    · exact ⟨_, b⟩
    · exact ⟨_, b⟩
/-- within, by a lower and an upper edge over x -/
theorem ins_by {P : List Pt} {lo hi : List Eg} (R : RingP P) (hl : SideE P 0 lo) (hh : SideE P 1 hi) {x : Int} {e e' : Eg} (he : e ∈ lo) (he' : e' ∈ hi) (c : covers x e) (c' : covers x e') (y : Int) :
    InsP P ((x : Rat), (y : Rat)) ↔ lowC e x ≤ y ∧ y ≤ highU e' x := by
  obtain ⟨k, hk, ef⟩ := hl.of e he
  obtain ⟨l, hl', ef'⟩ := hh.of e' he'
  have i := R.ins_iff (y := (y : Rat)) ((ef.2.1 x).mp c.1) ((ef.2.2.1 x).mp c.2) ef.1 ((ef'.2.1 x).mp c'.1) ((ef'.2.2.1 x).mp c'.2) ef'.1
  have u := ef.2.2.2.low ef.1 x y
  have v := ef'.2.2.2.high ef'.1 x y
  rw [i]
  exact ⟨fun h => ⟨u.mp h.1, v.mp h.2⟩, fun h => ⟨u.mpr h.1, v.mpr h.2⟩⟩
/-- two edges of one side over one x have one height there -/
theorem low_one {P : List Pt} {es : List Eg} (R : RingP P) (h : SideE P 0 es) {x : Int} {e e' : Eg} (he : e ∈ es) (he' : e' ∈ es) (c : covers x e) (c' : covers x e') : lowC e x = lowC e' x := by
  obtain ⟨k, hk, ef⟩ := h.of e he
  obtain ⟨l, hl, ef'⟩ := h.of e' he'
  have a : ∀ y : Int, lowC e x ≤ y → lowC e' x ≤ y := fun y hy =>
    (ef'.2.2.2.low ef'.1 x y).mp (R.one_low ((ef.2.1 x).mp c.1) ((ef.2.2.1 x).mp c.2) ef.1 ef'.1 ((ef.2.2.2.low ef.1 x y).mpr hy))
  have b : ∀ y : Int, lowC e' x ≤ y → lowC e x ≤ y := fun y hy =>
    (ef.2.2.2.low ef.1 x y).mp (R.one_low ((ef'.2.1 x).mp c'.1) ((ef'.2.2.1 x).mp c'.2) ef'.1 ef.1 ((ef'.2.2.2.low ef'.1 x y).mpr hy))
  have := a _ (Int.le_refl _)
  have := b _ (Int.le_refl _)
  omega
theorem high_one {P : List Pt} {es : List Eg} (R : RingP P) (h : SideE P 1 es) {x : Int} {e e' : Eg} (he : e ∈ es) (he' : e' ∈ es) (c : covers x e) (c' : covers x e') : highU e x = highU e' x := by
  obtain ⟨k, hk, ef⟩ := h.of e he
  obtain ⟨l, hl, ef'⟩ := h.of e' he'
  have a : ∀ y : Int, y ≤ highU e x → y ≤ highU e' x := fun y hy =>
    (ef'.2.2.2.high ef'.1 x y).mp (R.one_high ((ef.2.1 x).mp c.1) ((ef.2.2.1 x).mp c.2) ef.1 ef'.1 ((ef.2.2.2.high ef.1 x y).mpr hy))
  have b : ∀ y : Int, y ≤ highU e' x → y ≤ highU e x := fun y hy =>
    (ef.2.2.2.high ef.1 x y).mp (R.one_high ((ef'.2.1 x).mp c'.1) ((ef'.2.2.1 x).mp c'.2) ef'.1 ef.1 ((ef'.2.2.2.high ef'.1 x y).mpr hy))
  have := a _ (Int.le_refl _)
  have := b _ (Int.le_refl _)
  omega
/-- the height of a side at x, by the first edge over it -/
def hgt (h : Eg → Int → Int) (es : List Eg) (x : Int) : Int := ((es.find? fun e => decide (covers x e)).map fun e => h e x).getD 0
theorem hgt_is {h : Eg → Int → Int} {es : List Eg} {x : Int} {e : Eg} (he : e ∈ es) (c : covers x e) (one : ∀ e ∈ es, ∀ e' ∈ es, covers x e → covers x e' → h e x = h e' x) : hgt h es x = h e x := by
  unfold hgt
  cases f : es.find? fun e => decide (covers x e) with
  | none => exact absurd (decide_eq_true c) (List.find?_eq_none.mp f e he)
  | some e' =>
    have m := List.mem_of_find?_eq_some f
    have c' : covers x e' := of_decide_eq_true (p := covers x e') (List.find?_some (p := fun e => decide (covers x e)) f)
    exact one e' m e he c' c
def turnE (t : Bool) (e : Eg) : Eg := if t = true then ⟨e.f, e.l, 0 - e.a, 0 - e.b, e.m⟩ else e
theorem turnE_f (t : Bool) (e : Eg) : (turnE t e).f = e.f := by cases t <;> rfl
theorem turnE_l (t : Bool) (e : Eg) : (turnE t e).l = e.l := by cases t <;> rfl
theorem sideW_low {P : List Pt} {es : List Eg} (R : RingP P) (h : SideE P 0 es) (up : es.Pairwise fun e e' => e.f ≤ e'.f) : SideW (es.map (turnE true)) (fun x => - hgt lowC es x) := by
  refine ⟨by rw [List.pairwise_map]; exact up, ?_, ?_⟩
  · rintro x ⟨e, he, c⟩ ⟨e', he', c'⟩
    obtain ⟨e, me, rfl⟩ := List.mem_map.mp he
    obtain ⟨e', me', rfl⟩ := List.mem_map.mp he'
    obtain ⟨e2, he2, c2⟩ := h.cov R (.inl rfl) (h.over me me' c c')
    exact ⟨_, List.mem_map.mpr ⟨e2, he2, rfl⟩, c2⟩
  · intro e he x c c'
    obtain ⟨e, me, rfl⟩ := List.mem_map.mp he
    have eq : hgt lowC es x = lowC e x := hgt_is me ⟨c, c'⟩ (fun e he e' he' c c' => low_one R h he he' c c')
    rw [eq]
    show ((0 - e.a) * x + (0 - e.b)) / e.m = -(0 - (0 - (e.a * x + e.b)) / e.m)
    rw [show (0 - e.a) * x + (0 - e.b) = 0 - (e.a * x + e.b) by grind]
    omega
theorem sideW_high {P : List Pt} {es : List Eg} (R : RingP P) (h : SideE P 1 es) (up : es.Pairwise fun e e' => e.f ≤ e'.f) : SideW (es.map (turnE false)) (hgt highU es) := by
  refine ⟨by rw [List.pairwise_map]; exact up, ?_, ?_⟩
  · rintro x ⟨e, he, c⟩ ⟨e', he', c'⟩
    obtain ⟨e, me, rfl⟩ := List.mem_map.mp he
    obtain ⟨e', me', rfl⟩ := List.mem_map.mp he'
    obtain ⟨e2, he2, c2⟩ := h.cov R (.inr rfl) (h.over me me' c c')
    exact ⟨_, List.mem_map.mpr ⟨e2, he2, rfl⟩, c2⟩
  · intro e he x c c'
    obtain ⟨e, me, rfl⟩ := List.mem_map.mp he
    have eq : hgt highU es x = highU e x := hgt_is me ⟨c, c'⟩ (fun e he e' he' c c' => high_one R h he he' c c')
    rw [eq]
    rfl
/-- the x of a ring: from the first edge's first on, to below the end -/
theorem side_x {P : List Pt} {side : Int} {es : List Eg} {t : Bool} {g : Int → Int} {e0 : Eg} {fin total : Int} (R : RingP P) (h : SideE P side es) (s : side = 0 ∨ side = 1) (W : SideW (es.map (turnE t)) g) (h0 : (es.map (turnE t))[0]? = some e0)
    (I : SideI (es.map (turnE t)) g e0.f (es.map (turnE t)).length fin total) (x : Int) : OverX P x ↔ e0.f ≤ x ∧ x < fin := by
  constructor
  · intro o
    obtain ⟨e, he, c⟩ := h.cov R s o
    have a : e0.f ≤ x := (W.first h0).mpr ⟨_, List.mem_map.mpr ⟨e, he, rfl⟩, by rw [turnE_f]; exact c.1⟩
    exact ⟨a, (I.last a).mpr ⟨_, List.mem_map.mpr ⟨e, he, rfl⟩, by rw [turnE_l]; exact c.2⟩⟩
  · rintro ⟨a, b⟩
    obtain ⟨_, m, c⟩ := (W.first h0).mp a
    obtain ⟨_, m', c'⟩ := (I.last a).mp b
    obtain ⟨e, he, rfl⟩ := List.mem_map.mp m
    obtain ⟨e', he', rfl⟩ := List.mem_map.mp m'
    rw [turnE_f] at c
    rw [turnE_l] at c'
    exact h.over he he' c c'
/-- how many whole points there are -/
theorem ring_count {P : List Pt} {lo hi : List Eg} (R : RingP P) (hl : SideE P 0 lo) (hh : SideE P 1 hi) (ul : lo.Pairwise fun e e' => e.f ≤ e'.f) (uh : hi.Pairwise fun e e' => e.f ≤ e'.f)
    {e0 e1 : Eg} {finL finH tl th : Int} (h0 : (lo.map (turnE true))[0]? = some e0) (h1 : (hi.map (turnE false))[0]? = some e1)
    (IL : SideI (lo.map (turnE true)) (fun x => - hgt lowC lo x) e0.f (lo.map (turnE true)).length finL tl) (IH : SideI (hi.map (turnE false)) (hgt highU hi) e1.f (hi.map (turnE false)).length finH th) :
    Cnt (fun x y => InsP P ((x : Rat), (y : Rat))) (th + tl + (finL - e0.f)) := by
  have xl := side_x R hl (.inl rfl) (sideW_low R hl ul) h0 IL
  have xh := side_x R hh (.inr rfl) (sideW_high R hh uh) h1 IH
  have ll := IL.le
  have lh := IH.le
  have key : th = sr (hgt highU hi) e0.f finL := by
    rw [IH.sum]
    by_cases z : e0.f < finL
    · have a := (xh e0.f).mp ((xl e0.f).mpr ⟨Int.le_refl _, z⟩)
      have b := (xh (finL - 1)).mp ((xl (finL - 1)).mpr ⟨by omega, by omega⟩)
      have c := (xl e1.f).mp ((xh e1.f).mpr ⟨Int.le_refl _, by omega⟩)
      have d := (xl (finH - 1)).mp ((xh (finH - 1)).mpr ⟨by omega, by omega⟩)
      rw [show e1.f = e0.f by omega, show finH = finL by omega]
    · have w : ¬ e1.f < finH := fun w => by
        have := (xl e1.f).mp ((xh e1.f).mpr ⟨Int.le_refl _, w⟩)
        omega
      rw [show finL = e0.f by omega, show finH = e1.f by omega, sr_self, sr_self]
  have e : th + tl + (finL - e0.f) = sr (fun x => hgt highU hi x - hgt lowC lo x + 1) e0.f finL := by
    rw [key, IL.sum, sr_congr (g := fun x => hgt highU hi x - hgt lowC lo x + 1) (g' := fun x => (hgt highU hi x + (- hgt lowC lo x)) + 1) (fun x _ _ => by omega), sr_plus (fun x => hgt highU hi x + (- hgt lowC lo x)) (fun _ => 1), sr_plus, sr_const _ _ _ ll]
    omega
  rw [e]
  have at_ : ∀ x, e0.f ≤ x → x < finL → ∃ e ∈ lo, ∃ e' ∈ hi, covers x e ∧ covers x e' ∧ hgt lowC lo x = lowC e x ∧ hgt highU hi x = highU e' x := fun x a b => by
    have o := (xl x).mpr ⟨a, b⟩
    obtain ⟨e, he, c⟩ := hl.cov R (.inl rfl) o
    obtain ⟨e', he', c'⟩ := hh.cov R (.inr rfl) o
    exact ⟨e, he, e', he', c, c', hgt_is he c (fun e he e' he' c c' => low_one R hl he he' c c'), hgt_is he' c' (fun e he e' he' c c' => high_one R hh he he' c c')⟩
  refine Cnt.of ll (fun x y => ?_) (fun x a b => ?_)
  · constructor
    · intro i
      have o : OverX P x := R.ins_wide i
      have ab := (xl x).mp o
      obtain ⟨e, he, e', he', c, c', e1, e2⟩ := at_ x ab.1 ab.2
      rw [e1, e2]
      exact ⟨ab, (ins_by R hl hh he he' c c' y).mp i⟩
    · rintro ⟨ab, i⟩
      obtain ⟨e, he, e', he', c, c', e1, e2⟩ := at_ x ab.1 ab.2
      rw [e1, e2] at i
      exact (ins_by R hl hh he he' c c' y).mpr i
  · obtain ⟨e, he, e', he', c, c', e1, e2⟩ := at_ x a b
    rw [e1, e2]
    obtain ⟨k, hk, ef⟩ := hl.of e he
    obtain ⟨l, hl', ef'⟩ := hh.of e' he'
    apply Classical.byContradiction
    intro no
    have g := R.gap (y := ((lowC e x - 1 : Int) : Rat)) ((ef.2.1 x).mp c.1) ((ef.2.2.1 x).mp c.2) ef.1 ((ef'.2.1 x).mp c'.1) ((ef'.2.2.1 x).mp c'.2) ef'.1
    have u := ef.2.2.2.low ef.1 x (lowC e x - 1)
    have v := ef'.2.2.2.high ef'.1 x (lowC e x - 1)
    have v' : 0 ≤ cr (cor P l) (cor P (l + 1)) ((x : Rat), ((lowC e x - 1 : Int) : Rat)) := g (fun z => by
      have := u.mp z
      unfold lowC at this
      omega)
    have := v.mp v'
    unfold highU at no
    omega
/-! edges where they stand -/
def EgAt (H : Hp) (v : V) (e : Eg) : Prop := ∃ p q, v = .ref p ∧ H p = some (.tup [.int e.f, .int e.l, .ref q]) ∧ H q = some (.tup [.int e.a, .int e.b, .int e.m])
theorem EgAt.ex {H H' : Hp} {v : V} {e : Eg} (h : EgAt H v e) (x : Ex H H') : EgAt H' v e := by
  obtain ⟨p, q, rfl, a, b⟩ := h
  exact ⟨p, q, rfl, x.at a, x.at b⟩
theorem EgAt.kpL {H H' : Hp} {d : Addr} {v : V} {e : Eg} {ys : List V} (h : EgAt H v e) (k : Kp d H H') (D : H d = some (.lst ys)) : EgAt H' v e := by
  obtain ⟨p, q, rfl, a, b⟩ := h
  exact ⟨p, q, rfl, k.tupL D a, k.tupL D b⟩
structure EgsAt (H : Hp) (l : Addr) (es : List (V × Eg)) : Prop where
  l : H l = some (.lst (es.map (·.1)))
  e : ∀ e ∈ es, EgAt H e.1 e.2
theorem EgsAt.ex {H H' : Hp} {l : Addr} {es : List (V × Eg)} (h : EgsAt H l es) (x : Ex H H') : EgsAt H' l es := ⟨x.at h.l, fun e he => (h.e e he).ex x⟩
/-! sorted edges -/
def egD (e : Eg) : PyData := .tuple [.int e.f, .int e.l, .tuple [.int e.a, .int e.b, .int e.m]]
theorem egD_dp {K : PySem.W.Frag} {H : Hp} {v : V} {e : Eg} (h : EgAt H v e) : Dp K H v (egD e) := by
  obtain ⟨p, q, rfl, a, b⟩ := h
  exact .tup (SqT.of a) (.cons (.int _) (.cons (.int _) (.cons (.tup (SqT.of b) (.cons (.int _) (.cons (.int _) (.cons (.int _) .nil)))) .nil)))
theorem egD_alike (e e' : Eg) : PySem.W.alike (egD e) (egD e') = true := by
  simp [egD, PySem.W.alike, PySem.W.alikeAll]
theorem egD_depth (e : Eg) : (egD e).depth ≤ 60 := by
  simp [egD, PyData.depth, PyData.depthAll]
theorem egD_le {e e' : Eg} (h : PySem.W.dataLe false (fun (d : PyData) => d) (egD e) (egD e') = true) : e.f ≤ e'.f := by
  have h : (!PySem.W.dataLt (egD e') (egD e)) = true := h
  unfold egD at h
  rw [PySem.W.dataLt_tuple, PySem.W.dataLt_cons (by simp [PySem.W.alike])] at h
  by_cases z : e'.f = e.f
  · omega
  · rw [if_neg (by simp [PyData.eqv, z]), PySem.W.dataLt_int] at h
    simp at h
    exact h
theorem r_sortE {K : PySem.W.Frag} {H : Hp} {Q : VK} {l : Addr} {es : List (V × Eg)} (h : EgsAt H l es)
    (k : ∀ p H1 es', H p = none → Ex H H1 → EgsAt H1 p es' → es'.Perm es → (es'.map (·.2)).Pairwise (fun e e' => e.f ≤ e'.f) → Q (.ref p) H1) : rSortD K [.ref l] H Q := by
  have m1 : (es.map fun e => (e.1, egD e.2)).map (·.1) = es.map (·.1) := by rw [List.map_map]; rfl
  refine ⟨l, es.map fun e => (e.1, egD e.2), rfl, SqL.of (by rw [m1]; exact h.l), ?_, ?_, ?_, ?_, fun p hp => ?_⟩
  · intro b hb
    obtain ⟨e, he, rfl⟩ := List.mem_map.mp hb
    exact egD_dp (h.e e he)
  · rw [List.map_map]
    exact PySem.W.AllAlike.of fun b b' => egD_alike _ _
  · rw [List.map_map]
    exact PySem.W.Sortable.tuples fun b => ⟨_, _, rfl⟩
  · intro b hb
    obtain ⟨e, he, rfl⟩ := List.mem_map.mp hb
    exact egD_depth _
  · have sm : (es.map fun e => (e.1, egD e.2)).mergeSort (PySem.W.dataLe false (·.2)) = (es.mergeSort (PySem.W.dataLe false fun e => egD e.2)).map fun e => (e.1, egD e.2) := (PySem.W.sort_maps (fun e : V × Eg => (e.1, egD e.2)) (fun a _ b _ => rfl)).symm
    rw [sm, List.map_map]
    have pm := List.mergeSort_perm es (PySem.W.dataLe false fun e => egD e.2)
    have x : Ex H (upd H p (.lst (((es.mergeSort (PySem.W.dataLe false fun e => egD e.2)).map ((·.1) ∘ fun e => (e.1, egD e.2)))))) := Ex.new hp
    refine k p _ (es.mergeSort (PySem.W.dataLe false fun e => egD e.2)) hp x ⟨upd_same, fun e he => (h.e e (pm.mem_iff.mp he)).ex x⟩ pm ?_
    rw [List.pairwise_map]
    have tl : PySem.W.TotalLe (PySem.W.dataLe false fun e : V × Eg => egD e.2) := PySem.W.sortLe_total _ _ _
    exact (PySem.W.sort_pairwise tl es).imp fun {a b} h => egD_le h

--@ needs RingW
/-! comprehensions over lists of things of which more is known -/
theorem lc_prF {β : Type} {K : PySem.W.Frag} {σ : L2.St} {H : Hp} {Q : VK} {te : TE} {tt : TT} {a : Addr} {es : List (V × β)} {j : Nat} {vs : List Nat} (c : V × β → Bool) (f : V × β → V) (hx : SqL K H a (es.map (·.1))) (hn : es.length ≤ 100000) (hw : ∀ x, wipe ((wipe σ vs).set j (some x)) vs = wipe σ vs)
    (ht : ∀ e ∈ es, PureT tt ((wipe σ vs).set j (some e.1)) H (c e)) (he : ∀ e ∈ es, c e = true → PureE te ((wipe σ vs).set j (some e.1)) H (f e))
    (k : ∀ p H1, H p = none → Ex H H1 → H1 p = some (.lst ((es.filter c).map f)) → Q (.ref p) H1) : LcB (Itl K a) (gName j) tt te vs σ H Q := fun Dl hD => by
  refine lc_list (xs := es.map (·.1)) (fun i H' => Ex H H' ∧ H' Dl = some (.lst (((es.take i).filter c).map f))) ⟨Ex.new hD, upd_same⟩ (fun i H' _ p => sql_up p.1 hx) (fun i x H' hi p => ?_) (fun H' p => k Dl H' hD p.1 (by rw [p.2, List.length_map, List.take_length]))
  rw [List.getElem?_map] at hi
  obtain ⟨z, hz, rfl⟩ := Option.map_eq_some_iff.mp hi
  have mem := List.mem_of_getElem? hz
  have tk : es.take (i + 1) = es.take i ++ [z] := by rw [List.take_add_one, hz]; rfl
  refine ⟨hw _, ht z mem H' p.1 _ fun H2 e2 => ?_⟩
  cases hc : c z with
  | true =>
    rw [if_pos rfl]
    refine he z mem hc H2 (p.1.trans e2) _ fun H3 e3 => ⟨_, e3 _ _ (e2 _ _ p.2), ?_, ?_⟩
    · rw [List.length_map]
      have := List.length_filter_le c (es.take i)
      rw [List.length_take] at this
      exact len_lt (by omega)
    · refine ⟨fun b o hb => ?_, ?_⟩
      · rw [upd_ne (ne_of_none hb hD)]
        exact e3 _ _ (e2 _ _ (p.1 _ _ hb))
      · rw [upd_same, tk, List.filter_append, List.map_append]
        simp [hc]
  | false =>
    rw [if_neg Bool.false_ne_true]
    refine ⟨p.1.trans e2, ?_⟩
    rw [tk, List.filter_append, List.map_append]
    simp [hc, e2 _ _ p.2]
/-- the line of an edge, as it stands -/
def lnV (H : Hp) : V → V
  | .ref p => match H p with
    | some (.tup [_, _, q]) => q
    | _ => .non
  | _ => .non
def rowE (e : Eg) : List Int := [e.a, e.b, e.m]
theorem lnV_rows {H H' : Hp} : ∀ {es : List (V × Eg)}, (∀ e ∈ es, EgAt H e.1 e.2) → Ex H H' → RowsA H' (es.map fun e => lnV H e.1) (es.map fun e => rowE e.2)
  | [], _, _ => trivial
  | e :: es, h, x => by
    obtain ⟨p, q, v, a, b⟩ := h e List.mem_cons_self
    refine ⟨⟨q, ?_, x.at b⟩, lnV_rows (fun e he => h e (List.mem_cons_of_mem _ he)) x⟩
    show lnV H e.1 = .ref q
    rw [v]
    show (match H p with | some (.tup [_, _, q]) => q | _ => V.non) = .ref q
    rw [a]
/-! what points_in and points_at tell -/
def ringS (cs : List Cn) (x y : Int) : Prop := InsP (pts cs) ((x : Rat), (y : Rat))
def AtX (cs : List Cn) (x : Int) : Option (Int × Int) → Prop
  | none => ∀ y, ¬ ringS cs x y
  | some r => r.1 ≤ r.2 ∧ ∀ y, ringS cs x y ↔ r.1 ≤ y ∧ y ≤ r.2
theorem AtX.uniq {cs : List Cn} {x : Int} : ∀ {r r' : Option (Int × Int)}, AtX cs x r → AtX cs x r' → r = r'
  | none, none, _, _ => rfl
  | none, some r, h, h' => absurd ((h'.2 r.1).mpr ⟨Int.le_refl _, h'.1⟩) (h _)
  | some r, none, h, h' => absurd ((h.2 r.1).mpr ⟨Int.le_refl _, h.1⟩) (h' _)
  | some (a, b), some (c, d), h, h' => by
    have ab : a ≤ b := h.1
    have cd : c ≤ d := h'.1
    have h1 : ∀ y, (a ≤ y ∧ y ≤ b) ↔ (c ≤ y ∧ y ≤ d) := fun y => (h.2 y).symm.trans (h'.2 y)
    have e1 := (h1 a).mp ⟨Int.le_refl _, ab⟩
    have e2 := (h1 b).mp ⟨ab, Int.le_refl _⟩
    have e3 := (h1 c).mpr ⟨Int.le_refl _, cd⟩
    have e4 := (h1 d).mpr ⟨cd, Int.le_refl _⟩
    rw [show a = c by omega, show b = d by omega]
/-- the sides of a ring, from the left -/
structure Sides2 (cs : List Cn) (lo hi : List Eg) : Prop where
  r : RingP (pts cs)
  l : SideE (pts cs) 0 lo
  h : SideE (pts cs) 1 hi
  ul : lo.Pairwise fun e e' => e.f ≤ e'.f
  uh : hi.Pairwise fun e e' => e.f ≤ e'.f
theorem ringI_low {cs : List Cn} (ok : ∀ c ∈ cs, OkC c) (I : RingI cs) {lo : List Eg} (h : SideE (pts cs) 0 lo) : ∃ e, lo[0]? = some e := by
  have R := ((ringI_iff ok).mp I).1
  obtain ⟨k, hk, _, _, k3⟩ := R.low_at (x := (cor (pts cs) 0).1) (i := 0) (j := 0) Rat.le_refl Rat.le_refl
  obtain ⟨e, he, _⟩ := h.ex k hk k3
  cases lo with
  | nil => exact absurd he List.not_mem_nil
  | cons e l => exact ⟨e, rfl⟩
theorem ringI_high {cs : List Cn} (ok : ∀ c ∈ cs, OkC c) (I : RingI cs) {hi : List Eg} (h : SideE (pts cs) 1 hi) : ∃ e, hi[0]? = some e := by
  have R := ((ringI_iff ok).mp I).1
  obtain ⟨k, hk, _, _, k3⟩ := R.high_at (x := (cor (pts cs) 0).1) (i := 0) (j := 0) Rat.le_refl Rat.le_refl
  obtain ⟨e, he, _⟩ := h.ex k hk k3
  cases hi with
  | nil => exact absurd he List.not_mem_nil
  | cons e l => exact ⟨e, rfl⟩
theorem RingI.len {cs : List Cn} (I : RingI cs) : 0 < cs.length := by have := I.1; omega
theorem sideL_szE {rs : List (V × Cn)} {side : Int} (n0 : 0 < rs.length) (z : ∀ r ∈ rs, SzC r.2) : ∀ e ∈ sideL (rcs rs) side rs.length, szE e := fun e he => by
  have n0' : 0 < (rcs rs).length := by unfold rcs; rw [List.length_map]; exact n0
  have z' : ∀ k, SzC (cI (rcs rs) k) := fun k => by
    obtain ⟨r, hr, e⟩ := List.mem_map.mp (cI_mem n0' k)
    rw [← e]
    exact z r hr
  obtain ⟨k, _, h⟩ := List.mem_filterMap.mp he
  unfold egI at h
  split at h
  · exact egO_sz (z' _) (z' _) h
  · exact egO_sz (z' _) (z' _) h
/-- at x, by the first edges over x -/
theorem atX_of {cs : List Cn} {lo hi : List Eg} (S : Sides2 cs lo hi) {x : Int} {e e' : Eg} {ls hs : List Eg} (hl : (lo.filter fun e => decide (covers x e)) = e :: ls) (hh : (hi.filter fun e => decide (covers x e)) = e' :: hs) :
    AtX cs x (if lowC e x > highU e' x then none else some (lowC e x, highU e' x)) := by
  have m1 : e ∈ lo.filter fun e => decide (covers x e) := by rw [hl]; exact List.mem_cons_self
  have m2 : e' ∈ hi.filter fun e => decide (covers x e) := by rw [hh]; exact List.mem_cons_self
  rw [List.mem_filter] at m1 m2
  have i := ins_by S.r S.l S.h m1.1 m2.1 (of_decide_eq_true m1.2) (of_decide_eq_true m2.2)
  split
  · intro y hy
    have := (i y).mp hy
    omega
  · exact ⟨by show lowC e x ≤ highU e' x; omega, i⟩
theorem atX_no {cs : List Cn} {lo hi : List Eg} (S : Sides2 cs lo hi) {x : Int} (hl : (lo.filter fun e => decide (covers x e)) = []) : AtX cs x none := fun y hy => by
  have o : OverX (pts cs) x := S.r.ins_wide hy
  obtain ⟨e, he, c⟩ := S.l.cov S.r (.inl rfl) o
  have := List.filter_eq_nil_iff.mp hl e he
  exact this (decide_eq_true c)
theorem atX_yes {cs : List Cn} {lo hi : List Eg} (S : Sides2 cs lo hi) {x : Int} {e : Eg} {ls : List Eg} (hl : (lo.filter fun e => decide (covers x e)) = e :: ls) : ∃ e' hs, (hi.filter fun e => decide (covers x e)) = e' :: hs := by
  have m1 : e ∈ lo.filter fun e => decide (covers x e) := by rw [hl]; exact List.mem_cons_self
  rw [List.mem_filter] at m1
  have c := of_decide_eq_true m1.2
  obtain ⟨e', he', c'⟩ := S.h.cov S.r (.inr rfl) (S.l.over m1.1 m1.1 c.1 c.2)
  cases h : hi.filter fun e => decide (covers x e) with
  | nil => exact absurd (decide_eq_true c') (List.filter_eq_nil_iff.mp h e' he')
  | cons a b => exact ⟨a, b, rfl⟩

--@ needs LedgV Paper LowsL PapT Hts LB PrL
/-! told lists, as data -/
mutual
inductive Dt (H : Hp) : V → PyData → Prop
  | int (i : Int) : Dt H (.int i) (.int i)
  | non : Dt H .non .none
  | tup {a : Addr} {xs : List V} {ds : List PyData} : H a = some (.tup xs) → DtAll H xs ds → Dt H (.ref a) (.tuple ds)
inductive DtAll (H : Hp) : List V → List PyData → Prop
  | nil : DtAll H [] []
  | cons {v : V} {vs : List V} {d : PyData} {ds : List PyData} : Dt H v d → DtAll H vs ds → DtAll H (v :: vs) (d :: ds)
end
mutual
theorem Dt.imp {H H' : Hp} (f : ∀ (p : Addr) (xs : List V), H p = some (.tup xs) → H' p = some (.tup xs)) : ∀ {d : PyData} {v : V}, Dt H v d → Dt H' v d
  | .int _, _, h => by cases h; exact .int _
  | .none, _, h => by cases h; exact .non
  | .tuple ds, _, h => by
    cases h with
    | tup h1 h2 => exact .tup (f _ _ h1) (DtAll.imp f h2)
  | .bool _, _, h => by cases h
  | .str _, _, h => by cases h
  | .list _, _, h => by cases h
  | .dict _, _, h => by cases h
theorem DtAll.imp {H H' : Hp} (f : ∀ (p : Addr) (xs : List V), H p = some (.tup xs) → H' p = some (.tup xs)) : ∀ {ds : List PyData} {vs : List V}, DtAll H vs ds → DtAll H' vs ds
  | [], _, h => by cases h; exact .nil
  | d :: ds, _, h => by
    cases h with
    | cons h1 h2 => exact .cons (Dt.imp f h1) (DtAll.imp f h2)
end
mutual
theorem Dt.dp {K : PySem.W.Frag} {H : Hp} : ∀ {d : PyData} {v : V}, Dt H v d → Dp K H v d
  | .int _, _, h => by cases h; exact .int _
  | .none, _, h => by cases h; exact .non
  | .tuple ds, _, h => by
    cases h with
    | tup h1 h2 => exact .tup (SqT.of h1) (DtAll.dp h2)
  | .bool _, _, h => by cases h
  | .str _, _, h => by cases h
  | .list _, _, h => by cases h
  | .dict _, _, h => by cases h
theorem DtAll.dp {K : PySem.W.Frag} {H : Hp} : ∀ {ds : List PyData} {vs : List V}, DtAll H vs ds → DpAll K H vs ds
  | [], _, h => by cases h; exact .nil
  | d :: ds, _, h => by
    cases h with
    | cons h1 h2 => exact .cons (Dt.dp h1) (DtAll.dp h2)
end
theorem DtAll.len {H : Hp} : ∀ {ds : List PyData} {vs : List V}, DtAll H vs ds → vs.length = ds.length
  | [], _, h => by cases h; rfl
  | d :: ds, _, h => by
    cases h with
    | cons h1 h2 => rw [List.length_cons, List.length_cons, DtAll.len h2]
theorem DtAll.snoc {H : Hp} {v : V} {d : PyData} (h : Dt H v d) : ∀ {ds : List PyData} {vs : List V}, DtAll H vs ds → DtAll H (vs ++ [v]) (ds ++ [d])
  | [], _, h' => by cases h'; exact .cons h .nil
  | e :: ds, _, h' => by
    cases h' with
    | cons h1 h2 => exact .cons h1 (DtAll.snoc h h2)
theorem dt_ints {H : Hp} : ∀ xs : List Int, DtAll H (xs.map V.int) (xs.map PyData.int)
  | [] => .nil
  | x :: xs => .cons (.int x) (dt_ints xs)
theorem dt_rows {H : Hp} : ∀ {vs : List V} {rs : List (List Int)}, RowsA H vs rs → DtAll H vs (rs.map rowD)
  | [], [], _ => .nil
  | _ :: _, r :: _, ⟨⟨p, e, h⟩, g⟩ => by
    subst e
    exact .cons (.tup h (dt_ints r)) (dt_rows g)
  | [], _ :: _, h => h.elim
  | _ :: _, [], h => h.elim
theorem dt_ents {F : Hp} : ∀ {vs : List V} {es : List Ent}, EntsA F vs es → DtAll F vs (es.map entD)
  | [], [], _ => .nil
  | _ :: _, e :: _, ⟨⟨p, s, h, h1, h2⟩, r⟩ => by
    subst h
    exact .cons (.tup h1 (.cons (.tup h2 (dt_ints [e.a, e.b, e.m])) (dt_ints [e.k, e.n, e.t]))) (dt_ents r)
  | [], _ :: _, h => h.elim
  | _ :: _, [], h => h.elim
/-- a list of such data -/
structure Okd (ds : List PyData) : Prop where
  eq : PyData.eqvAll ds ds = true
  lay : PyData.canLayAll0 ds = true
  dep : PyData.depthAll ds ≤ 4
theorem okd_ints (xs : List Int) : Okd (xs.map PyData.int) := ⟨by rw [eqv_ints]; exact decide_eq_true rfl, lay_ints xs, by have := dep_ints xs; omega⟩
theorem okd_rows (rs : List (List Int)) : Okd (rs.map rowD) := ⟨by rw [eqv_rows]; exact decide_eq_true rfl, lay_rows rs, by have := dep_rows rs; omega⟩
theorem okd_ents (es : List Ent) : Okd (es.map entD) := ⟨by rw [eqv_ents]; exact decide_eq_true rfl, lay_ents es, by have := dep_ents es; omega⟩
def Lsd (H : Hp) (l : Addr) (ds : List PyData) : Prop := ∃ vs, H l = some (.lst vs) ∧ DtAll H vs ds ∧ vs.length ≤ 20000
theorem Lsd.ex {H H' : Hp} {l : Addr} {ds : List PyData} (h : Lsd H l ds) (e : Ex H H') : Lsd H' l ds := by
  obtain ⟨vs, a, b, c⟩ := h
  exact ⟨vs, e.at a, b.imp fun _ _ q => e.at q, c⟩
theorem Lsd.kpL {H H' : Hp} {l m : Addr} {ds : List PyData} {ys : List V} (h : Lsd H l ds) (k : Kp m H H') (D : H m = some (.lst ys)) (n : l ≠ m) : Lsd H' l ds := by
  obtain ⟨vs, a, b, c⟩ := h
  exact ⟨vs, k _ _ n a, b.imp fun _ _ q => k.tupL D q, c⟩
def LsdA (H : Hp) : List Addr → List (List PyData) → Prop
  | [], [] => True
  | l :: ls, d :: ds => Lsd H l d ∧ LsdA H ls ds
  | _, _ => False
theorem LsdA.ex {H H' : Hp} (e : Ex H H') : ∀ {ls : List Addr} {ds : List (List PyData)}, LsdA H ls ds → LsdA H' ls ds
  | [], [], _ => trivial
  | _ :: _, _ :: _, ⟨h, r⟩ => ⟨h.ex e, LsdA.ex e r⟩
  | [], _ :: _, h => h.elim
  | _ :: _, [], h => h.elim
theorem LsdA.kpL {H H' : Hp} {m : Addr} {ys : List V} (k : Kp m H H') (D : H m = some (.lst ys)) : ∀ {ls : List Addr} {ds : List (List PyData)}, m ∉ ls → LsdA H ls ds → LsdA H' ls ds
  | [], [], _, _ => trivial
  | l :: ls, _ :: _, n, ⟨h, r⟩ => ⟨h.kpL k D (fun z => n (by rw [z]; exact List.mem_cons_self)), LsdA.kpL k D (fun z => n (List.mem_cons_of_mem _ z)) r⟩
  | [], _ :: _, _, h => h.elim
  | _ :: _, [], _, h => h.elim
theorem LsdA.len {H : Hp} : ∀ {ls : List Addr} {ds : List (List PyData)}, LsdA H ls ds → ls.length = ds.length
  | [], [], _ => rfl
  | _ :: _, _ :: _, ⟨_, r⟩ => by rw [List.length_cons, List.length_cons, LsdA.len r]
  | [], _ :: _, h => h.elim
  | _ :: _, [], h => h.elim
theorem LsdA.at {H : Hp} : ∀ {ls : List Addr} {ds : List (List PyData)} {i : Nat} {l : Addr}, LsdA H ls ds → ls[i]? = some l → ∃ d, ds[i]? = some d ∧ Lsd H l d
  | l :: ls, d :: ds, 0, _, ⟨h, _⟩, g => ⟨d, rfl, by cases g; exact h⟩
  | l :: ls, d :: ds, i + 1, _, ⟨_, h⟩, g => LsdA.at (i := i) h g
  | [], _, _, _, _, g => by simp at g
  | _ :: _, [], _, _, h, _ => h.elim
theorem LsdA.app {H : Hp} {l : Addr} {d : List PyData} (hl : Lsd H l d) : ∀ {ls : List Addr} {ds : List (List PyData)}, LsdA H ls ds → LsdA H (ls ++ [l]) (ds ++ [d])
  | [], [], _ => ⟨hl, trivial⟩
  | _ :: _, _ :: _, ⟨h, r⟩ => ⟨h, LsdA.app hl r⟩
  | [], _ :: _, h => h.elim
  | _ :: _, [], h => h.elim
theorem dpl_all {K : PySem.W.Frag} {H : Hp} : ∀ {ls : List Addr} {ds : List (List PyData)}, LsdA H ls ds → DpAll K H (ls.map V.ref) (ds.map PyData.list)
  | [], [], _ => .nil
  | _ :: _, _ :: _, ⟨⟨vs, a, b, _⟩, r⟩ => .cons (.lst (SqL.of a) b.dp) (dpl_all r)
  | [], _ :: _, h => h.elim
  | _ :: _, [], h => h.elim
def Okds (dss : List (List PyData)) : Prop := ∀ ds ∈ dss, Okd ds
theorem okds_eq : ∀ {dss : List (List PyData)}, Okds dss → PyData.eqvAll (dss.map PyData.list) (dss.map PyData.list) = true
  | [], _ => rfl
  | d :: ds, h => by
    show (PyData.eqv (.list d) (.list d) && PyData.eqvAll (ds.map PyData.list) (ds.map PyData.list)) = true
    rw [okds_eq fun x hx => h x (List.mem_cons_of_mem _ hx), Bool.and_true]
    unfold PyData.eqv
    exact (h d List.mem_cons_self).eq
theorem okds_lay : ∀ {dss : List (List PyData)}, Okds dss → PyData.canLayAll0 (dss.map PyData.list) = true
  | [], _ => rfl
  | d :: ds, h => by
    show (PyData.canLay0 (.list d) && PyData.canLayAll0 (ds.map PyData.list)) = true
    rw [okds_lay fun x hx => h x (List.mem_cons_of_mem _ hx), Bool.and_true]
    unfold PyData.canLay0
    exact (h d List.mem_cons_self).lay
theorem okds_dep : ∀ {dss : List (List PyData)}, Okds dss → PyData.depthAll (dss.map PyData.list) ≤ 5
  | [], _ => Nat.zero_le _
  | d :: ds, h => by
    show max (PyData.depth (.list d)) (PyData.depthAll (ds.map PyData.list)) ≤ 5
    have := okds_dep fun x hx => h x (List.mem_cons_of_mem _ hx)
    have := (h d List.mem_cons_self).dep
    unfold PyData.depth
    omega
theorem okds_shp {dss : List (List PyData)} (h : Okds dss) : SeqAt.shaped (.list (dss.map PyData.list)) = true := by
  unfold SeqAt.shaped
  rw [Bool.and_eq_true]
  refine ⟨?_, decide_eq_true ?_⟩
  · unfold PyData.canLay0
    exact okds_lay h
  · unfold PyData.depth
    have := okds_dep h
    omega
/-- two lists of lists of the same data are equal -/
theorem r_neLsd {K : PySem.W.Frag} {H : Hp} {Q : VK} {p q : Addr} {ls ls' : List Addr} {dss : List (List PyData)} (hp : H p = some (.lst (ls.map V.ref))) (hq : H q = some (.lst (ls'.map V.ref))) (h : LsdA H ls dss) (h' : LsdA H ls' dss) (ok : Okds dss) (k : Q (.bl false) H) : rNeD K (.ref p) (.ref q) H Q :=
  r_neD (.lst (SqL.of hp) (dpl_all h)) (.lst (SqL.of hq) (dpl_all h')) (okds_shp ok) (okds_shp ok) (by
    have e : PyData.eqv (.list (dss.map PyData.list)) (.list (dss.map PyData.list)) = true := by
      unfold PyData.eqv
      exact okds_eq ok
    rw [e]
    exact k)
theorem cl_listOfK {X : Cx} {K : PySem.W.Frag} (h : X.K = K := by rfl) : CallR X (.type "list") (rListOf K) := h ▸ cl_listOf
/-- what _law_told tells -/
def ToldP (a b m n : Int) (es : List Ent) (dss : List (List PyData)) : Prop := ∃ rs runs rs0 place low, Gpr n a b m rs ∧ (RunsP a b m (max 1 n) runs ∧ endOf b m runs = (place, low) ∧ Least a b m (max 1 n) low place) ∧ Gpr 0 1 0 1 rs0 ∧
  dss = [(hts a b m 3 40).map PyData.int, rs.map rowD, runs.map rowD, [[1, 2, 3, 4, 5], [0, 0, 1, -1, 0]].map rowD, es.map entD, rs0.map rowD] ∧ rs.length ≤ 5000 ∧ runs.length ≤ 5000 ∧ rs0.length ≤ 5000 ∧ es.length ≤ 5000
theorem ToldP.uniq {a b m n : Int} {es : List Ent} {dss dss' : List (List PyData)} (n0 : 0 ≤ n) (h : ToldP a b m n es dss) (h' : ToldP a b m n es dss') : dss = dss' := by
  obtain ⟨rs, runs, rs0, pl, lo, h1, ⟨h2, h3, h4⟩, h5, rfl, _⟩ := h
  obtain ⟨rs', runs', rs0', pl', lo', g1, ⟨g2, g3, g4⟩, g5, rfl, _⟩ := h'
  rw [h1.one g1, h5.one g5, (runs_one (by omega) h2 h3 h4).symm.trans (runs_one (by omega) g2 g3 g4)]
theorem ToldP.ok {a b m n : Int} {es : List Ent} {dss : List (List PyData)} (h : ToldP a b m n es dss) : Okds dss := by
  obtain ⟨rs, runs, rs0, pl, lo, h1, ⟨h2, h3, h4⟩, h5, rfl, _⟩ := h
  intro ds hd
  simp only [List.mem_cons, List.not_mem_nil, or_false] at hd
  rcases hd with rfl | rfl | rfl | rfl | rfl | rfl
  · exact okd_ints _
  · exact okd_rows _
  · exact okd_rows _
  · exact okd_rows _
  · exact okd_ents _
  · exact okd_rows _
theorem RowsO.a {H : Hp} : ∀ {xs : List V} {rs : List (List Int)}, RowsO H xs (rs.map fun r => r.map some) → RowsA H xs rs
  | [], [], _ => trivial
  | [], r :: rs, h => by have := h.1; simp at this
  | x :: xs, [], h => by have := h.1; simp at this
  | x :: xs, r :: rs, h => by
    refine ⟨?_, RowsO.a (xs := xs) (rs := rs) ⟨?_, fun i v g => ?_⟩⟩
    · obtain ⟨p, r', e, g, hp⟩ := h.2 0 x rfl
      have g : some (r.map some) = some r' := g
      cases g
      refine ⟨p, e, ?_⟩
      rw [hp, List.map_map]
      rfl
    · have := h.1
      simpa using this
    · obtain ⟨p, r', e, g', hp⟩ := h.2 (i + 1) v g
      exact ⟨p, r', e, g', hp⟩
theorem hts_len57 (a b m k : Int) (n : Nat) : ((hts a b m k n).map V.int).length = n := by
  unfold hts
  simp
theorem Lsd.rows {H : Hp} {l : Addr} {rs : List (List Int)} (h : RwL H l rs) (n : rs.length ≤ 20000) : Lsd H l (rs.map rowD) := by
  obtain ⟨vs, a, b⟩ := h
  exact ⟨vs, a, dt_rows b, by rw [b.len]; exact n⟩
theorem Lsd.ne {H : Hp} {l m : Addr} {ds : List PyData} (h : Lsd H l ds) (n : H m = none) : l ≠ m := by
  obtain ⟨vs, a, _⟩ := h
  exact ne_of_none a n
theorem ToldP.len {a b m n : Int} {es : List Ent} {dss : List (List PyData)} (h : ToldP a b m n es dss) : ∀ ds ∈ dss, ds.length ≤ 5000 := by
  obtain ⟨rs, runs, rs0, pl, lo, h1, ⟨h2, h3, h4⟩, h5, rfl, l1, l2, l3, l4⟩ := h
  intro ds hd
  simp only [List.mem_cons, List.not_mem_nil, or_false] at hd
  rcases hd with rfl | rfl | rfl | rfl | rfl | rfl
  · rw [List.length_map]
    unfold hts
    simp
  · rw [List.length_map]; exact l1
  · rw [List.length_map]; exact l2
  · decide
  · rw [List.length_map]; exact l4
  · rw [List.length_map]; exact l3
/-! a list of lists out of a list of lists -/
theorem lc_lsd {K : PySem.W.Frag} {σ : L2.St} {H : Hp} {Q : VK} {te : TE} {a : Addr} {xs : List V} {j : Nat} {vs : List Nat} (dss : List (List PyData)) (hl : dss.length = xs.length) (hx : SqL K H a xs) (hn : xs.length ≤ 100000) (hw : ∀ x, wipe ((wipe σ vs).set j (some x)) vs = wipe σ vs)
    (he : ∀ (i : Nat) x d, xs[i]? = some x → dss[i]? = some d → ∀ H1, Ex H H1 → ∀ Q : VK, (∀ l H2, H1 l = none → Ex H1 H2 → Lsd H2 l d → Q (.ref l) H2) → te ((wipe σ vs).set j (some x)) H1 Q)
    (k : ∀ p H1 ls, H p = none → Ex H H1 → H1 p = some (.lst (ls.map V.ref)) → LsdA H1 ls dss → (∀ l ∈ ls, H l = none) → (p :: ls).Nodup → Q (.ref p) H1) : LcB (Itl K a) (gName j) tYes te vs σ H Q := fun Dl hD => by
  refine lc_list (xs := xs) (fun i H' => Ex H H' ∧ ∃ ls : List Addr, H' Dl = some (.lst (ls.map V.ref)) ∧ LsdA H' ls (dss.take i) ∧ (∀ l ∈ ls, H l = none) ∧ (Dl :: ls).Nodup) ⟨Ex.new hD, [], upd_same, by rw [List.take_zero]; exact trivial, fun l hl => absurd hl List.not_mem_nil, by simp⟩ (fun i H' _ p => sql_up p.1 hx) (fun i x H' hi p => ?_) (fun H' p => ?_)
  · obtain ⟨e, ls, hd, la, fr, nd⟩ := p
    have lt := (List.getElem?_eq_some_iff.mp hi).1
    have gr : dss[i]? = some dss[i] := List.getElem?_eq_getElem (by omega)
    refine ⟨hw _, tYes_k ?_⟩
    rw [if_pos rfl]
    refine he i x dss[i] hi gr H' e _ fun l H2 nl e2 d2 => ⟨_, e2 _ _ hd, ?_, ?_⟩
    · rw [List.length_map, la.len, List.length_take]
      exact len_lt (by omega)
    · have lD : l ≠ Dl := (ne_of_none hd nl).symm
      have kp : Kp Dl H2 (upd H2 Dl (.lst (ls.map V.ref ++ [.ref l]))) := Kp.upd
      refine ⟨fun b o hb => ?_, ls ++ [l], ?_, ?_, ?_, ?_⟩
      · rw [upd_ne (ne_of_none hb hD)]
        exact e2 _ _ (e _ _ hb)
      · rw [upd_same, List.map_append]
        rfl
      · have tk : dss.take (i + 1) = dss.take i ++ [dss[i]] := by rw [List.take_add_one, gr]; rfl
        rw [tk]
        rw [List.nodup_cons] at nd
        exact ((la.ex e2).kpL kp (e2 _ _ hd) nd.1).app (d2.kpL kp (e2 _ _ hd) lD)
      · intro z hz
        rcases List.mem_append.mp hz with hz | hz
        · exact fr z hz
        · rw [List.mem_singleton.mp hz]
          exact free_back e nl
      · rw [← List.cons_append, List.nodup_append]
        refine ⟨nd, by simp, fun z hz y hy => ?_⟩
        rw [List.mem_singleton.mp hy]
        rcases List.mem_cons.mp hz with rfl | hz
        · exact lD.symm
        · obtain ⟨q, hq⟩ := List.getElem?_of_mem hz
          obtain ⟨_, _, g⟩ := la.at hq
          exact g.ne nl
  · obtain ⟨e, ls, hd, la, fr, nd⟩ := p
    rw [← hl, List.take_length] at la
    exact k Dl H' ls hD e hd la fr nd
/-- some of the lists are one longer -/
def PtW (H : Hp) (ls : List Addr) (dss : List (List PyData)) (i : Nat) : Prop := ∀ (j : Nat) l, ls[j]? = some l → ∃ d, dss[j]? = some d ∧ Lsd H l (if j < i then d ++ [.int 7] else d)
theorem LsdA.pt {H : Hp} {ls : List Addr} {dss : List (List PyData)} (h : LsdA H ls dss) : PtW H ls dss 0 := fun j l hj => by
  obtain ⟨d, hd, z⟩ := h.at hj
  exact ⟨d, hd, by rw [if_neg (Nat.not_lt_zero _)]; exact z⟩
theorem PtW.ex {H H' : Hp} {ls : List Addr} {dss : List (List PyData)} {i : Nat} (h : PtW H ls dss i) (e : Ex H H') : PtW H' ls dss i := fun j l hj => by
  obtain ⟨d, hd, z⟩ := h j l hj
  exact ⟨d, hd, z.ex e⟩
theorem PtW.step {H H' : Hp} {ls : List Addr} {dss : List (List PyData)} {i : Nat} {l : Addr} {vs : List V} (h : PtW H ls dss i) (nd : ls.Nodup) (hi : ls[i]? = some l) (hv : H l = some (.lst vs)) (k : Kp l H H') (hv' : H' l = some (.lst (vs ++ [.int 7]))) (hn : vs.length < 20000) : PtW H' ls dss (i + 1) := fun j l' hj => by
  obtain ⟨d, hd, z⟩ := h j l' hj
  by_cases c : j = i
  · subst c
    rw [hi] at hj
    cases hj
    refine ⟨d, hd, ?_⟩
    rw [if_neg (Nat.lt_irrefl _)] at z
    rw [if_pos (Nat.lt_succ_self _)]
    obtain ⟨us, a, b, c⟩ := z
    rw [hv] at a
    cases a
    exact ⟨_, hv', DtAll.snoc (.int 7) (b.imp fun _ _ q => k.tupL hv q), by rw [List.length_append, List.length_singleton]; omega⟩
  · refine ⟨d, hd, ?_⟩
    have nl : l' ≠ l := fun e => by
      subst e
      exact c ((List.getElem?_inj (List.getElem?_eq_some_iff.mp hj).1 nd).mp (hj.trans hi.symm))
    have e : (if j < i + 1 then d ++ [PyData.int 7] else d) = if j < i then d ++ [PyData.int 7] else d := by
      by_cases c2 : j < i
      · rw [if_pos c2, if_pos (by omega)]
      · rw [if_neg c2, if_neg (by omega)]
    rw [e]
    exact z.kpL k hv nl
theorem cut_m1 (xs : List V) (v : V) : cutV (xs ++ [v]) none (some (-1)) = xs := by
  unfold cutV
  have e1 : HT.sIx (xs ++ [v]).length 0 none = 0 := rfl
  have e2 : HT.sIx (xs ++ [v]).length (xs ++ [v]).length (some (-1)) = xs.length := by
    show (if (-1 : Int) < 0 then ((-1 : Int) + ((xs ++ [v]).length : Int)).toNat else min (-1 : Int).toNat (xs ++ [v]).length) = _
    rw [if_pos (by decide), List.length_append, List.length_singleton]
    omega
  rw [e1, e2]
  simp
theorem DtAll.unsnoc {H : Hp} {e : PyData} : ∀ {ds : List PyData} {vs : List V}, DtAll H vs (ds ++ [e]) → ∃ us v, vs = us ++ [v] ∧ DtAll H us ds
  | [], _, h => by
    cases h with
    | cons h1 h2 =>
      cases h2
      exact ⟨[], _, rfl, .nil⟩
  | d :: ds, _, h => by
    cases h with
    | cons h1 h2 =>
      obtain ⟨us, v, e, z⟩ := DtAll.unsnoc h2
      exact ⟨_ :: us, v, by rw [e]; rfl, .cons h1 z⟩
/-! k57: a ledger of three entries -/
structure S57 (C : Addr) (F H : Hp) (x fl d ps : Addr) (a b m : Int) (es : List Ent) (hs : List (List Ent)) : Prop where
  L : LgAt C F H x fl es hs
  Z : Fz F H x fl
  D : Dr H d
  fd : F d = none
  ne : fl ≠ d
  s : F ps = some (.tup [.int a, .int b, .int m])
theorem S57.ex {C : Addr} {F H H' : Hp} {x fl d ps : Addr} {a b m : Int} {es : List Ent} {hs : List (List Ent)} (S : S57 C F H x fl d ps a b m es hs) (e : Ex H H') : S57 C F H' x fl d ps a b m es hs := ⟨S.L.ex e, ⟨S.Z.sub.trans e, S.Z.np, S.Z.nf⟩, S.D.up e, S.fd, S.ne, S.s⟩
theorem S57.draw {C : Addr} {F H H' : Hp} {x fl d ps : Addr} {a b m : Int} {es : List Ent} {hs : List (List Ent)} (S : S57 C F H x fl d ps a b m es hs) (k : Kp d H H') (D' : Dr H' d) : S57 C F H' x fl d ps a b m es hs := by
  obtain ⟨ys, hys⟩ := S.D.lst
  exact ⟨S.L.kpL k hys S.ne, ⟨S.Z.sub.kpd S.fd k, S.Z.np, S.Z.nf⟩, D', S.fd, S.ne, S.s⟩
theorem S57.put {C : Addr} {F H F' H' : Hp} {x fl d ps : Addr} {a b m : Int} {es es' : List Ent} {hs hs' : List (List Ent)} (S : S57 C F H x fl d ps a b m es hs) (G : Gr F H F') (k : Kq [x, fl] H H') (Z' : Fz F' H' x fl) (L' : LgAt C F' H' x fl es' hs') : S57 C F' H' x fl d ps a b m es' hs' := by
  obtain ⟨u, v, hu, hv⟩ := S.D
  exact ⟨L', Z', ⟨u, v, S.L.lst k S.ne.symm hu, hv⟩, G.none hu S.fd, S.ne, G.ex.at S.s⟩
theorem Gpr.len57 {n a b m : Int} {rs : List (List Int)} (h : Gpr n a b m rs) (k : Nat) (hm : m < 2 ^ k) : rs.length ≤ 2 * k + 1 := by
  induction k generalizing n a b m rs with
  | zero =>
    have := h.m0
    have : (2 : Int) ^ 0 = 1 := rfl
    omega
  | succ k ih =>
    obtain ⟨rest, rfl, c⟩ := h.head
    rw [List.length_cons]
    rcases c with rfl | ⟨n', b', c⟩
    · rw [List.length_nil]; omega
    · obtain ⟨rest', rfl, c'⟩ := c.head
      rw [List.length_cons]
      rcases c' with rfl | ⟨n'', b'', c'⟩
      · rw [List.length_nil]; omega
      · have r0 := c.m0
        have lt := Int.emod_lt_of_pos a h.m0
        have hf := half_mod (x := m) r0 (by omega)
        have e : (2 : Int) ^ (k + 1) = 2 ^ k * 2 := rfl
        have := ih c' (by omega)
        omega
theorem Gpr.sz57 {n a b m : Int} {rs : List (List Int)} (h : Gpr n a b m rs) (hn : 0 ≤ n) (zn : Sz 620 n) (za : Sz 620 a) (zb : Sz 620 b) (zm : Sz 620 m) : ∀ r ∈ rs, r.length ≤ 10 ∧ ∀ x ∈ r, Sz 1900 x := by
  induction h with
  | @last n a b m h0 h1 =>
    intro r hr
    rw [List.mem_singleton.mp hr]
    refine ⟨by simp, fun x hx => ?_⟩
    simp only [List.mem_cons, List.not_mem_nil, or_false] at hx
    rcases hx with rfl | rfl | rfl | rfl | rfl
    · exact zn.mono (by decide)
    · exact za.mono (by decide)
    · exact zb.mono (by decide)
    · exact zm.mono (by decide)
    · exact (za.div h0).mono (by decide)
  | @more n a b m rs h0 h1 h2 ih =>
    have r0 := Int.emod_nonneg a (show m ≠ 0 by omega)
    have r1 := Int.emod_lt_of_pos a h0
    have s0 := Int.emod_nonneg b (show m ≠ 0 by omega)
    have s1 := Int.emod_lt_of_pos b h0
    have t0 := Int.emod_nonneg (a % m * n + b % m) (show m ≠ 0 by omega)
    have t1 := Int.emod_lt_of_pos (a % m * n + b % m) h0
    have y0 : 0 ≤ (a % m * n + b % m) / m := Int.ediv_nonneg (by have := Int.mul_nonneg r0 hn; omega) (by omega)
    have y1 : (a % m * n + b % m) / m < n + 1 := by
      rw [Int.ediv_lt_iff_lt_mul h0]
      have : a % m * n ≤ m * n := Int.mul_le_mul_of_nonneg_right (by omega) hn
      rw [Int.add_mul, Int.one_mul, Int.mul_comm n m]
      omega
    intro r hr
    rcases List.mem_cons.mp hr with rfl | hr
    · refine ⟨by simp, fun x hx => ?_⟩
      simp only [List.mem_cons, List.not_mem_nil, or_false] at hx
      rcases hx with rfl | rfl | rfl | rfl | rfl
      · exact zn.mono (by decide)
      · exact za.mono (by decide)
      · exact zb.mono (by decide)
      · exact zm.mono (by decide)
      · exact (za.div h0).mono (by decide)
    · exact ih y0 (zn.le (by omega) (by omega)) zm (zm.le (by omega) (by omega)) (zm.le (by omega) (by omega)) r hr
/-- a ring as data -/
def cnD (c : Cn) : PyData := .tuple [.tuple [.int c.1.1, .int c.1.2], .tuple [.int c.2.1, .int c.2.2]]
theorem CnAt.dt {H : Hp} {v : V} {c : Cn} (h : CnAt H v c) : Dt H v (cnD c) := by
  obtain ⟨p, u, w, rfl, hp, ⟨q, rfl, hq⟩, r, rfl, hr⟩ := h
  exact .tup hp (.cons (.tup hq (dt_ints [c.1.1, c.1.2])) (.cons (.tup hr (dt_ints [c.2.1, c.2.2])) .nil))
def ring57 : List Cn := [((0, 1), (0, 1)), ((9, 1), (0, 1)), ((0, 1), (7, 2))]
theorem ring57_ok : RingI ring57 := by
  unfold RingI
  decide +kernel
theorem ring57_z : ∀ c ∈ ring57, SzC c := by
  intro c hc
  unfold ring57 at hc
  simp only [List.mem_cons, List.not_mem_nil, or_false] at hc
  rcases hc with rfl | rfl | rfl
  all_goals exact ⟨⟨by decide, (Sz.lit).mono (by decide), by show Int.natAbs _ < 2 ^ 30; decide⟩, by decide, (Sz.lit).mono (by decide), by show Int.natAbs _ < 2 ^ 30; decide⟩
theorem okd_ring57 : Okd (ring57.map cnD) := ⟨by rfl, by rfl, by decide⟩
theorem r_told57 {K : PySem.W.Frag} {H : Hp} {Q : VK} {p q : Addr} {x y : Int} {l : List Nat} (h : H p = some (.lst [.bl true, .int x, .str (SX.S l), .int y])) (h' : H q = some (.lst [.bl true, .int x, .str (SX.S l), .int y])) (ok : okT l) (k : Q (.bl true) H) : rEqD K (.ref p) (.ref q) H Q := by
  have dp : DpAll K H [.bl true, .int x, .str (SX.S l), .int y] [.bool true, .int x, .str (SX.S l), .int y] := .cons (.bl true) (.cons (.int x) (.cons (.str _) (.cons (.int y) .nil)))
  have sh : SeqAt.shaped (.list [.bool true, .int x, .str (SX.S l), .int y]) = true := by
    unfold SeqAt.shaped
    rw [Bool.and_eq_true]
    refine ⟨?_, decide_eq_true ?_⟩
    · unfold PyData.canLay0
      show (true && (true && (PyData.canLay0 (.str (SX.S l)) && (true && true)))) = true
      rw [strOk_S ok]
      rfl
    · simp [PyData.depth, PyData.depthAll]
  refine r_eqD (.lst (SqL.of h) dp) (.lst (SqL.of h') dp) sh sh ?_
  have e : PyData.eqv (.list [.bool true, .int x, .str (SX.S l), .int y]) (.list [.bool true, .int x, .str (SX.S l), .int y]) = true := by
    simp [PyData.eqv, PyData.eqvAll]
  rw [e]
  exact k

def sp_law_told (_ : PySem.W.Frag) (C : Addr) : Sp := fun vs H Q _ => ∃ (ps lp fl : Addr) (a b m n : Int) (F : Hp) (es : List Ent) (hs : List (List Ent)), vs = [.ref ps, .int n, .ref lp] ∧ H ps = some (.tup [.int a, .int b, .int m]) ∧ 0 < m ∧ Sz 620 a ∧ Sz 620 b ∧ Sz 200 m ∧ 0 ≤ n ∧ n < 1000000000000000000000000000000 ∧ LgAt C F H lp fl es hs ∧ Ex F H ∧ es.length ≤ 200 ∧
  ∀ p ls dss H', H p = none → Ex H H' → (∀ l ∈ ls, H l = none) → (p :: ls).Nodup → H' p = some (.lst (ls.map V.ref)) → LsdA H' ls dss → ToldP a b m n es dss → Q (.ref p) H'
theorem use_law_told {K : PySem.W.Frag} {C : Addr} {H : Hp} {Q : VK} {E : XK} {ps lp fl : Addr} {a b m n : Int} {F : Hp} {es : List Ent} {hs : List (List Ent)} (hp : H ps = some (.tup [.int a, .int b, .int m])) (m0 : 0 < m) (za : Sz 620 a) (zb : Sz 620 b) (zm : Sz 200 m) (n0 : 0 ≤ n) (n1 : n < 1000000000000000000000000000000) (L : LgAt C F H lp fl es hs) (eF : Ex F H) (el : es.length ≤ 200)
  (q : ∀ p ls dss H', H p = none → Ex H H' → (∀ l ∈ ls, H l = none) → (p :: ls).Nodup → H' p = some (.lst (ls.map V.ref)) → LsdA H' ls dss → ToldP a b m n es dss → Q (.ref p) H') : sp_law_told K C [.ref ps, .int n, .ref lp] H Q E := ⟨ps, lp, fl, a, b, m, n, F, es, hs, rfl, hp, m0, za, zb, zm, n0, n1, L, eF, el, q⟩
abbrev s_law_told : Stmt := topS 66
abbrev nm_law_told : List Str := ["stair", "n", "ledger", "paper", "found"]
theorem sc_law_told : FnScope nm_law_told ["stair", "n", "ledger"] (defScope s_law_told) := ⟨rfl, rfl, rfl, by decide +kernel, rfl, by decide +kernel, by decide +kernel⟩
theorem st_law_told {v0 v1 v2 : V} : start nm_law_told [v0, v1, v2] = [some v0, some v1, some v2, none, none] := rfl
section
variable {P : Program} {w : World} {K : PySem.W.Frag} {mg : Str → Option Value} {base : Heap}
theorem ok_law_told {C_Ledger : Addr} (D : DefAt K mg "_law_told" s_law_told ["stair", "n", "ledger"]) (U_Ledger : TxC K mg "Ledger" C_Ledger ["kept", "now_worth", "former"]) (B_max : mg "max" = none) (G_paper_of : Has P w K mg base CX0 5 "paper_of" ["stair", "n"] (sp_paper_of K)) (G_read_paper : Has P w K mg base CX0 3 "read_paper" ["text"] (sp_read_paper K)) (G_lows : Has P w K mg base CX0 115 "lows" ["stair", "n"] (sp_lows K)) (G_heights : Has P w K mg base CX0 5 "heights" ["stair", "k", "n"] (sp_heights K)) (G_Ledger_entries : HasM P w K mg base CX0 2 C_Ledger "entries" ["self"] (sp_Ledger_entries K C_Ledger)) : Has P w K mg base CX0 116 "_law_told" ["stair", "n", "ledger"] (sp_law_told K C_Ledger) := by
  refine D.ok sc_law_told (by rintro _ _ _ _ ⟨_, _, _, _, _, _, _, _, _, _, rfl, _⟩; rfl) (fun f cdv A outer s H vs Q E hr h => ?_)
  obtain ⟨cl_Ledger, mg_Ledger, n_Ledger_kept, n_Ledger_now_worth, n_Ledger_former, _⟩ := U_Ledger
  obtain ⟨ps, lp, fl, a, b, m, n, F, es, hs, rfl, hp, m0, za, zb, zm, n0, n1, L, eF, el, q⟩ := h
  refine ⟨_, (pss_cons (ps_set (i := 3) sc_law_told.nd rfl (Or.inl rfl) (pcall G_paper_of (hr.mono (by decide)) (pa_cons (pv 0) (pa_cons (pv 1) pa_nil))))
      (pss_cons (ps_set (i := 4) sc_law_told.nd rfl (Or.inl rfl) (pe_lst (pa_cons (pcall G_heights (hr.mono (by decide)) (pa_cons (pv 0) (pa_cons pe_int (pa_cons pe_int pa_nil)))) (pa_cons (pv 3) (pa_cons (pcall G_lows (hr.mono (by decide)) (pa_cons (pv 0) (pa_cons (pe_callB (cl_max2 rfl) (by rfl) B_max (by decide +kernel) (pa_cons pe_int (pa_cons (pv 1) pa_nil))) pa_nil))) (pa_cons (pcall G_read_paper (hr.mono (by decide)) (pa_cons pe_str pa_nil)) pa_nil))))))
      (pss_one (ps_ret (pe_op op_cat (pv 4) (pe_lst (pa_cons (pmeth0 cl_Ledger G_Ledger_entries (hr.mono (by decide)) (pv 2)) (pa_cons (pcall G_paper_of (hr.mono (by decide)) (pa_cons (pe_tup (pa_cons pe_int (pa_cons pe_int (pa_cons pe_int pa_nil)))) (pa_cons pe_int pa_nil))) pa_nil)))))))), ?_⟩
  rw [st_law_told]
  try dsimp only [Cx.nox, Cx.wish, Cx.blk, cx_K]
  walk_at "go"
  refine use_paper_of hp m0 (za.mono (by decide)) (zb.mono (by decide)) (zm.mono (by decide)) n0 n1 fun l1 rs H1 f1 e1 R1 _ k1 G1 => ?_
  walk_at "go"
  refine use_heights (e1.at hp) m0 (za.mono (by decide)) (zm.mono (by decide)) (k := 3) (by walk_at "szm") (by decide) (by decide) fun l2 H2 f2 e2 h2 => ?_
  have E2 := e1.trans e2
  walk_at "go"
  refine use_lows (E2.at hp) m0 (za.mono (by decide)) (zb.mono (by decide)) zm (by omega) (by omega) fun l3 runs place low H3 f3 e3 R3 P3 o3 L3 k3 => ?_
  have E3 := E2.trans e3
  walk_at "go"
  rw [show Str.ofString "1 2 3 4 5\n0 0 1 -1 0" = SX.S (lit "1 2 3 4 5\n0 0 1 -1 0") from lit_S _]
  refine use_read_paper (by decide +kernel) (by decide +kernel) fun l4 us H4 f4 e4 h4 R4 => ?_
  have E4 := E3.trans e4
  have f4' := free_back E3 f4
  have rw4 : rowsT (lit "1 2 3 4 5\n0 0 1 -1 0") = [[some 1, some 2, some 3, some 4, some 5], [some 0, some 0, some 1, some (-1), some 0]] := by decide +kernel
  rw [rw4] at R4
  walk_at "go"
  rename_i l5 H5 f5 e5 h5
  have E5 := E4.trans e5
  have L5 := L.grow E5 (Ex.refl (H := F))
  obtain ⟨⟨_, _, hxx, _⟩, _, hff, _⟩ := id L5
  walk_at "go"
  refine use_Ledger_entries L5 (eF.trans E5) fun l6 H6 vs6 f6 e6 h6 A6 => ?_
  have E6 := E5.trans e6
  walk_at "go"
  rename_i l7 H7 f7 e7 h7
  have E7 := E6.trans e7
  refine use_paper_of h7 (by decide) (by walk_at "szm") (by walk_at "szm") (by walk_at "szm") (by decide) (by decide) fun l8 rs0 H8 f8 e8 R8 _ k8 G8 => ?_
  have E8 := E7.trans e8
  walk_at "go"
  rename_i l9 H9 f9 e9 h9
  have E9 := E8.trans e9
  have h5 := ((((e6.trans e7).trans e8).trans e9)).at h5
  refine r_catL h5 h9 (show 4 + 2 ≤ 100000 by decide) fun l10 H10 f10 e10 h10 => ?_
  have E10 := E9.trans e10
  walk_at "go"
  have d1 : Lsd H1 l1 (rs.map rowD) := Lsd.rows R1 (by omega)
  have d2 : Lsd H2 l2 ((hts a b m 3 40).map PyData.int) := ⟨_, h2, dt_ints _, by rw [hts_len57]; decide⟩
  have d3 : Lsd H3 l3 (runs.map rowD) := Lsd.rows R3 (by omega)
  have d4 : Lsd H4 l4 ([[1, 2, 3, 4, 5], [0, 0, 1, -1, 0]].map rowD) := ⟨us, h4, dt_rows (RowsO.a (rs := [[1, 2, 3, 4, 5], [0, 0, 1, -1, 0]]) R4), by rw [R4.1]; decide⟩
  have d6 : Lsd H6 l6 (es.map entD) := ⟨vs6, h6, dt_ents (A6.ex (eF.trans E6)), by rw [A6.len]; omega⟩
  have d8 : Lsd H8 l8 (rs0.map rowD) := Lsd.rows R8 (by omega)
  have n12 := d1.ne f2
  have n13 := (d1.ex e2).ne f3
  have d1 := (d1.ex e2).ex e3
  have n23 := d2.ne f3
  have d2 := d2.ex e3
  have n14 := d1.ne f4
  have n24 := d2.ne f4
  have n34 := d3.ne f4
  have d1 := (d1.ex e4).ex e5
  have d2 := (d2.ex e4).ex e5
  have d3 := (d3.ex e4).ex e5
  have d4 := d4.ex e5
  have n16 := d1.ne f6
  have n26 := d2.ne f6
  have n36 := d3.ne f6
  have n46 := d4.ne f6
  have d1 := (d1.ex e6).ex e7
  have d2 := (d2.ex e6).ex e7
  have d3 := (d3.ex e6).ex e7
  have d4 := (d4.ex e6).ex e7
  have d6 := d6.ex e7
  have n18 := d1.ne f8
  have n28 := d2.ne f8
  have n38 := d3.ne f8
  have n48 := d4.ne f8
  have n68 := d6.ne f8
  have d1 := (d1.ex e8).ex e9
  have d2 := (d2.ex e8).ex e9
  have d3 := (d3.ex e8).ex e9
  have d4 := (d4.ex e8).ex e9
  have d6 := (d6.ex e8).ex e9
  have d8 := d8.ex e9
  have m1 := d1.ne f10
  have m2 := d2.ne f10
  have m3 := d3.ne f10
  have m4 := d4.ne f10
  have m6 := d6.ne f10
  have m8 := d8.ne f10
  refine q l10 [l2, l1, l3, l4, l6, l8] [(hts a b m 3 40).map PyData.int, rs.map rowD, runs.map rowD, [[1, 2, 3, 4, 5], [0, 0, 1, -1, 0]].map rowD, es.map entD, rs0.map rowD] H10 (free_back E9 f10) E10 ?_ ?_ h10 ⟨d2.ex e10, d1.ex e10, d3.ex e10, d4.ex e10, d6.ex e10, d8.ex e10, trivial⟩ ⟨rs, runs, rs0, place, low, G1, ⟨P3, o3, L3⟩, G8, rfl, by omega, by omega, by omega, by omega⟩
  · intro l hl
    simp only [List.mem_cons, List.not_mem_nil, or_false] at hl
    rcases hl with rfl | rfl | rfl | rfl | rfl | rfl
    · exact free_back e1 f2
    · exact f1
    · exact free_back E2 f3
    · exact f4'
    · exact free_back E5 f6
    · exact free_back E7 f8
  · simp only [List.nodup_cons, List.mem_cons, List.not_mem_nil, or_false, not_or, not_false_eq_true, and_true, List.nodup_nil]
    exact ⟨⟨m2.symm, m1.symm, m3.symm, m4.symm, m6.symm, m8.symm⟩, ⟨n12.symm, n23, n24, n26, n28⟩, ⟨n13, n14, n16, n18⟩, ⟨n34, n36, n38⟩, ⟨n46, n48⟩, n68⟩

end
def sp_divisor (_ : PySem.W.Frag) : Sp := fun vs H Q _ => ∃ (x y : Int), vs = [.int x, .int y] ∧ Q (.int (Int.gcd x y : Int)) H
theorem use_divisor {K : PySem.W.Frag} {H : Hp} {Q : VK} {E : XK} {x y : Int} (q : Q (.int (Int.gcd x y : Int)) H) : sp_divisor K [.int x, .int y] H Q E := ⟨x, y, rfl, q⟩
abbrev s_divisor : Stmt := topS 12
abbrev nm_divisor : List Str := ["one", "other"]
theorem sc_divisor : FnScope nm_divisor ["one", "other"] (defScope s_divisor) := ⟨rfl, rfl, rfl, by decide +kernel, rfl, by decide +kernel, by decide +kernel⟩
theorem st_divisor {v0 v1 : V} : start nm_divisor [v0, v1] = [some v0, some v1] := rfl
section
variable {P : Program} {w : World} {K : PySem.W.Frag} {mg : Str → Option Value} {base : Heap}
theorem ok_divisor (D : DefAt K mg "divisor" s_divisor ["one", "other"]) (B_abs : mg "abs" = none) : Has P w K mg base CX0 2 "divisor" ["one", "other"] (sp_divisor K) := by
  refine D.ok sc_divisor (by rintro _ _ _ _ ⟨_, _, rfl, _⟩; rfl) (fun f cdv A outer s H vs Q E hr h => ?_)
  obtain ⟨x, y, rfl, q⟩ := h
  refine ⟨_, (pss_cons (ps_set (i := 0) sc_divisor.nd rfl (Or.inl rfl) (pe_callB cl_abs (by rfl) B_abs (by decide +kernel) (pa_cons (pv 0) pa_nil)))
      (pss_cons (ps_set (i := 1) sc_divisor.nd rfl (Or.inl rfl) (pe_callB cl_abs (by rfl) B_abs (by decide +kernel) (pa_cons (pv 1) pa_nil)))
      (pss_cons (ps_while PassesOwn.never (pt_cmpR op_gt (pv 1) pe_int (nomark _)) (pss_one (ps_par (i := 0) (j := 1) (by rfl) sc_divisor.nd rfl rfl (by decide) rfl rfl (pa_cons (pv 1) (pa_cons (pe_op op_mod (pv 0) (pv 1)) pa_nil)) (by rfl))))
      (pss_one (ps_ret (pv 0)))))), ?_⟩
  rw [st_divisor]
  try dsimp only [Cx.nox, Cx.wish, Cx.blk, cx_K]
  walk_at "go"
  refine while_m (fun μ σ H' => H' = H ∧ ∃ (u v : Nat), σ = [some (.int (u : Int)), some (.int (v : Int))] ∧ μ = v ∧ Nat.gcd u v = Int.gcd x y) y.natAbs ⟨rfl, x.natAbs, y.natAbs, rfl, rfl, rfl⟩ ?_
  rintro v σ H1 ⟨eH, u, v', rfl, rfl, e⟩
  walk_at "go"
  refine if_2 (fun hx => ?_) (fun hx => ?_)
  · have hx := of_decide_eq_true hx
    refine r_body (fun σ H' => H' = H ∧ σ = [some (.int (v : Int)), some (.int ((u % v : Nat) : Int))]) ?_ ?_
    · rintro σ H2 ⟨e2, rfl⟩
      exact ⟨u % v, Nat.mod_lt _ (by omega), e2, v, u % v, rfl, rfl, by rw [gcd_step, e]⟩
    walk_at "go"
    exact ⟨eH, rfl⟩
  · have hx := of_decide_eq_false hx
    walk_at "go"
    have ev : v = 0 := by omega
    subst ev
    rw [Nat.gcd_zero_right] at e
    rw [e, eH]
    exact q

end
def sp_fraction (_ : PySem.W.Frag) : Sp := fun vs H Q _ => ∃ (t b : Int), vs = [.int t, .int b] ∧ 0 < b ∧ Sz 8000 b ∧
  ∀ p H', H p = none → Ex H H' → FrAt H' (.ref p) (frd (t, b)) → Q (.ref p) H'
theorem use_fraction {K : PySem.W.Frag} {H : Hp} {Q : VK} {E : XK} {t b : Int} (hb : 0 < b) (zb : Sz 8000 b)
    (q : ∀ p H', H p = none → Ex H H' → FrAt H' (.ref p) (frd (t, b)) → Q (.ref p) H') : sp_fraction K [.int t, .int b] H Q E := ⟨t, b, rfl, hb, zb, q⟩
abbrev s_fraction : Stmt := topS 42
abbrev nm_fraction : List Str := ["top", "bottom", "by"]
theorem sc_fraction : FnScope nm_fraction ["top", "bottom"] (defScope s_fraction) := ⟨rfl, rfl, rfl, by decide +kernel, rfl, by decide +kernel, by decide +kernel⟩
theorem st_fraction {v0 v1 : V} : start nm_fraction [v0, v1] = [some v0, some v1, none] := rfl
section
variable {P : Program} {w : World} {K : PySem.W.Frag} {mg : Str → Option Value} {base : Heap}
theorem ok_fraction (D : DefAt K mg "fraction" s_fraction ["top", "bottom"]) (G_divisor : Has P w K mg base CX0 2 "divisor" ["one", "other"] (sp_divisor K)) : Has P w K mg base CX0 3 "fraction" ["top", "bottom"] (sp_fraction K) := by
  refine D.ok sc_fraction (by rintro _ _ _ _ ⟨_, _, rfl, _⟩; rfl) (fun f cdv A outer s H vs Q E hr h => ?_)
  obtain ⟨t, b, rfl, hb, zb, q⟩ := h
  refine ⟨_, (pss_cons (ps_set (i := 2) sc_fraction.nd rfl (Or.inl rfl) (pcall G_divisor (hr.mono (by decide)) (pa_cons (pv 0) (pa_cons (pv 1) pa_nil))))
      (pss_one (ps_ret (pe_tup (pa_cons (pe_op op_fdivW (pv 0) (pv 2)) (pa_cons (pe_op op_fdivW (pv 1) (pv 2)) pa_nil)))))), ?_⟩
  rw [st_fraction]
  try dsimp only [Cx.nox, Cx.wish, Cx.blk, cx_K]
  walk_at "go"
  refine use_divisor ?_
  have g := gcd_pos (a := t) hb
  have zg : Sz 8000 (Int.gcd t b : Int) := zb.le (by omega) (Int.gcd_le_right t hb)
  walk_at "go"
  rename_i p H1 n1 e1 h1
  exact q _ _ n1 e1 ⟨p, rfl, h1⟩

end
def sp_difference (_ : PySem.W.Frag) : Sp := fun vs H Q _ => ∃ (x y : V) (f g : Fq), vs = [x, y] ∧ FrAt H x f ∧ FrAt H y g ∧ SzF 2000 2000 f ∧ SzF 2000 2000 g ∧
  ∀ p H', H p = none → Ex H H' → FrAt H' (.ref p) (fDif f g) → Q (.ref p) H'
theorem use_difference {K : PySem.W.Frag} {H : Hp} {Q : VK} {E : XK} {x y : V} {f g : Fq} (hx : FrAt H x f) (hy : FrAt H y g) (zf : SzF 2000 2000 f) (zg : SzF 2000 2000 g)
    (q : ∀ p H', H p = none → Ex H H' → FrAt H' (.ref p) (fDif f g) → Q (.ref p) H') : sp_difference K [x, y] H Q E := ⟨x, y, f, g, rfl, hx, hy, zf, zg, q⟩
abbrev s_difference : Stmt := topS 43
abbrev nm_difference : List Str := ["one", "other"]
theorem sc_difference : FnScope nm_difference ["one", "other"] (defScope s_difference) := ⟨rfl, rfl, rfl, by decide +kernel, rfl, by decide +kernel, by decide +kernel⟩
theorem st_difference {v0 v1 : V} : start nm_difference [v0, v1] = [some v0, some v1] := rfl
section
variable {P : Program} {w : World} {K : PySem.W.Frag} {mg : Str → Option Value} {base : Heap}
theorem ok_difference (D : DefAt K mg "difference" s_difference ["one", "other"]) (G_fraction : Has P w K mg base CX0 3 "fraction" ["top", "bottom"] (sp_fraction K)) : Has P w K mg base CX0 4 "difference" ["one", "other"] (sp_difference K) := by
  refine D.ok sc_difference (by rintro _ _ _ _ ⟨_, _, _, _, rfl, _⟩; rfl) (fun f cdv A outer s H vs Q E hr h => ?_)
  obtain ⟨_, _, ⟨t, b⟩, ⟨u, c⟩, rfl, ⟨p1, rfl, h1⟩, ⟨p2, rfl, h2⟩, ⟨b0, zt, zb⟩, ⟨c0, zu, zc⟩, q⟩ := h
  dsimp only at h1 h2 b0 zt zb c0 zu zc
  refine ⟨_, (pss_one (ps_ret (pcall G_fraction (hr.mono (by decide)) (pa_cons (pe_op op_sub (pe_op op_mulX (pe_ix ix_tup (pv 0) pe_int (fun _ _ => rfl)) (pe_ix ix_tup (pv 1) pe_int (fun _ _ => rfl))) (pe_op op_mulX (pe_ix ix_tup (pv 1) pe_int (fun _ _ => rfl)) (pe_ix ix_tup (pv 0) pe_int (fun _ _ => rfl)))) (pa_cons (pe_op op_mulX (pe_ix ix_tup (pv 0) pe_int (fun _ _ => rfl)) (pe_ix ix_tup (pv 1) pe_int (fun _ _ => rfl))) pa_nil))))), ?_⟩
  rw [st_difference]
  try dsimp only [Cx.nox, Cx.wish, Cx.blk, cx_K]
  walk_at "go"
  refine use_fraction (Int.mul_pos b0 c0) ((zb.mul zc).mono (by decide)) fun p H1 n1 e1 h3 => ?_
  exact q _ _ n1 e1 h3

end
def sp_product_of (_ : PySem.W.Frag) : Sp := fun vs H Q _ => ∃ (x y : V) (f g : Fq), vs = [x, y] ∧ FrAt H x f ∧ FrAt H y g ∧ SzF 2000 2000 f ∧ SzF 2000 2000 g ∧
  ∀ p H', H p = none → Ex H H' → FrAt H' (.ref p) (fPro f g) → Q (.ref p) H'
theorem use_product_of {K : PySem.W.Frag} {H : Hp} {Q : VK} {E : XK} {x y : V} {f g : Fq} (hx : FrAt H x f) (hy : FrAt H y g) (zf : SzF 2000 2000 f) (zg : SzF 2000 2000 g)
    (q : ∀ p H', H p = none → Ex H H' → FrAt H' (.ref p) (fPro f g) → Q (.ref p) H') : sp_product_of K [x, y] H Q E := ⟨x, y, f, g, rfl, hx, hy, zf, zg, q⟩
abbrev s_product_of : Stmt := topS 44
abbrev nm_product_of : List Str := ["one", "other"]
theorem sc_product_of : FnScope nm_product_of ["one", "other"] (defScope s_product_of) := ⟨rfl, rfl, rfl, by decide +kernel, rfl, by decide +kernel, by decide +kernel⟩
theorem st_product_of {v0 v1 : V} : start nm_product_of [v0, v1] = [some v0, some v1] := rfl
section
variable {P : Program} {w : World} {K : PySem.W.Frag} {mg : Str → Option Value} {base : Heap}
theorem ok_product_of (D : DefAt K mg "product_of" s_product_of ["one", "other"]) (G_fraction : Has P w K mg base CX0 3 "fraction" ["top", "bottom"] (sp_fraction K)) : Has P w K mg base CX0 4 "product_of" ["one", "other"] (sp_product_of K) := by
  refine D.ok sc_product_of (by rintro _ _ _ _ ⟨_, _, _, _, rfl, _⟩; rfl) (fun f cdv A outer s H vs Q E hr h => ?_)
  obtain ⟨_, _, ⟨t, b⟩, ⟨u, c⟩, rfl, ⟨p1, rfl, h1⟩, ⟨p2, rfl, h2⟩, ⟨b0, zt, zb⟩, ⟨c0, zu, zc⟩, q⟩ := h
  dsimp only at h1 h2 b0 zt zb c0 zu zc
  refine ⟨_, (pss_one (ps_ret (pcall G_fraction (hr.mono (by decide)) (pa_cons (pe_op op_mulX (pe_ix ix_tup (pv 0) pe_int (fun _ _ => rfl)) (pe_ix ix_tup (pv 1) pe_int (fun _ _ => rfl))) (pa_cons (pe_op op_mulX (pe_ix ix_tup (pv 0) pe_int (fun _ _ => rfl)) (pe_ix ix_tup (pv 1) pe_int (fun _ _ => rfl))) pa_nil))))), ?_⟩
  rw [st_product_of]
  try dsimp only [Cx.nox, Cx.wish, Cx.blk, cx_K]
  walk_at "go"
  refine use_fraction (Int.mul_pos b0 c0) ((zb.mul zc).mono (by decide)) fun p H1 n1 e1 h3 => ?_
  exact q _ _ n1 e1 h3

end
def sp_hand_of (_ : PySem.W.Frag) : Sp := fun vs H Q _ => ∃ (x y z : V) (a b c : Cn), vs = [x, y, z] ∧ CnAt H x a ∧ CnAt H y b ∧ CnAt H z c ∧ SzC a ∧ SzC b ∧ SzC c ∧
  ∀ H', Ex H H' → Q (.int (handI a b c)) H'
theorem use_hand_of {K : PySem.W.Frag} {H : Hp} {Q : VK} {E : XK} {x y z : V} {a b c : Cn} (hx : CnAt H x a) (hy : CnAt H y b) (hz : CnAt H z c) (za : SzC a) (zb : SzC b) (zc : SzC c)
    (q : ∀ H', Ex H H' → Q (.int (handI a b c)) H') : sp_hand_of K [x, y, z] H Q E := ⟨x, y, z, a, b, c, rfl, hx, hy, hz, za, zb, zc, q⟩
abbrev s_hand_of : Stmt := topS 45
abbrev nm_hand_of : List Str := ["one", "other", "third", "first"]
theorem sc_hand_of : FnScope nm_hand_of ["one", "other", "third"] (defScope s_hand_of) := ⟨rfl, rfl, rfl, by decide +kernel, rfl, by decide +kernel, by decide +kernel⟩
theorem st_hand_of {v0 v1 v2 : V} : start nm_hand_of [v0, v1, v2] = [some v0, some v1, some v2, none] := rfl
section
variable {P : Program} {w : World} {K : PySem.W.Frag} {mg : Str → Option Value} {base : Heap}
theorem ok_hand_of (D : DefAt K mg "hand_of" s_hand_of ["one", "other", "third"]) (G_difference : Has P w K mg base CX0 4 "difference" ["one", "other"] (sp_difference K)) (G_product_of : Has P w K mg base CX0 4 "product_of" ["one", "other"] (sp_product_of K)) : Has P w K mg base CX0 5 "hand_of" ["one", "other", "third"] (sp_hand_of K) := by
  refine D.ok sc_hand_of (by rintro _ _ _ _ ⟨_, _, _, _, _, _, rfl, _⟩; rfl) (fun f cdv A outer s H vs Q E hr h => ?_)
  obtain ⟨_, _, _, a, b, c, rfl, ⟨pa, ua, wa, rfl, ha, fa1, fa2⟩, ⟨pb, ub, wb, rfl, hb, fb1, fb2⟩, ⟨pc, uc, wc, rfl, hc, fc1, fc2⟩, ⟨za1, za2⟩, ⟨zb1, zb2⟩, ⟨zc1, zc2⟩, q⟩ := h
  have y1 : SzF 331 60 (fDif b.1 a.1) := fDif_sz zb1 za1
  have y2 : SzF 331 60 (fDif c.2 a.2) := fDif_sz zc2 za2
  have y3 : SzF 331 60 (fDif b.2 a.2) := fDif_sz zb2 za2
  have y4 : SzF 331 60 (fDif c.1 a.1) := fDif_sz zc1 za1
  refine ⟨_, (pss_cons (ps_set (i := 3) sc_hand_of.nd rfl (Or.inl rfl) (pcall G_product_of (hr.mono (by decide)) (pa_cons (pcall G_difference (hr.mono (by decide)) (pa_cons (pe_ix ix_tup (pv 1) pe_int (fun _ _ => rfl)) (pa_cons (pe_ix ix_tup (pv 0) pe_int (fun _ _ => rfl)) pa_nil))) (pa_cons (pcall G_difference (hr.mono (by decide)) (pa_cons (pe_ix ix_tup (pv 2) pe_int (fun _ _ => rfl)) (pa_cons (pe_ix ix_tup (pv 0) pe_int (fun _ _ => rfl)) pa_nil))) pa_nil))))
      (pss_one (ps_ret (pe_ix ix_tup (pcall G_difference (hr.mono (by decide)) (pa_cons (pv 3) (pa_cons (pcall G_product_of (hr.mono (by decide)) (pa_cons (pcall G_difference (hr.mono (by decide)) (pa_cons (pe_ix ix_tup (pv 1) pe_int (fun _ _ => rfl)) (pa_cons (pe_ix ix_tup (pv 0) pe_int (fun _ _ => rfl)) pa_nil))) (pa_cons (pcall G_difference (hr.mono (by decide)) (pa_cons (pe_ix ix_tup (pv 2) pe_int (fun _ _ => rfl)) (pa_cons (pe_ix ix_tup (pv 0) pe_int (fun _ _ => rfl)) pa_nil))) pa_nil))) pa_nil))) pe_int (fun _ _ => rfl))))), ?_⟩
  rw [st_hand_of]
  try dsimp only [Cx.nox, Cx.wish, Cx.blk, cx_K]
  walk_at "go"
  refine use_difference fb1 fa1 zb1.mono za1.mono fun p1 H1 n1 e1 h1 => ?_
  walk_at "go"
  refine use_difference (fc2.ex e1) (fa2.ex e1) zc2.mono za2.mono fun p2 H2 n2 e2 h2 => ?_
  walk_at "go"
  refine use_product_of (h1.ex e2) h2 y1.mono y2.mono fun p3 H3 n3 e3 h3 => ?_
  have E3 := (e1.trans e2).trans e3
  clear e1 e2 e3
  walk_at "go"
  refine use_difference (fb2.ex E3) (fa2.ex E3) zb2.mono za2.mono fun p4 H4 n4 e4 h4 => ?_
  have E4 := E3.trans e4
  have h3 := h3.ex e4
  clear E3 e4
  walk_at "go"
  refine use_difference (fc1.ex E4) (fa1.ex E4) zc1.mono za1.mono fun p5 H5 n5 e5 h5 => ?_
  walk_at "go"
  refine use_product_of (h4.ex e5) h5 y3.mono y4.mono fun p6 H6 n6 e6 h6 => ?_
  have E6 := (E4.trans e5).trans e6
  have h3 := (h3.ex e5).ex e6
  clear E4 e5 e6
  walk_at "go"
  refine use_difference h3 h6 (fPro_sz y1 y2).mono (fPro_sz y3 y4).mono fun p7 H7 n7 e7 h7 => ?_
  obtain ⟨_, e, h7⟩ := h7
  cases e
  walk_at "go"
  exact q _ (E6.trans e7)

end
abbrev LEAST_CORNERS_val : Int := 3
abbrev MOST_CORNERS_val : Int := 20
def sp_need_ring (K : PySem.W.Frag) : Sp := fun vs H Q _ => ∃ (a : Addr) (rs : List (V × Cn)), vs = [.ref a] ∧ RgAt K H a rs ∧ RingI (rcs rs) ∧ ∀ H', Ex H H' → Q .non H'
theorem use_need_ring {K : PySem.W.Frag} {H : Hp} {Q : VK} {E : XK} {a : Addr} {rs : List (V × Cn)} (R : RgAt K H a rs) (I : RingI (rcs rs)) (q : ∀ H', Ex H H' → Q .non H') : sp_need_ring K [.ref a] H Q E := ⟨a, rs, rfl, R, I, q⟩
abbrev s_need_ring : Stmt := topS 46
abbrev nm_need_ring : List Str := ["ring", "k", "j"]
theorem sc_need_ring : FnScope nm_need_ring ["ring"] (defScope s_need_ring) := ⟨rfl, rfl, rfl, by decide +kernel, rfl, by decide +kernel, by decide +kernel⟩
theorem st_need_ring {v0 : V} : start nm_need_ring [v0] = [some v0, none, none] := rfl
section
variable {P : Program} {w : World} {K : PySem.W.Frag} {mg : Str → Option Value} {base : Heap}
theorem ok_need_ring (D : DefAt K mg "need_ring" s_need_ring ["ring"]) (B_len : mg "len" = none) (B_range : mg "range" = none) (T_LEAST_CORNERS : ∃ t, mg "LEAST_CORNERS" = some (.int LEAST_CORNERS_val t)) (T_MOST_CORNERS : ∃ t, mg "MOST_CORNERS" = some (.int MOST_CORNERS_val t)) (G_hand_of : Has P w K mg base CX0 5 "hand_of" ["one", "other", "third"] (sp_hand_of K)) : Has P w K mg base CX0 6 "need_ring" ["ring"] (sp_need_ring K) := by
  refine D.ok sc_need_ring (by rintro _ _ _ _ ⟨_, _, rfl, _⟩; rfl) (fun f cdv A outer s H vs Q E hr h => ?_)
  obtain ⟨_, T_LEAST_CORNERS⟩ := T_LEAST_CORNERS
  obtain ⟨_, T_MOST_CORNERS⟩ := T_MOST_CORNERS
  obtain ⟨a, rs, rfl, R, I, q⟩ := h
  have nl : (rs.map (·.1)).length = rs.length := List.length_map ..
  have nc : (rcs rs).length = rs.length := List.length_map ..
  obtain ⟨n3, n20, I⟩ := I
  rw [nc] at n3 n20 I
  have hl := R.l
  refine ⟨_, (pss_cons (ps_if (pt_not (pt_chain op_le op_le (pe_glob (v := .int (3)) rfl T_LEAST_CORNERS ⟨_, rfl⟩) (pe_callB cl_len (by rfl) B_len (by decide +kernel) (pa_cons (pv 0) pa_nil)) (pe_glob (v := .int (20)) rfl T_MOST_CORNERS ⟨_, rfl⟩))) (pss_one ps_never) pss_nil)
      (pss_one (ps_for PassesOwn.never rfl (pi_range1 rfl B_range (pa_cons (pe_callB cl_len (by rfl) B_len (by decide +kernel) (pa_cons (pv 0) pa_nil)) pa_nil)) (pg_name (i := 1) sc_need_ring.nd rfl (Or.inl rfl))
        (pss_one (ps_for PassesOwn.never rfl (pi_range1 rfl B_range (pa_cons (pe_callB cl_len (by rfl) B_len (by decide +kernel) (pa_cons (pv 0) pa_nil)) pa_nil)) (pg_name (i := 2) sc_need_ring.nd rfl (Or.inl rfl))
          (pss_one (ps_if (PW.pt (pw_and (pt_cmpR op_ne (pv 2) (pv 1) (nomark _)) (pw_and (pt_cmpR op_ne (pv 2) (pe_op op_mod (pe_op op_add (pv 1) pe_int) (pe_callB cl_len (by rfl) B_len (by decide +kernel) (pa_cons (pv 0) pa_nil))) (nomark _)) (pw_and1 (pt_cmpR op_le (pcall G_hand_of (hr.mono (by decide)) (pa_cons (pe_ix ix_list (pv 0) (pv 1) (fun _ _ => rfl)) (pa_cons (pe_ix ix_list (pv 0) (pe_op op_mod (pe_op op_add (pv 1) pe_int) (pe_callB cl_len (by rfl) B_len (by decide +kernel) (pa_cons (pv 0) pa_nil))) (fun _ _ => rfl)) (pa_cons (pe_ix ix_list (pv 0) (pv 2) (fun _ _ => rfl)) pa_nil)))) pe_int (nomark _)))))) (pss_one ps_never) pss_nil))))))), ?_⟩
  rw [st_need_ring]
  try dsimp only [Cx.nox, Cx.wish, Cx.blk, cx_K]
  walk_at "go"
  refine r_rng1 (by omega) (by omega) ?_
  refine for_rng (fun i σ H' => ∃ (o1 o2 : Option V), σ = [some (.ref a), o1, o2] ∧ Ex H H') ⟨none, none, rfl, Ex.refl⟩ ?_ ?_
  · rintro i σ H1 hi ⟨o1, o2, rfl, e1⟩
    have hl := sql_up e1 hl
    rw [nl] at hi
    walk_at "go"
    refine r_rng1 (by omega) (by omega) ?_
    refine for_rng (fun j σ H' => ∃ (o2 : Option V), σ = [some (.ref a), some (.int (0 + (i : Int))), o2] ∧ Ex H H') ⟨o2, rfl, e1⟩ ?_ ?_
    · clear e1 hl
      rintro j σ H1 hj ⟨o2, rfl, e1⟩
      have R1 := R.ex e1
      have hl := R1.l
      rw [nl] at hj
      walk_at "go"
      obtain ⟨vk, ak, ck, zk⟩ := R1.at (i := 0 + (i : Int)) (by omega) (by omega)
      obtain ⟨vj, aj, cj, zj⟩ := R1.at (i := 0 + (j : Int)) (by omega) (by omega)
      obtain ⟨vn, an, cn, zn⟩ := R1.at (i := (((i + 1) % rs.length : Nat) : Int)) (by omega) (by have := Nat.mod_lt (i + 1) (show 0 < rs.length by omega); omega)
      have en := mod1 rs.length i
      rw [show (0 + (i : Int)).toNat = i by omega] at ck zk
      rw [show (0 + (j : Int)).toNat = j by omega] at cj zj
      rw [Int.toNat_natCast, ← nc, cI_mod] at cn zn
      by_cases hk : j = i
      · walk_at "go"
        exact ⟨_, rfl, e1⟩
      · walk_at "go"
        rw [nl, show (0 + (i : Int) + 1) = (i : Int) + 1 by omega, en]
        by_cases hn : j = (i + 1) % rs.length
        · walk_at "go"
          exact ⟨_, rfl, e1⟩
        · walk_at "go"
          refine r_ixL hl ak ?_
          walk_at "go"
          rw [nl, show (0 + (i : Int) + 1) = (i : Int) + 1 by omega, en]
          refine r_ixL hl an ?_
          walk_at "go"
          refine r_ixL hl aj ?_
          walk_at "go"
          refine use_hand_of ck cn cj zk zn zj fun H2 e2 => ?_
          have := I i (by omega) j (by omega) hk hn
          walk_at "go"
          exact ⟨_, rfl, e1.trans e2⟩
    · rintro σ H1 ⟨o2, rfl, e1⟩
      walk_at "go"
      exact ⟨_, _, rfl, e1⟩
  · rintro σ H1 ⟨o1, o2, rfl, e1⟩
    walk_at "go"
    exact q _ e1

end
def sp_line_of (_ : PySem.W.Frag) : Sp := fun vs H Q _ => ∃ (x y : V) (a b : Cn), vs = [x, y] ∧ CnAt H x a ∧ CnAt H y b ∧ SzC a ∧ SzC b ∧ 0 < (fDif b.1 a.1).1 ∧
  ∀ t H', H t = none → Ex H H' → H' t = some (.tup [.int (lineI a b).1, .int (lineI a b).2.1, .int (lineI a b).2.2]) → Q (.ref t) H'
theorem use_line_of {K : PySem.W.Frag} {H : Hp} {Q : VK} {E : XK} {x y : V} {a b : Cn} (hx : CnAt H x a) (hy : CnAt H y b) (za : SzC a) (zb : SzC b) (h0 : 0 < (fDif b.1 a.1).1)
    (q : ∀ t H', H t = none → Ex H H' → H' t = some (.tup [.int (lineI a b).1, .int (lineI a b).2.1, .int (lineI a b).2.2]) → Q (.ref t) H') : sp_line_of K [x, y] H Q E := ⟨x, y, a, b, rfl, hx, hy, za, zb, h0, q⟩
abbrev s_line_of : Stmt := topS 47
abbrev nm_line_of : List Str := ["one", "other", "wide", "up", "slope", "begin"]
theorem sc_line_of : FnScope nm_line_of ["one", "other"] (defScope s_line_of) := ⟨rfl, rfl, rfl, by decide +kernel, rfl, by decide +kernel, by decide +kernel⟩
theorem st_line_of {v0 v1 : V} : start nm_line_of [v0, v1] = [some v0, some v1, none, none, none, none] := rfl
section
variable {P : Program} {w : World} {K : PySem.W.Frag} {mg : Str → Option Value} {base : Heap}
theorem ok_line_of (D : DefAt K mg "line_of" s_line_of ["one", "other"]) (G_difference : Has P w K mg base CX0 4 "difference" ["one", "other"] (sp_difference K)) (G_fraction : Has P w K mg base CX0 3 "fraction" ["top", "bottom"] (sp_fraction K)) (G_product_of : Has P w K mg base CX0 4 "product_of" ["one", "other"] (sp_product_of K)) : Has P w K mg base CX0 5 "line_of" ["one", "other"] (sp_line_of K) := by
  refine D.ok sc_line_of (by rintro _ _ _ _ ⟨_, _, _, _, rfl, _⟩; rfl) (fun f cdv A outer s H vs Q E hr h => ?_)
  obtain ⟨_, _, a, b, rfl, ⟨pa, ua, wa, rfl, ha, fa1, fa2⟩, ⟨pb, ub, wb, rfl, hb, fb1, fb2⟩, za, zb, h0, q⟩ := h
  obtain ⟨za1, za2⟩ := id za
  obtain ⟨zb1, zb2⟩ := id zb
  have y1 : SzF 331 60 (fDif b.1 a.1) := fDif_sz zb1 za1
  have y2 : SzF 331 60 (fDif b.2 a.2) := fDif_sz zb2 za2
  have ys := slopeI_sz za zb h0
  have yp : SzF 691 421 (fPro (slopeI a b) a.1) := fPro_sz ys za1
  have yb := beginI_sz za zb h0
  refine ⟨_, (pss_cons (ps_set (i := 2) sc_line_of.nd rfl (Or.inl rfl) (pcall G_difference (hr.mono (by decide)) (pa_cons (pe_ix ix_tup (pv 1) pe_int (fun _ _ => rfl)) (pa_cons (pe_ix ix_tup (pv 0) pe_int (fun _ _ => rfl)) pa_nil))))
      (pss_cons (ps_set (i := 3) sc_line_of.nd rfl (Or.inl rfl) (pcall G_difference (hr.mono (by decide)) (pa_cons (pe_ix ix_tup (pv 1) pe_int (fun _ _ => rfl)) (pa_cons (pe_ix ix_tup (pv 0) pe_int (fun _ _ => rfl)) pa_nil))))
      (pss_cons (ps_set (i := 4) sc_line_of.nd rfl (Or.inl rfl) (pcall G_fraction (hr.mono (by decide)) (pa_cons (pe_op op_mulX (pe_ix ix_tup (pv 3) pe_int (fun _ _ => rfl)) (pe_ix ix_tup (pv 2) pe_int (fun _ _ => rfl))) (pa_cons (pe_op op_mulX (pe_ix ix_tup (pv 3) pe_int (fun _ _ => rfl)) (pe_ix ix_tup (pv 2) pe_int (fun _ _ => rfl))) pa_nil))))
      (pss_cons (ps_set (i := 5) sc_line_of.nd rfl (Or.inl rfl) (pcall G_difference (hr.mono (by decide)) (pa_cons (pe_ix ix_tup (pv 0) pe_int (fun _ _ => rfl)) (pa_cons (pcall G_product_of (hr.mono (by decide)) (pa_cons (pv 4) (pa_cons (pe_ix ix_tup (pv 0) pe_int (fun _ _ => rfl)) pa_nil))) pa_nil))))
      (pss_one (ps_ret (pe_tup (pa_cons (pe_op op_mulX (pe_ix ix_tup (pv 4) pe_int (fun _ _ => rfl)) (pe_ix ix_tup (pv 5) pe_int (fun _ _ => rfl))) (pa_cons (pe_op op_mulX (pe_ix ix_tup (pv 5) pe_int (fun _ _ => rfl)) (pe_ix ix_tup (pv 4) pe_int (fun _ _ => rfl))) (pa_cons (pe_op op_mulX (pe_ix ix_tup (pv 4) pe_int (fun _ _ => rfl)) (pe_ix ix_tup (pv 5) pe_int (fun _ _ => rfl))) pa_nil)))))))))), ?_⟩
  rw [st_line_of]
  try dsimp only [Cx.nox, Cx.wish, Cx.blk, cx_K]
  walk_at "go"
  refine use_difference fb1 fa1 zb1.mono za1.mono fun p1 H1 n1 e1 h1 => ?_
  walk_at "go"
  refine use_difference (fb2.ex e1) (fa2.ex e1) zb2.mono za2.mono fun p2 H2 n2 e2 h2 => ?_
  obtain ⟨_, w1, h1⟩ := h1
  cases w1
  obtain ⟨_, w2, h2⟩ := h2
  cases w2
  have h1 := e2.at h1
  have ⟨z10, z11, z12⟩ := y1
  have ⟨z20, z21, z22⟩ := y2
  walk_at "go"
  refine use_fraction (Int.mul_pos y2.1 h0) ((y2.2.2.mul y1.2.1).mono (by decide)) fun p3 H3 n3 e3 h3 => ?_
  have E3 := (e1.trans e2).trans e3
  clear e1 e2 e3
  walk_at "go"
  refine use_product_of h3 (fa1.ex E3) ys.mono za1.mono fun p4 H4 n4 e4 h4 => ?_
  have E4 := E3.trans e4
  have h3 := h3.ex e4
  clear E3 e4
  walk_at "go"
  refine use_difference (fa2.ex E4) h4 za2.mono yp.mono fun p5 H5 n5 e5 h5 => ?_
  obtain ⟨_, w3, h3⟩ := h3.ex e5
  cases w3
  obtain ⟨_, w5, h5⟩ := h5
  cases w5
  have ⟨zs0, zs1, zs2⟩ := ys
  have ⟨zb0, zb1', zb2'⟩ := yb
  have h3 : H5 p3 = some (.tup [.int (slopeI a b).1, .int (slopeI a b).2]) := h3
  have h5 : H5 p5 = some (.tup [.int (fDif a.2 (fPro (slopeI a b) a.1)).1, .int (fDif a.2 (fPro (slopeI a b) a.1)).2]) := h5
  clear n1 n2 n3 n4 n5 h1 h2
  walk_at "go"
  rename_i t H6 n6 e6 h6
  exact q _ _ (free_back (E4.trans e5) n6) ((E4.trans e5).trans e6) h6

end
def sp_side_of (K : PySem.W.Frag) : Sp := fun vs H Q _ => ∃ (a : Addr) (rs : List (V × Cn)) (side : Int), vs = [.ref a, .int side] ∧ RgAt K H a rs ∧ 0 < rs.length ∧ rs.length ≤ 20 ∧
  ∀ l H' es, H l = none → Ex H H' → EgsAt H' l es → (es.map (·.2)).Perm (sideL (rcs rs) side rs.length) → (es.map (·.2)).Pairwise (fun e e' => e.f ≤ e'.f) → Q (.ref l) H'
theorem use_side_of {K : PySem.W.Frag} {H : Hp} {Q : VK} {E : XK} {a : Addr} {rs : List (V × Cn)} {side : Int} (R : RgAt K H a rs) (n0 : 0 < rs.length) (n20 : rs.length ≤ 20)
    (q : ∀ l H' es, H l = none → Ex H H' → EgsAt H' l es → (es.map (·.2)).Perm (sideL (rcs rs) side rs.length) → (es.map (·.2)).Pairwise (fun e e' => e.f ≤ e'.f) → Q (.ref l) H') : sp_side_of K [.ref a, .int side] H Q E := ⟨a, rs, side, rfl, R, n0, n20, q⟩
abbrev s_side_of : Stmt := topS 48
abbrev nm_side_of : List Str := ["ring", "side", "found", "k", "one", "other"]
theorem sc_side_of : FnScope nm_side_of ["ring", "side"] (defScope s_side_of) := ⟨rfl, rfl, rfl, by decide +kernel, rfl, by decide +kernel, by decide +kernel⟩
theorem st_side_of {v0 v1 : V} : start nm_side_of [v0, v1] = [some v0, some v1, none, none, none, none] := rfl
section
variable {P : Program} {w : World} {K : PySem.W.Frag} {mg : Str → Option Value} {base : Heap}
theorem ok_side_of (D : DefAt K mg "side_of" s_side_of ["ring", "side"]) (B_range : mg "range" = none) (B_len : mg "len" = none) (B_sorted : mg "sorted" = none) (G_difference : Has P w K mg base CX0 4 "difference" ["one", "other"] (sp_difference K)) (G_line_of : Has P w K mg base CX0 5 "line_of" ["one", "other"] (sp_line_of K)) : Has P w K mg base CX0 6 "side_of" ["ring", "side"] (sp_side_of K) := by
  refine D.ok sc_side_of (by rintro _ _ _ _ ⟨_, _, _, rfl, _⟩; rfl) (fun f cdv A outer s H vs Q E hr h => ?_)
  obtain ⟨a, rs, side, rfl, R, n0, n20, q⟩ := h
  have nl : (rs.map (·.1)).length = rs.length := List.length_map ..
  have nc : (rcs rs).length = rs.length := List.length_map ..
  have hl := R.l
  refine ⟨_, (pss_cons (ps_set (i := 2) sc_side_of.nd rfl (Or.inl rfl) (pe_lst pa_nil))
      (pss_cons (ps_for PassesOwn.never rfl (pi_range1 rfl B_range (pa_cons (pe_callB cl_len (by rfl) B_len (by decide +kernel) (pa_cons (pv 0) pa_nil)) pa_nil)) (pg_name (i := 3) sc_side_of.nd rfl (Or.inl rfl))
        (pss_cons (ps_set (i := 4) sc_side_of.nd rfl (Or.inl rfl) (pe_ix ix_list (pv 0) (pv 3) (fun _ _ => rfl)))
        (pss_cons (ps_set (i := 5) sc_side_of.nd rfl (Or.inl rfl) (pe_ix ix_list (pv 0) (pe_op op_mod (pe_op op_add (pv 3) pe_int) (pe_callB cl_len (by rfl) B_len (by decide +kernel) (pa_cons (pv 0) pa_nil))) (fun _ _ => rfl)))
        (pcut (ps_if (pt_cmpR op_eq (pv 1) pe_int (nomark _)) (pss_one (ps_par (i := 4) (j := 5) (by rfl) sc_side_of.nd rfl rfl (by decide) rfl rfl (pa_cons (pv 5) (pa_cons (pv 4) pa_nil)) (by rfl))) pss_nil)
        (pss_one (ps_if (pt_cmpR op_gt (pe_ix ix_tup (pcall G_difference (hr.mono (by decide)) (pa_cons (pe_ix ix_tup (pv 5) pe_int (fun _ _ => rfl)) (pa_cons (pe_ix ix_tup (pv 4) pe_int (fun _ _ => rfl)) pa_nil))) pe_int (fun _ _ => rfl)) pe_int (nomark _)) (pss_one (ps_expr (pe_bm PySem.F.plainAttrs_list PySem.F.slot_list_append PySem.F.type_list_append mt_append (pv 2) (pa_cons (pe_tup (pa_cons (pe_op op_sub pe_int (pe_op op_fdivW (pe_op op_sub pe_int (pe_ix ix_tup (pe_ix ix_tup (pv 4) pe_int (fun _ _ => rfl)) pe_int (fun _ _ => rfl))) (pe_ix ix_tup (pe_ix ix_tup (pv 4) pe_int (fun _ _ => rfl)) pe_int (fun _ _ => rfl)))) (pa_cons (pe_op op_fdivW (pe_ix ix_tup (pe_ix ix_tup (pv 5) pe_int (fun _ _ => rfl)) pe_int (fun _ _ => rfl)) (pe_ix ix_tup (pe_ix ix_tup (pv 5) pe_int (fun _ _ => rfl)) pe_int (fun _ _ => rfl))) (pa_cons (pcall G_line_of (hr.mono (by decide)) (pa_cons (pv 4) (pa_cons (pv 5) pa_nil))) pa_nil)))) pa_nil)))) pss_nil))))))
      (pss_one (ps_ret (pe_callB (cr_sortedD hr.units) (by rfl) B_sorted (by decide +kernel) (pa_cons (pv 2) pa_nil)))))), ?_⟩
  rw [st_side_of]
  try dsimp only [Cx.nox, Cx.wish, Cx.blk, cx_K]
  walk_at "go"
  rename_i l H0 nl0 e0 h0
  have hl := sql_up e0 hl
  walk_at "go"
  refine r_rng1 (by omega) (by omega) ?_
  refine for_rng (fun i σ H' => ∃ (es : List (V × Eg)) (o1 o2 o3 : Option V), σ = [some (.ref a), some (.int side), some (.ref l), o1, o2, o3] ∧ Ex H H' ∧ EgsAt H' l es ∧ es.map (·.2) = sideL (rcs rs) side i ∧ es.length ≤ i) ⟨[], none, none, none, rfl, e0, ⟨h0, fun e he => absurd he List.not_mem_nil⟩, rfl, Nat.le_refl _⟩ ?_ ?_
  · clear hl
    rintro i σ H1 hi ⟨es, o1, o2, o3, rfl, e1, L, le, ln⟩
    rw [nl] at hi
    have R1 := R.ex e1
    have hl := R1.l
    obtain ⟨vk, ak, ck, zk⟩ := R1.at (i := 0 + (i : Int)) (by omega) (by omega)
    obtain ⟨vn, an, cn, zn⟩ := R1.at (i := (((i + 1) % rs.length : Nat) : Int)) (by omega) (by have := Nat.mod_lt (i + 1) n0; omega)
    have en := mod1 rs.length i
    rw [show (0 + (i : Int)).toNat = i by omega] at ck zk
    rw [Int.toNat_natCast, ← nc, cI_mod] at cn zn
    walk_at "go"
    refine r_ixL hl ak ?_
    walk_at "go"
    rw [nl, show (0 + (i : Int) + 1) = (i : Int) + 1 by omega, en]
    refine r_ixL hl an ?_
    have key : ∃ (vo vt : V) (o t : Cn), CnAt H1 vo o ∧ CnAt H1 vt t ∧ SzC o ∧ SzC t ∧ egI (rcs rs) side i = egO o t ∧ (vo, vt) = if side = 1 then (vn, vk) else (vk, vn) := by
      by_cases s : side = 1
      · rw [if_pos s]
        exact ⟨vn, vk, _, _, cn, ck, zn, zk, by unfold egI; rw [if_pos s], rfl⟩
      · rw [if_neg s]
        exact ⟨vk, vn, _, _, ck, cn, zk, zn, by unfold egI; rw [if_neg s], rfl⟩
    clear ck cn zk zn ak an en
    obtain ⟨vo, vt, o, t, co, ct, zo, zt, eg, ev⟩ := key
    walk_at "go"
    refine r_cut (fun σ' H' => σ' = [some (.ref a), some (.int side), some (.ref l), some (.int (0 + (i : Int))), some vo, some vt] ∧ H' = H1) ?_ ?_
    · by_cases s : side = 1
      · rw [if_pos s] at ev
        obtain ⟨rfl, rfl⟩ := Prod.mk.inj ev
        walk_at "go"
        exact ⟨rfl, rfl⟩
      · rw [if_neg s] at ev
        obtain ⟨rfl, rfl⟩ := Prod.mk.inj ev
        walk_at "go"
        exact ⟨rfl, rfl⟩
    rintro σ' H' ⟨rfl, rfl⟩
    have co' := co
    have ct' := ct
    obtain ⟨po, uo, wo, rfl, ho, fo1, fo2⟩ := co'
    obtain ⟨pt, ut, wt, rfl, ht, ft1, ft2⟩ := ct'
    walk_at "go"
    refine use_difference ft1 fo1 zt.1.mono zo.1.mono fun p1 H2 n2 e2 h2 => ?_
    obtain ⟨_, w2, h2⟩ := h2
    cases w2
    walk_at "go"
    have L2 := L.ex e2
    obtain ⟨_, wo1, ho1⟩ := fo1.ex e2
    obtain ⟨_, wt1, ht1⟩ := ft1.ex e2
    subst wo1
    subst wt1
    have bo := zo.1.1
    have bt := zt.1.1
    have zo1 := zo.1.2.1
    have zo2 := zo.1.2.2
    have zt1 := zt.1.2.1
    have zt2 := zt.1.2.2
    have ho := e2.at ho
    have ht := e2.at ht
    refine if_2 (fun hx => ?_) (fun hx => ?_)
    · have hx := of_decide_eq_true hx
      have eg : egI (rcs rs) side i = some ⟨0 - (0 - o.1.1) / o.1.2, t.1.1 / t.1.2, (lineI o t).1, (lineI o t).2.1, (lineI o t).2.2⟩ := by
        rw [eg]
        unfold egO
        rw [if_pos hx]
      have hll := L2.l
      walk_at "go"
      refine use_line_of (co.ex e2) (ct.ex e2) zo zt hx fun p3 H3 n3 e3 h3 => ?_
      walk_at "go"
      rename_i p4 H4 n4 e4 h4
      have L4 := (L2.ex e3).ex e4
      have h3 := e4.at h3
      refine r_app L4.l (by rw [List.length_map]; omega) fun H5 k5 h5 => ?_
      walk_at "go"
      refine ⟨es ++ [(.ref p4, ⟨0 - (0 - o.1.1) / o.1.2, t.1.1 / t.1.2, (lineI o t).1, (lineI o t).2.1, (lineI o t).2.2⟩)], _, _, _, rfl, (((e1.trans e2).trans e3).trans e4).kpd nl0 k5, ⟨?_, ?_⟩, ?_, ?_⟩
      · rw [h5, List.map_append]
        rfl
      · intro e he
        rcases List.mem_append.mp he with he | he
        · exact (L4.e e he).kpL k5 L4.l
        · rw [List.mem_singleton.mp he]
          exact ⟨p4, p3, rfl, k5.tupL L4.l h4, k5.tupL L4.l h3⟩
      · rw [List.map_append, le, sideL_succ, eg]
        rfl
      · rw [List.length_append, List.length_singleton]
        omega
    · have hx := of_decide_eq_false hx
      have eg : egI (rcs rs) side i = none := by
        rw [eg]
        unfold egO
        rw [if_neg hx]
      walk_at "go"
      refine ⟨es, _, _, _, rfl, e1.trans e2, L2, ?_, by omega⟩
      rw [le, sideL_succ, eg]
      exact (List.append_nil _).symm
  · rintro σ H1 ⟨es, o1, o2, o3, rfl, e1, L, le, ln⟩
    walk_at "go"
    refine r_sortE L fun p H2 es' np e2 L2 pm up => ?_
    walk_at "go"
    refine q p H2 es' (free_back e1 np) (e1.trans e2) L2 ?_ up
    rw [nl, Int.toNat_natCast] at le
    rw [← le]
    exact pm.map _

end
def sp_over_down (_ : PySem.W.Frag) : Sp := fun vs H Q _ => ∃ (p : Addr) (a b m : Int), vs = [.ref p] ∧ H p = some (.tup [.int a, .int b, .int m]) ∧
  ∀ t H', H t = none → Ex H H' → H' t = some (.tup [.int (0 - a), .int (0 - b), .int m]) → Q (.ref t) H'
theorem use_over_down {K : PySem.W.Frag} {H : Hp} {Q : VK} {E : XK} {p : Addr} {a b m : Int} (h : H p = some (.tup [.int a, .int b, .int m]))
    (q : ∀ t H', H t = none → Ex H H' → H' t = some (.tup [.int (0 - a), .int (0 - b), .int m]) → Q (.ref t) H') : sp_over_down K [.ref p] H Q E := ⟨p, a, b, m, rfl, h, q⟩
abbrev s_over_down : Stmt := topS 49
abbrev nm_over_down : List Str := ["line"]
theorem sc_over_down : FnScope nm_over_down ["line"] (defScope s_over_down) := ⟨rfl, rfl, rfl, by decide +kernel, rfl, by decide +kernel, by decide +kernel⟩
theorem st_over_down {v0 : V} : start nm_over_down [v0] = [some v0] := rfl
section
variable {P : Program} {w : World} {K : PySem.W.Frag} {mg : Str → Option Value} {base : Heap}
theorem ok_over_down (D : DefAt K mg "over_down" s_over_down ["line"]) : Has P w K mg base CX0 2 "over_down" ["line"] (sp_over_down K) := by
  refine D.ok sc_over_down (by rintro _ _ _ _ ⟨_, _, _, _, rfl, _⟩; rfl) (fun f cdv A outer s H vs Q E hr h => ?_)
  obtain ⟨p, a, b, m, rfl, hp, q⟩ := h
  refine ⟨_, (pss_one (ps_ret (pe_tup (pa_cons (pe_op op_sub pe_int (pe_ix ix_tup (pv 0) pe_int (fun _ _ => rfl))) (pa_cons (pe_op op_sub pe_int (pe_ix ix_tup (pv 0) pe_int (fun _ _ => rfl))) (pa_cons (pe_ix ix_tup (pv 0) pe_int (fun _ _ => rfl)) pa_nil)))))), ?_⟩
  rw [st_over_down]
  try dsimp only [Cx.nox, Cx.wish, Cx.blk, cx_K]
  walk_at "go"
  rename_i t H1 n1 e1 h1
  exact q _ _ n1 e1 h1

end
def sp_side_sum (K : PySem.W.Frag) : Sp := fun vs H Q _ => ∃ (l : Addr) (es : List (V × Eg)) (t : Bool) (g : Int → Int) (e0 : Eg), vs = [.ref l, .bl t] ∧ EgsAt H l es ∧ (∀ e ∈ es, szE e.2) ∧ SideW ((es.map (·.2)).map (turnE t)) g ∧ ((es.map (·.2)).map (turnE t))[0]? = some e0 ∧
  ∀ p H' fin total, H p = none → Ex H H' → SideI ((es.map (·.2)).map (turnE t)) g e0.f ((es.map (·.2)).map (turnE t)).length fin total → H' p = some (.tup [.int total, .int (fin - e0.f)]) → Q (.ref p) H'
theorem use_side_sum {K : PySem.W.Frag} {H : Hp} {Q : VK} {E : XK} {l : Addr} {es : List (V × Eg)} {t : Bool} {g : Int → Int} {e0 : Eg} (L : EgsAt H l es) (z : ∀ e ∈ es, szE e.2) (W : SideW ((es.map (·.2)).map (turnE t)) g) (h0 : ((es.map (·.2)).map (turnE t))[0]? = some e0)
    (q : ∀ p H' fin total, H p = none → Ex H H' → SideI ((es.map (·.2)).map (turnE t)) g e0.f ((es.map (·.2)).map (turnE t)).length fin total → H' p = some (.tup [.int total, .int (fin - e0.f)]) → Q (.ref p) H') : sp_side_sum K [.ref l, .bl t] H Q E := ⟨l, es, t, g, e0, rfl, L, z, W, h0, q⟩
abbrev s_side_sum : Stmt := topS 50
abbrev nm_side_sum : List Str := ["edges", "turn_over", "total", "first", "begin", "edge", "line"]
theorem sc_side_sum : FnScope nm_side_sum ["edges", "turn_over"] (defScope s_side_sum) := ⟨rfl, rfl, rfl, by decide +kernel, rfl, by decide +kernel, by decide +kernel⟩
theorem st_side_sum {v0 v1 : V} : start nm_side_sum [v0, v1] = [some v0, some v1, none, none, none, none, none] := rfl
section
variable {P : Program} {w : World} {K : PySem.W.Frag} {mg : Str → Option Value} {base : Heap}
theorem ok_side_sum (D : DefAt K mg "side_sum" s_side_sum ["edges", "turn_over"]) (G_over_down : Has P w K mg base CX0 2 "over_down" ["line"] (sp_over_down K)) (G_summed_from : Has P w K mg base CX0 3 "summed_from" ["stair", "k", "n"] (sp_summed_from K)) : Has P w K mg base CX0 4 "side_sum" ["edges", "turn_over"] (sp_side_sum K) := by
  refine D.ok sc_side_sum (by rintro _ _ _ _ ⟨_, _, _, _, _, rfl, _⟩; rfl) (fun f cdv A outer s H vs Q E hr h => ?_)
  obtain ⟨l, es, t, g, e0, rfl, L, z, W, h0, q⟩ := h
  have nl : (es.map (·.1)).length = es.length := List.length_map ..
  have nt : ((es.map (·.2)).map (turnE t)).length = es.length := by rw [List.length_map, List.length_map]
  have hl := L.l
  have gt : ∀ i (hi : i < es.length), ((es.map (·.2)).map (turnE t))[i]? = some (turnE t (es[i]).2) := fun i hi => by
    rw [List.getElem?_map, List.getElem?_map, List.getElem?_eq_getElem hi]
    rfl
  have n0 : 0 < es.length := by
    rw [← nt]
    exact (List.getElem?_eq_some_iff.mp h0).1
  have f0 : (es[0]).2.f = e0.f := by
    have := (gt 0 n0).symm.trans h0
    rw [← Option.some.inj this, turnE_f]
  obtain ⟨p0, q0, v0, a0, b0⟩ := L.e _ (List.getElem_mem n0)
  have x0 : atI (es.map (·.1)) 0 = some (.ref p0) := by
    refine at_of (j := 0) rfl ?_
    rw [List.getElem?_map, List.getElem?_eq_getElem n0, ← v0]
    rfl
  rw [f0] at a0
  refine ⟨_, (pss_cons (ps_set (i := 2) sc_side_sum.nd rfl (Or.inl rfl) pe_int)
      (pss_cons (ps_set (i := 3) sc_side_sum.nd rfl (Or.inl rfl) (pe_ix ix_tup (pe_ix ix_list (pv 0) pe_int (fun _ _ => rfl)) pe_int (fun _ _ => rfl)))
      (pss_cons (ps_set (i := 4) sc_side_sum.nd rfl (Or.inl rfl) (pv 3))
      (pss_cons (ps_for PassesOwn.never rfl (pi_list (pv 0)) (pg_name (i := 5) sc_side_sum.nd rfl (Or.inl rfl))
        (pss_cons (ps_set (i := 6) sc_side_sum.nd rfl (Or.inl rfl) (pe_ix ix_tup (pv 5) pe_int (fun _ _ => rfl)))
        (pcut (ps_if (pt_val (pv 1)) (pss_one (ps_set (i := 6) sc_side_sum.nd rfl (Or.inl rfl) (pcall G_over_down (hr.mono (by decide)) (pa_cons (pv 6) pa_nil)))) pss_nil)
        (pss_one (ps_if (pt_cmpR op_ge (pe_ix ix_tup (pv 5) pe_int (fun _ _ => rfl)) (pv 4) (nomark _)) (pss_cons (ps_aug (i := 2) sc_side_sum.nd rfl (Or.inl rfl) (pcall G_summed_from (hr.mono (by decide)) (pa_cons (pv 6) (pa_cons (pv 4) (pa_cons (pe_op op_add (pe_op op_sub (pe_ix ix_tup (pv 5) pe_int (fun _ _ => rfl)) (pv 4)) pe_int) pa_nil)))) ip_add)
          (pss_one (ps_set (i := 4) sc_side_sum.nd rfl (Or.inl rfl) (pe_op op_add (pe_ix ix_tup (pv 5) pe_int (fun _ _ => rfl)) pe_int)))) pss_nil)))))
      (pss_one (ps_ret (pe_tup (pa_cons (pv 2) (pa_cons (pe_op op_sub (pv 4) (pv 3)) pa_nil))))))))), ?_⟩
  rw [st_side_sum]
  try dsimp only [Cx.nox, Cx.wish, Cx.blk, cx_K]
  walk_at "go"
  refine r_ixL (SqL.of hl) x0 ?_
  walk_at "go"
  refine for_lst (xs := es.map (·.1)) (fun i σ H' => ∃ (fin total : Int) (o1 o2 : Option V), σ = [some (.ref l), some (.bl t), some (.int total), some (.int e0.f), some (.int fin), o1, o2] ∧ Ex H H' ∧ SideI ((es.map (·.2)).map (turnE t)) g e0.f i fin total ∧ Sz 303 fin) ⟨_, _, none, none, rfl, Ex.refl, SideI.zero h0, ?_⟩ (fun i σ H' _ h => ?_) ?_ ?_
  · rw [← f0]
    exact ((z _ (List.getElem_mem n0)).1).mono (by decide)
  · obtain ⟨_, _, _, _, _, e, _⟩ := h
    exact SqL.of (e.at hl)
  · rintro i x σ H1 hx ⟨fin, total, o1, o2, rfl, e1, I, zf⟩
    have hi : i < es.length := by
      rw [← nl]
      exact (List.getElem?_eq_some_iff.mp hx).1
    rw [List.getElem?_map, List.getElem?_eq_getElem hi] at hx
    cases hx
    have ge := gt i hi
    obtain ⟨z1, z2, z3, z4, z5, m0⟩ := z _ (List.getElem_mem hi)
    obtain ⟨pe, qe, ve, ae, be⟩ := (L.e _ (List.getElem_mem hi)).ex e1
    generalize es[i] = ex at *
    obtain ⟨v, e⟩ := ex
    dsimp only at *
    subst ve
    walk_at "go"
    refine r_cut (fun σ' H' => ∃ q2, σ' = [some (.ref l), some (.bl t), some (.int total), some (.int e0.f), some (.int fin), some (.ref pe), some (.ref q2)] ∧ Ex H1 H' ∧ H' q2 = some (.tup [.int (turnE t e).a, .int (turnE t e).b, .int e.m])) ?_ ?_
    · cases t with
      | true =>
        walk_at "go"
        refine use_over_down be fun q2 H2 n2 e2 h2 => ?_
        walk_at "go"
        exact ⟨q2, rfl, e2, h2⟩
      | false =>
        walk_at "go"
        exact ⟨qe, rfl, Ex.refl, be⟩
    rintro σ' H2 ⟨q2, rfl, e2, h2⟩
    have ae := e2.at ae
    have zA : Sz 1300 (turnE t e).a := by
      cases t with
      | true => exact (Sz.sub1 (k := 1300) (Sz.lit (x := 0)) z3 (by decide) (by decide))
      | false => exact z3.mono (by decide)
    have zB : Sz 1300 (turnE t e).b := by
      cases t with
      | true => exact (Sz.sub1 (k := 1300) (Sz.lit (x := 0)) z4 (by decide) (by decide))
      | false => exact z4.mono (by decide)
    have eM : (turnE t e).m = e.m := by cases t <;> rfl
    have zn : Sz 4000 (e.l - fin + 1) := (Sz.add1 (k := 700) (Sz.sub1 (k := 600) z2 zf (by decide) (by decide)) (Sz.lit (x := 1)) (by decide) (by decide)).mono (by decide)
    walk_at "go"
    refine if_2 (fun hx => ?_) (fun hx => ?_)
    · have hx := of_decide_eq_true hx
      walk_at "go"
      refine use_summed_from h2 m0 zA zB (z5.mono (by decide)) (zf.mono (by decide)) zn ?_
      walk_at "go"
      have st := I.step W h0 ge (by rw [turnE_l]; exact hx)
      rw [turnE_l, eM] at st
      exact ⟨_, _, _, _, rfl, e1.trans e2, st, Sz.add1 (k := 303) z2 (Sz.lit (x := 1)) (by decide) (by decide)⟩
    · have hx := of_decide_eq_false hx
      walk_at "go"
      exact ⟨_, _, _, _, rfl, e1.trans e2, I.skip ge (by rw [turnE_l]; exact hx), zf⟩
  · rintro σ H1 ⟨fin, total, o1, o2, rfl, e1, I, zf⟩
    walk_at "go"
    rename_i p H2 n2 e2 h2
    refine q p H2 fin total (free_back e1 n2) (e1.trans e2) ?_ h2
    rw [nl] at I
    rw [nt]
    exact I

end
def sp_points_in (K : PySem.W.Frag) : Sp := fun vs H Q _ => ∃ (a : Addr) (rs : List (V × Cn)), vs = [.ref a] ∧ RgAt K H a rs ∧ RingI (rcs rs) ∧ ∀ N H', Ex H H' → Cnt (ringS (rcs rs)) N → Q (.int N) H'
theorem use_points_in {K : PySem.W.Frag} {H : Hp} {Q : VK} {E : XK} {a : Addr} {rs : List (V × Cn)} (R : RgAt K H a rs) (I : RingI (rcs rs)) (q : ∀ N H', Ex H H' → Cnt (ringS (rcs rs)) N → Q (.int N) H') : sp_points_in K [.ref a] H Q E := ⟨a, rs, rfl, R, I, q⟩
abbrev s_points_in : Stmt := topS 51
abbrev nm_points_in : List Str := ["ring", "below", "many", "above"]
theorem sc_points_in : FnScope nm_points_in ["ring"] (defScope s_points_in) := ⟨rfl, rfl, rfl, by decide +kernel, rfl, by decide +kernel, by decide +kernel⟩
theorem st_points_in {v0 : V} : start nm_points_in [v0] = [some v0, none, none, none] := rfl
section
variable {P : Program} {w : World} {K : PySem.W.Frag} {mg : Str → Option Value} {base : Heap}
theorem ok_points_in (D : DefAt K mg "points_in" s_points_in ["ring"]) (G_need_ring : Has P w K mg base CX0 6 "need_ring" ["ring"] (sp_need_ring K)) (G_side_of : Has P w K mg base CX0 6 "side_of" ["ring", "side"] (sp_side_of K)) (G_side_sum : Has P w K mg base CX0 4 "side_sum" ["edges", "turn_over"] (sp_side_sum K)) : Has P w K mg base CX0 7 "points_in" ["ring"] (sp_points_in K) := by
  refine D.ok sc_points_in (by rintro _ _ _ _ ⟨_, _, rfl, _⟩; rfl) (fun f cdv A outer s H vs Q E hr h => ?_)
  obtain ⟨a, rs, rfl, R, I, q⟩ := h
  have nc : (rcs rs).length = rs.length := List.length_map ..
  have n3 := I.1
  have n20 := I.2.1
  have n0 : 0 < rs.length := by omega
  have ok := R.ok
  have RP := ((ringI_iff ok).mp I).1
  refine ⟨_, (pss_cons (ps_expr (pcall G_need_ring (hr.mono (by decide)) (pa_cons (pv 0) pa_nil)))
      (pss_cons (ps_asg (pcall G_side_sum (hr.mono (by decide)) (pa_cons (pcall G_side_of (hr.mono (by decide)) (pa_cons (pv 0) (pa_cons pe_int pa_nil))) (pa_cons pe_bl pa_nil))) (pg_tup (by rfl) (pgs_cons (pg_name (i := 1) sc_points_in.nd rfl (Or.inl rfl)) (pgs_cons (pg_name (i := 2) sc_points_in.nd rfl (Or.inl rfl)) pgs_nil))))
      (pss_cons (ps_set (i := 3) sc_points_in.nd rfl (Or.inl rfl) (pe_ix ix_tup (pcall G_side_sum (hr.mono (by decide)) (pa_cons (pcall G_side_of (hr.mono (by decide)) (pa_cons (pv 0) (pa_cons pe_int pa_nil))) (pa_cons pe_bl pa_nil))) pe_int (fun _ _ => rfl)))
      (pss_one (ps_ret (pe_op op_add (pe_op op_add (pv 3) (pv 1)) (pv 2))))))), ?_⟩
  rw [st_points_in]
  try dsimp only [Cx.nox, Cx.wish, Cx.blk, cx_K]
  walk_at "go"
  try (refine r_eiL ?_; walk_at "go")
  refine use_need_ring R I fun H1 e1 => ?_
  walk_at "go"
  refine use_side_of (R.ex e1) n0 (by omega) fun l2 H2 es n2 e2 L2 p2 u2 => ?_
  have E0 : SideE (pts (rcs rs)) 0 (es.map (·.2)) := (nc ▸ sideL_e I.len ok).perm p2
  obtain ⟨b0, hb0⟩ := ringI_low ok I E0
  have hb0' : ((es.map (·.2)).map (turnE true))[0]? = some (turnE true b0) := by rw [List.getElem?_map, hb0]; rfl
  walk_at "go"
  refine use_side_sum L2 (fun e he => sideL_szE n0 R.z _ (p2.mem_iff.mp (List.mem_map.mpr ⟨e, he, rfl⟩))) (sideW_low RP E0 u2) hb0' fun p3 H3 fin tot n3 e3 I3 h3 => ?_
  walk_at "go"
  refine use_side_of ((((R.ex e1).ex e2).ex e3)) n0 (by omega) fun l4 H4 es4 n4 e4 L4 p4 u4 => ?_
  have E4 : SideE (pts (rcs rs)) 1 (es4.map (·.2)) := (nc ▸ sideL_e I.len ok).perm p4
  obtain ⟨c0, hc0⟩ := ringI_high ok I E4
  have hc0' : ((es4.map (·.2)).map (turnE false))[0]? = some (turnE false c0) := by rw [List.getElem?_map, hc0]; rfl
  walk_at "go"
  refine use_side_sum L4 (fun e he => sideL_szE n0 R.z _ (p4.mem_iff.mp (List.mem_map.mpr ⟨e, he, rfl⟩))) (sideW_high RP E4 u4) hc0' fun p5 H5 fin5 tot5 n5 e5 I5 h5 => ?_
  walk_at "go"
  exact q _ _ ((((e1.trans e2).trans e3).trans e4).trans e5) (ring_count RP E0 E4 u2 u4 hb0' hc0' I3 I5)

end
def sp_paper_text (_ : PySem.W.Frag) : Sp := fun vs H Q _ => ∃ (l : Addr) (xs : List V) (rs : List (List Int)), vs = [.ref l] ∧ H l = some (.lst xs) ∧ RowsA H xs rs ∧ WrR rs ∧ ∀ H', Ex H H' → Q (.str (SX.S (ptx rs))) H'
theorem use_paper_text {K : PySem.W.Frag} {H : Hp} {Q : VK} {E : XK} {l : Addr} {xs : List V} {rs : List (List Int)} (hl : H l = some (.lst xs)) (R : RowsA H xs rs) (W : WrR rs) (q : ∀ H', Ex H H' → Q (.str (SX.S (ptx rs))) H') : sp_paper_text K [.ref l] H Q E := ⟨l, xs, rs, rfl, hl, R, W, q⟩
abbrev s_paper_text : Stmt := topS 56
abbrev nm_paper_text : List Str := ["paper", "row", "number"]
theorem sc_paper_text : FnScope nm_paper_text ["paper"] (defScope s_paper_text) := ⟨rfl, rfl, rfl, by decide +kernel, rfl, by decide +kernel, by decide +kernel⟩
theorem st_paper_text {v0 : V} : start nm_paper_text [v0] = [some v0, none, none] := rfl
section
variable {P : Program} {w : World} {K : PySem.W.Frag} {mg : Str → Option Value} {base : Heap}
theorem ok_paper_text (D : DefAt K mg "paper_text" s_paper_text ["paper"]) (B_str : mg "str" = none) : Has P w K mg base CX0 2 "paper_text" ["paper"] (sp_paper_text K) := by
  refine D.ok sc_paper_text (by rintro _ _ _ _ ⟨_, _, _, rfl, _⟩; rfl) (fun f cdv A outer s H vs Q E hr h => ?_)
  obtain ⟨l, xs, rs, rfl, hl, R, W, q⟩ := h
  have lx := R.len
  have W1 := W.1
  have wall := W.all
  refine ⟨_, (pss_one (ps_ret (pe_bm PySem.F.plainAttrs_str PySem.F.slot_str_join PySem.F.type_str_join mt_joinR pe_str (pa_cons (pe_lc rfl sc_paper_text.nd (pi_list (pv 0)) (blkOk_by (own := [("row", 1)]) (N := nm_paper_text) (sc := defScope s_paper_text) (by decide +kernel)) (fun _ _ _ _ _ => (pg_name (i := 1) sc_paper_text.nd rfl (Or.inl rfl))) (fun _ _ _ _ _ => pts_nil) (fun _ _ _ _ _ => ((pe_bmK (K := K)) PySem.F.plainAttrs_str PySem.F.slot_str_join PySem.F.type_str_join (mt_joinRK (K := K)) pe_str (pa_cons (pe_lc rfl sc_paper_text.nd ((pi_tupK (K := K)) (pv 1)) (blkN (own := [("number", 2)]) (N := nm_paper_text) (sc := defScope s_paper_text) (by decide +kernel)) (fun _ _ _ _ _ => (pg_name (i := 2) sc_paper_text.nd rfl (Or.inl rfl))) (fun _ _ _ _ _ => pts_nil) (fun _ _ _ _ _ => (pe_callTy cl_strI (by rfl) B_str (by decide +kernel) (pa_cons (pv 2) pa_nil)))) pa_nil)))) pa_nil)))), ?_⟩
  rw [st_paper_text]
  try dsimp only [Cx.nox, Cx.wish, Cx.blk, cx_K]
  walk_at "go"
  refine lc_lstI (fun i => .str (SX.S (rtx (rs.getD i [])))) (SqL.of hl) (by omega) (fun _ => rfl) (fun i x hx G eG QE kE => ?_) (fun p1 H1 n1 e1 h1 => ?_)
  · obtain ⟨p, r, rfl, gr, hp⟩ := R.get hx
    have hp := eG.at hp
    have er : rs.getD i [] = r := by rw [List.getD_eq_getElem?_getD, gr]; rfl
    rw [er] at kE
    obtain ⟨l10, zr⟩ := W.2 r (List.mem_of_getElem? gr)
    have wr := (W.row (List.mem_of_getElem? gr)).1
    walk_at "go"
    refine lc_tupP sV (SqT.of hp) (by rw [List.length_map]; omega) (fun _ => rfl) (fun j y hy G2 eG2 QE2 kE2 => ?_) (fun p2 H2 n2 e2 h2 => ?_)
    · rw [List.getElem?_map] at hy
      obtain ⟨i, hi, rfl⟩ := Option.map_eq_some_iff.mp hy
      have zi := zr i (List.mem_of_getElem? hi)
      walk_at "go"
      exact kE2 _ Ex.refl
    · have h2 : H2 p2 = some (.lst (wstrs (r.map numI))) := by
        rw [h2]
        unfold wstrs
        rw [List.map_map, List.map_map]
        rfl
      walk_at "go"
      exact kE _ e2
  · have h1 : H1 p1 = some (.lst (wstrs (rs.map rtx))) := by
      rw [h1, lx]
      unfold wstrs
      rw [List.map_map]
      congr 2
      refine List.ext_getElem? fun i => ?_
      by_cases z : i < rs.length
      · rw [List.getElem?_map, List.getElem?_range z, List.getElem?_map, List.getElem?_eq_getElem z]
        show some (V.str (SX.S (rtx (rs.getD i [])))) = some (V.str (SX.S (rtx rs[i])))
        rw [List.getD_eq_getElem?_getD, List.getElem?_eq_getElem z]
        rfl
      · rw [List.getElem?_eq_none (by rw [List.length_map, List.length_range]; omega), List.getElem?_eq_none (by rw [List.length_map]; omega)]
    walk_at "go"
    exact q _ e1

end
theorem tkn_take : ∀ {rs : List (List Int)} {i : Nat} {n a b m s : Int}, rs[i]? = some [n, a, b, m, s] → tkn (rs.take (i + 1)) = tkn (rs.take i) + (s * (n * (n - 1) / 2) + b / m * n)
  | r :: rs, 0, n, a, b, m, s, g => by
    have e : r = [n, a, b, m, s] := Option.some.inj g
    subst e
    show s * (n * (n - 1) / 2) + b / m * n + 0 = 0 + _
    omega
  | r :: rs, i + 1, n, a, b, m, s, g => by
    have ih := tkn_take (rs := rs) (i := i) (n := n) (a := a) (b := b) (m := m) (s := s) g
    show tkn (r :: rs.take (i + 1)) = tkn (r :: rs.take i) + _
    unfold tkn
    split <;> simp_all <;> omega
  | [], _, _, _, _, _, _, g => by simp at g
def sp_taken (_ : PySem.W.Frag) : Sp := fun vs H Q _ => ∃ (l : Addr) (rs : List (List Int)), vs = [.ref l] ∧ RwL H l rs ∧ RowsZ rs ∧ Q (.int (tkn rs)) H
theorem use_taken {K : PySem.W.Frag} {H : Hp} {Q : VK} {E : XK} {l : Addr} {rs : List (List Int)} (h : RwL H l rs) (z : RowsZ rs) (q : Q (.int (tkn rs)) H) : sp_taken K [.ref l] H Q E := ⟨l, rs, rfl, h, z, q⟩
abbrev s_taken : Stmt := topS 38
abbrev nm_taken : List Str := ["paper", "total", "n", "a", "b", "m", "rise"]
theorem sc_taken : FnScope nm_taken ["paper"] (defScope s_taken) := ⟨rfl, rfl, rfl, by decide +kernel, rfl, by decide +kernel, by decide +kernel⟩
theorem st_taken {v0 : V} : start nm_taken [v0] = [some v0, none, none, none, none, none, none] := rfl
section
variable {P : Program} {w : World} {K : PySem.W.Frag} {mg : Str → Option Value} {base : Heap}
theorem ok_taken (D : DefAt K mg "taken" s_taken ["paper"]) : Has P w K mg base CX0 2 "taken" ["paper"] (sp_taken K) := by
  refine D.ok sc_taken (by rintro _ _ _ _ ⟨_, _, rfl, _⟩; rfl) (fun f cdv A outer s H vs Q E hr h => ?_)
  obtain ⟨l, rs, rfl, ⟨us, hl, hR⟩, hz, q⟩ := h
  refine ⟨_, (pss_cons (ps_set (i := 1) sc_taken.nd rfl (Or.inl rfl) pe_int)
      (pss_cons (ps_for PassesOwn.never rfl (pi_list (pv 0)) (pg_tup (by rfl) (pgs_cons (pg_name (i := 2) sc_taken.nd rfl (Or.inl rfl)) (pgs_cons (pg_name (i := 3) sc_taken.nd rfl (Or.inl rfl)) (pgs_cons (pg_name (i := 4) sc_taken.nd rfl (Or.inl rfl)) (pgs_cons (pg_name (i := 5) sc_taken.nd rfl (Or.inl rfl)) (pgs_cons (pg_name (i := 6) sc_taken.nd rfl (Or.inl rfl)) pgs_nil))))))
        (pss_one (ps_aug (i := 1) sc_taken.nd rfl (Or.inl rfl) (pe_op op_add (pe_op op_mulX (pv 6) (pe_op op_fdivW (pe_op op_mulX (pv 2) (pe_op op_sub (pv 2) pe_int)) pe_int)) (pe_op op_mulX (pe_op op_fdivW (pv 4) (pv 5)) (pv 2))) ip_add)))
      (pss_one (ps_ret (pv 1))))), ?_⟩
  rw [st_taken]
  try dsimp only [Cx.nox, Cx.wish, Cx.blk, cx_K]
  walk_at "go"
  refine for_lst (xs := us) (fun i σ H' => H' = H ∧ ∃ o2 o3 o4 o5 o6 : Option V, σ = [some (.ref l), some (.int (tkn (rs.take i))), o2, o3, o4, o5, o6]) ⟨rfl, _, _, _, _, _, rfl⟩ (fun i σ H' _ p => by rw [p.1]; exact SqL.of hl) ?_ ?_
  · rintro i x σ H1 hi ⟨rfl, o2, o3, o4, o5, o6, rfl⟩
    obtain ⟨p, r, rfl, hri, hp⟩ := hR.get hi
    obtain ⟨n, a, b, m, s, rfl, m0, zn, za, zb, zm, zs⟩ := hz.at hri
    have hp : H1 p = some (.tup [.int n, .int a, .int b, .int m, .int s]) := hp
    have et := tkn_take hri
    rw [et]
    walk_at "go"
    exact ⟨rfl, _, _, _, _, _, rfl⟩
  · rintro σ H' ⟨rfl, o2, o3, o4, o5, o6, rfl⟩
    walk_at "go"
    rw [hR.len, List.take_length]
    exact q

end
--@ needs PaperL
/-- what a name holds: none or a tuple of four -/
def BegV (H : Hp) (v : V) : Option (List Int) → Prop
  | none => v = .non
  | some g => ∃ (q : Addr) (n a b m : Int), v = .ref q ∧ g = [n, a, b, m] ∧ 0 ≤ n ∧ 0 < m ∧ H q = some (.tup [.int n, .int a, .int b, .int m])
theorem isP_stop {g : Option (List Int)} : isP g [] = decide (g = none) := by
  cases g with
  | none => rfl
  | some _ => rfl

def sp_is_paper (_ : PySem.W.Frag) : Sp := fun vs H Q _ => ∃ (p l : Addr) (a b m n : Int) (rs : List (List Int)), vs = [.ref p, .int n, .ref l] ∧ H p = some (.tup [.int a, .int b, .int m]) ∧ 0 < m ∧ 0 ≤ n ∧ n < 1000000000000000000000000000000 ∧ RwL H l rs ∧ RowsY rs ∧ ∀ H', Ex H H' → Q (.bl (isP (some [n, a, b, m]) rs)) H'
theorem use_is_paper {K : PySem.W.Frag} {H : Hp} {Q : VK} {E : XK} {p l : Addr} {a b m n : Int} {rs : List (List Int)} (hp : H p = some (.tup [.int a, .int b, .int m])) (hm : 0 < m) (n0 : 0 ≤ n) (n1 : n < 1000000000000000000000000000000) (h : RwL H l rs) (z : RowsY rs) (q : ∀ H', Ex H H' → Q (.bl (isP (some [n, a, b, m]) rs)) H') : sp_is_paper K [.ref p, .int n, .ref l] H Q E := ⟨p, l, a, b, m, n, rs, rfl, hp, hm, n0, n1, h, z, q⟩
abbrev s_is_paper : Stmt := topS 37
abbrev nm_is_paper : List Str := ["stair", "n", "paper", "begin", "row", "a", "b", "m", "rise"]
theorem sc_is_paper : FnScope nm_is_paper ["stair", "n", "paper"] (defScope s_is_paper) := ⟨rfl, rfl, rfl, by decide +kernel, rfl, by decide +kernel, by decide +kernel⟩
theorem st_is_paper {v0 v1 v2 : V} : start nm_is_paper [v0, v1, v2] = [some v0, some v1, some v2, none, none, none, none, none, none] := rfl
section
variable {P : Program} {w : World} {K : PySem.W.Frag} {mg : Str → Option Value} {base : Heap}
theorem ok_is_paper (D : DefAt K mg "is_paper" s_is_paper ["stair", "n", "paper"]) (G_need_stair : Has P w K mg base CX0 4 "need_stair" ["thing"] (sp_need_stair K)) (G_need_count : Has P w K mg base CX0 2 "need_count" ["n"] (sp_need_count K)) (G_follows : Has P w K mg base CX0 2 "follows" ["n", "a", "b", "m", "rise"] (sp_follows K)) : Has P w K mg base CX0 5 "is_paper" ["stair", "n", "paper"] (sp_is_paper K) := by
  refine D.ok sc_is_paper (by rintro _ _ _ _ ⟨_, _, _, _, _, _, _, rfl, _⟩; rfl) (fun f cdv A outer s H vs Q E hr h => ?_)
  obtain ⟨p, l, a, b, m, n, rs, rfl, hp, hm, n0, n1, ⟨us, hl, hR⟩, hz, q⟩ := h
  refine ⟨_, (pss_cons (ps_expr (pcall G_need_stair (hr.mono (by decide)) (pa_cons (pv 0) pa_nil)))
      (pss_cons (ps_expr (pcall G_need_count (hr.mono (by decide)) (pa_cons (pv 1) pa_nil)))
      (pss_cons (ps_set (i := 3) sc_is_paper.nd rfl (Or.inl rfl) (pe_op op_catA (pe_tup (pa_cons (pv 1) pa_nil)) (pv 0)))
      (pss_cons (ps_for PassesOwn.never rfl (pi_list (pv 2)) (pg_name (i := 4) sc_is_paper.nd rfl (Or.inl rfl))
        (pss_cons (ps_if (PW.pt (pw_or (pt_cmpR op_isNn (pv 3) pe_non (nomark _)) (pw_or1 (pt_cmpR (op_neD hr.units) (pe_slice sl_tupA (pv 4) po_none (po_some pe_int)) (pv 3) (nomark _))))) (pss_one (ps_ret pe_bl)) pss_nil)
        (pss_cons (ps_asg (pv 4) (pg_tup (by rfl) (pgs_cons (pg_name (i := 1) sc_is_paper.nd rfl (Or.inl rfl)) (pgs_cons (pg_name (i := 5) sc_is_paper.nd rfl (Or.inl rfl)) (pgs_cons (pg_name (i := 6) sc_is_paper.nd rfl (Or.inl rfl)) (pgs_cons (pg_name (i := 7) sc_is_paper.nd rfl (Or.inl rfl)) (pgs_cons (pg_name (i := 8) sc_is_paper.nd rfl (Or.inl rfl)) pgs_nil)))))))
        (pss_cons (ps_if (pt_cmpR op_lt (pv 5) (pe_op op_mulX (pv 8) (pv 7)) (nomark _)) (pss_one (ps_ret pe_bl)) pss_nil)
        (pss_one (ps_set (i := 3) sc_is_paper.nd rfl (Or.inl rfl) (pcall G_follows (hr.mono (by decide)) (pa_cons (pv 1) (pa_cons (pv 5) (pa_cons (pv 6) (pa_cons (pv 7) (pa_cons (pv 8) pa_nil))))))))))))
      (pss_one (ps_ret (pe_cmpR op_isNn (pv 3) pe_non (nomark _)))))))), ?_⟩
  rw [st_is_paper]
  try dsimp only [Cx.nox, Cx.wish, Cx.blk, cx_K]
  walk_at "go"
  refine use_need_stair hp hm fun H1 e1 => ?_
  walk_at "go"
  refine use_need_count n0 n1 ?_
  walk_at "go"
  rename_i t2 H2 n2 e2 h2 t3 H3 n3 e3 h3
  refine for_lst (xs := us) (fun i σ H' => Ex H H' ∧ ∃ (w v : V) (g : Option (List Int)) (o4 o5 o6 o7 o8 : Option V), σ = [some (.ref p), some w, some (.ref l), some v, o4, o5, o6, o7, o8] ∧ BegV H' v g ∧ isP g (rs.drop i) = isP (some [n, a, b, m]) rs) ⟨(e1.trans e2).trans e3, _, _, some [n, a, b, m], _, _, _, _, _, rfl, ⟨_, _, _, _, _, rfl, rfl, n0, hm, h3⟩, rfl⟩ (fun i σ H' _ w => sql_up w.1 (SqL.of hl)) ?_ ?_
  · rintro i x σ H4 hi ⟨e4, w, v, g, o4, o5, o6, o7, o8, rfl, hv, hg⟩
    obtain ⟨pr, r, rfl, hri, hpr⟩ := hR.get hi
    obtain ⟨n', a', b', m', s', rfl, zn, za, zb, zm, zs⟩ := hz.at hri
    replace hpr : H4 pr = some (.tup [.int n', .int a', .int b', .int m', .int s']) := e4 _ _ hpr
    have hd : rs.drop i = [n', a', b', m', s'] :: rs.drop (i + 1) := by
      obtain ⟨hlt, he⟩ := List.getElem?_eq_some_iff.mp hri
      rw [← he]
      exact List.drop_eq_getElem_cons hlt
    rw [hd] at hg
    walk_at "go"
    cases g with
    | none =>
      have hv : v = .non := hv
      subst hv
      have hf : isP (some [n, a, b, m]) rs = false := hg.symm
      rw [hf] at q
      walk_at "go"
      exact q _ e4
    | some g =>
      obtain ⟨qa, n5, a5, b5, m5, rfl, rfl, k0, k1, hq⟩ := hv
      walk_at "go"
      rename_i t6 H6 n6 e6 h6
      refine if_2 (fun hx => ?_) (fun hx => ?_)
      · have hx : [n', a', b', m'] ≠ [n5, a5, b5, m5] := by
          intro z
          rw [decide_eq_true z] at hx
          cases hx
        have hf : isP (some [n, a, b, m]) rs = false := by
          rw [← hg]
          unfold isP
          rw [if_neg hx]
        rw [hf] at q
        walk_at "go"
        exact q _ (e4.trans e6)
      · have hx : [n', a', b', m'] = [n5, a5, b5, m5] := by
          by_cases z : [n', a', b', m'] = [n5, a5, b5, m5]
          · exact z
          · rw [decide_eq_false z] at hx
            cases hx
        have hg' : (if a' < s' * m' then false else isP (fol n' a' b' m' s') (rs.drop (i + 1))) = isP (some [n, a, b, m]) rs := by
          rw [← hg]
          conv => rhs; unfold isP
          rw [if_pos hx]
        have hn : n' = n5 := by simp at hx; exact hx.1
        have hmm : m' = m5 := by simp at hx; exact hx.2.2.2
        subst hn hmm
        walk_at "go"
        refine if_2 (fun hy => ?_) (fun hy => ?_)
        · have hy := of_decide_eq_true hy
          rw [if_pos hy] at hg'
          rw [← hg'] at q
          walk_at "go"
          exact q _ (e4.trans e6)
        · have hy := of_decide_eq_false hy
          rw [if_neg hy] at hg'
          walk_at "go"
          refine use_follows k1 (zn.mono (by decide)) (za.mono (by decide)) (zm.mono (by decide)) (zs.mono (by decide)) (fun ht => ?_) (fun ht p7 H7 n7 e7 h7 => ?_)
          · walk_at "go"
            refine ⟨e4.trans e6, _, _, none, _, _, _, _, _, rfl, rfl, ?_⟩
            rw [← hg']
            unfold fol
            rw [if_pos ht]
          · walk_at "go"
            have sl : 0 ≤ a' - s' * m' := by omega
            obtain ⟨s0, _⟩ := fol_m k1 k0 sl ht
            refine ⟨(e4.trans e6).trans e7, _, _, some _, _, _, _, _, _, rfl, ⟨_, _, _, _, _, rfl, rfl, Int.ediv_nonneg (by omega) (by omega), s0, h7⟩, ?_⟩
            rw [← hg']
            unfold fol
            rw [if_neg (by omega)]
  · rintro σ H' ⟨e4, w, v, g, o4, o5, o6, o7, o8, rfl, hv, hg⟩
    rw [hR.len, List.drop_length, isP_stop] at hg
    rw [← hg] at q
    cases g with
    | none =>
      have hv : v = .non := hv
      subst hv
      walk_at "go"
      exact q _ e4
    | some g =>
      obtain ⟨qa, n5, a5, b5, m5, rfl, _⟩ := hv
      walk_at "go"
      exact q _ e4

end
def sp_law_quick (_ : PySem.W.Frag) : Sp := fun vs H Q _ => ∃ (p : Addr) (a b m n : Int), vs = [.ref p, .int n] ∧ H p = some (.tup [.int a, .int b, .int m]) ∧ 0 < m ∧ Sz 3000 a ∧ Sz 3000 b ∧ Sz 3000 m ∧ Sz 3000 n ∧ 0 ≤ n ∧ ∀ H', Ex H H' → Q (.int (fs n.toNat a b m)) H'
theorem use_law_quick {K : PySem.W.Frag} {H : Hp} {Q : VK} {E : XK} {p : Addr} {a b m n : Int} (h : H p = some (.tup [.int a, .int b, .int m])) (hm : 0 < m) (za : Sz 3000 a) (zb : Sz 3000 b) (zm : Sz 3000 m) (zn : Sz 3000 n) (h0 : 0 ≤ n)
    (q : ∀ H', Ex H H' → Q (.int (fs n.toNat a b m)) H') : sp_law_quick K [.ref p, .int n] H Q E := ⟨p, a, b, m, n, rfl, h, hm, za, zb, zm, zn, h0, q⟩
/-- what is kept from turn to turn -/
theorem quick_turn {L a b m : Int} (hm : 0 < m) (h0 : 0 ≤ L) : fs (L + 1).toNat a b m = a / m * (L * (L + 1) / 2) + b / m * (L + 1) + (L * ((a % m * L + b % m) / m) - fs ((a % m * L + b % m) / m).toNat m (m - b % m - 1) (a % m)) := by
  obtain ⟨n, rfl⟩ : ∃ n : Nat, L = n := ⟨L.toNat, by omega⟩
  have e1 : ((n : Int) + 1).toNat = n + 1 := by omega
  rw [e1, fs_split (n + 1) a b hm, fs_quick (b % m) (Int.emod_nonneg a (show m ≠ 0 by omega)) (Int.emod_nonneg b (show m ≠ 0 by omega)) (Int.emod_lt_of_pos b hm) n]
  have e2 : (((n + 1 : Nat) : Int)) = (n : Int) + 1 := rfl
  rw [e2, show ((n : Int) + 1) * ((n : Int) + 1 - 1) = (n : Int) * ((n : Int) + 1) by rw [show (n : Int) + 1 - 1 = n by omega, Int.mul_comm]]
abbrev s_law_quick : Stmt := topS 65
abbrev nm_law_quick : List Str := ["stair", "n", "a", "b", "m", "last", "total", "sign", "square", "top"]
theorem sc_law_quick : FnScope nm_law_quick ["stair", "n"] (defScope s_law_quick) := ⟨rfl, rfl, rfl, by decide +kernel, rfl, by decide +kernel, by decide +kernel⟩
theorem st_law_quick {v0 v1 : V} : start nm_law_quick [v0, v1] = [some v0, some v1, none, none, none, none, none, none, none, none] := rfl
section
variable {P : Program} {w : World} {K : PySem.W.Frag} {mg : Str → Option Value} {base : Heap}
theorem ok_law_quick (D : DefAt K mg "_law_quick" s_law_quick ["stair", "n"]) : Has P w K mg base CX0 2 "_law_quick" ["stair", "n"] (sp_law_quick K) := by
  refine D.ok sc_law_quick (by rintro _ _ _ _ ⟨_, _, _, _, _, rfl, _⟩; rfl) (fun f cdv A outer s H vs Q E hr h => ?_)
  obtain ⟨p, a, b, m, n, rfl, hp, hm, za, zb, zm, zn, h0, q⟩ := h
  refine ⟨_, (pss_cons (ps_asg (pv 0) (pg_tup (by rfl) (pgs_cons (pg_name (i := 2) sc_law_quick.nd rfl (Or.inl rfl)) (pgs_cons (pg_name (i := 3) sc_law_quick.nd rfl (Or.inl rfl)) (pgs_cons (pg_name (i := 4) sc_law_quick.nd rfl (Or.inl rfl)) pgs_nil)))))
      (pss_cons (ps_set (i := 5) sc_law_quick.nd rfl (Or.inl rfl) (pe_op op_sub (pv 1) pe_int))
      (pss_cons (ps_set (i := 6) sc_law_quick.nd rfl (Or.inl rfl) pe_int)
      (pss_cons (ps_set (i := 7) sc_law_quick.nd rfl (Or.inl rfl) pe_int)
      (pss_cons (ps_while PassesOwn.never (pt_cmpR op_ge (pv 5) pe_int (nomark _)) (pss_cons (ps_set (i := 8) sc_law_quick.nd rfl (Or.inl rfl) (pe_op op_fdivW (pe_op op_mulX (pv 5) (pe_op op_add (pv 5) pe_int)) pe_int))
        (pss_cons (ps_set (i := 6) sc_law_quick.nd rfl (Or.inl rfl) (pe_op op_add (pv 6) (pe_op op_mulX (pv 7) (pe_op op_add (pe_op op_mulX (pe_op op_fdivW (pv 2) (pv 4)) (pv 8)) (pe_op op_mulX (pe_op op_fdivW (pv 3) (pv 4)) (pe_op op_add (pv 5) pe_int))))))
        (pss_cons (ps_set (i := 2) sc_law_quick.nd rfl (Or.inl rfl) (pe_op op_mod (pv 2) (pv 4)))
        (pss_cons (ps_set (i := 3) sc_law_quick.nd rfl (Or.inl rfl) (pe_op op_mod (pv 3) (pv 4)))
        (pss_cons (ps_set (i := 9) sc_law_quick.nd rfl (Or.inl rfl) (pe_op op_fdivW (pe_op op_add (pe_op op_mulX (pv 2) (pv 5)) (pv 3)) (pv 4)))
        (pss_cons (ps_set (i := 6) sc_law_quick.nd rfl (Or.inl rfl) (pe_op op_add (pv 6) (pe_op op_mulX (pe_op op_mulX (pv 7) (pv 5)) (pv 9))))
        (pss_cons (ps_set (i := 7) sc_law_quick.nd rfl (Or.inl rfl) (pe_op op_sub pe_int (pv 7)))
        (pss_one (ps_asg (pe_tup (pa_cons (pe_op op_sub (pv 9) pe_int) (pa_cons (pv 4) (pa_cons (pe_op op_sub (pe_op op_sub (pv 4) (pv 3)) pe_int) (pa_cons (pv 2) pa_nil))))) (pg_tup (by rfl) (pgs_cons (pg_name (i := 5) sc_law_quick.nd rfl (Or.inl rfl)) (pgs_cons (pg_name (i := 2) sc_law_quick.nd rfl (Or.inl rfl)) (pgs_cons (pg_name (i := 3) sc_law_quick.nd rfl (Or.inl rfl)) (pgs_cons (pg_name (i := 4) sc_law_quick.nd rfl (Or.inl rfl)) pgs_nil)))))))))))))))
      (pss_one (ps_ret (pv 6)))))))), ?_⟩
  rw [st_law_quick]
  try dsimp only [Cx.nox, Cx.wish, Cx.blk, cx_K]
  walk_at "go"
  refine while_m (fun μ σ H' => Ex H H' ∧ ∃ (a' b' m' L t s : Int) (o1 o2 : Option V), σ = [some (.ref p), some (.int n), some (.int a'), some (.int b'), some (.int m'), some (.int L), some (.int t), some (.int s), o1, o2] ∧ μ = m'.toNat ∧ 0 ≤ m' ∧ (0 ≤ L → 0 < m') ∧ -1 ≤ L ∧ Sz 3000 a' ∧ Sz 3000 b' ∧ Sz 3000 m' ∧ Sz 3300 L ∧ (s = 1 ∨ s = -1) ∧ t + s * fs (L + 1).toNat a' b' m' = fs n.toNat a b m)
    m.toNat ⟨Ex.refl, a, b, m, n - 1, 0, 1, none, none, rfl, rfl, by omega, fun _ => hm, by omega, za, zb, zm, by walk_at "szm", .inl rfl, by rw [show n - 1 + 1 = n by omega]; omega⟩ ?_
  rintro μ σ H1 ⟨e1, a', b', m', L, t, s, o1, o2, rfl, rfl, m0, hLm, L0, za', zb', zm', zL, hs, e⟩
  walk_at "go"
  refine if_2 (fun hx => ?_) (fun hx => ?_)
  · have hx := of_decide_eq_true hx
    have mp := hLm hx
    refine r_body (fun σ H' => Ex H H' ∧ ∃ (a1 b1 m1 L1 t1 s1 : Int) (o1 o2 : Option V), σ = [some (.ref p), some (.int n), some (.int a1), some (.int b1), some (.int m1), some (.int L1), some (.int t1), some (.int s1), o1, o2] ∧ m1.toNat < m'.toNat ∧ 0 ≤ m1 ∧ (0 ≤ L1 → 0 < m1) ∧ -1 ≤ L1 ∧ Sz 3000 a1 ∧ Sz 3000 b1 ∧ Sz 3000 m1 ∧ Sz 3300 L1 ∧ (s1 = 1 ∨ s1 = -1) ∧ t1 + s1 * fs (L1 + 1).toNat a1 b1 m1 = fs n.toNat a b m) ?_ ?_
    · rintro σ H2 ⟨e2, a1, b1, m1, L1, t1, s1, o1, o2, rfl, lt, r⟩
      exact ⟨_, lt, e2, a1, b1, m1, L1, t1, s1, o1, o2, rfl, rfl, r⟩
    have r0 := Int.emod_nonneg a' (show m' ≠ 0 by omega)
    have r1 := Int.emod_lt_of_pos a' mp
    have s0 := Int.emod_nonneg b' (show m' ≠ 0 by omega)
    have s1 := Int.emod_lt_of_pos b' mp
    have zs : Sz 200 s := Sz.small (by omega)
    have rn : 0 ≤ a' % m' * L := Int.mul_nonneg r0 (by omega)
    have y0 : 0 ≤ (a' % m' * L + b' % m') / m' := Int.ediv_nonneg (by omega) (by omega)
    have y1 : (a' % m' * L + b' % m') / m' ≤ L := by
      have h : (a' % m' * L + b' % m') / m' < L + 1 := by
        refine (Int.ediv_lt_iff_lt_mul mp).mpr ?_
        have h1 : a' % m' * L ≤ (m' - 1) * L := Int.mul_le_mul_of_nonneg_right (by omega) hx
        rw [Int.sub_mul, Int.one_mul] at h1
        rw [Int.add_mul, Int.one_mul, Int.mul_comm L m']
        omega
      omega
    have qt := quick_turn (a := a') (b := b') mp hx
    walk_at "go"
    rename_i tp H2 ntp e2 htp
    walk_at "go"
    refine ⟨e1.trans e2, _, _, _, _, _, _, _, _, rfl, by omega, r0, fun yp => ?_, by omega, zm', ?_, Sz.mod zm' mp, ?_, by omega, ?_⟩
    · by_cases z : a' % m' = 0
      · rw [z, Int.zero_mul, Int.zero_add, Int.ediv_eq_zero_of_lt s0 s1] at yp
        omega
      · omega
    · exact zm'.le (by omega) (by omega)
    · by_cases yz : (a' % m' * L + b' % m') / m' = 0
      · rw [yz]
        exact Sz.mono (n := 200) Sz.lit (by decide)
      · exact zL.le (by omega) (by omega)
    · rw [← e, qt]
      generalize (a' % m' * L + b' % m') / m' = y at y0 y1 ⊢
      rw [show y - 1 + 1 = y by omega]
      generalize fs y.toNat m' (m' - b' % m' - 1) (a' % m') = F
      generalize a' / m' * (L * (L + 1) / 2) + b' / m' * (L + 1) = G
      rcases hs with rfl | rfl
      · rw [Int.one_mul, Int.one_mul, Int.one_mul]
        omega
      · rw [show (-1 : Int) * L * y = -(L * y) by rw [Int.mul_assoc, Int.neg_mul, Int.one_mul]]
        omega
  · have hx := of_decide_eq_false hx
    walk_at "go"
    have e0 : (L + 1).toNat = 0 := by omega
    rw [e0, fs_zero] at e
    rw [show t = fs n.toNat a b m by omega]
    exact q _ e1

end
def sp_law (K : PySem.W.Frag) : Sp := fun vs H Q _ => ∃ (a : Addr) (ns : List Int), vs = [.ref a] ∧ SqL K H a (ns.map V.int) ∧ ns.length ≤ 63 ∧ ∀ H', Q (.bl true) H'
abbrev s_law : Stmt := topS 67
abbrev nm_law : List Str := ["script", "draws", "stair", "n", "ledger", "k", "due", "first", "again", "one", "paper", "ring", "handed", "told"]
theorem sc_law : FnScope nm_law ["script"] (defScope s_law) := ⟨rfl, rfl, rfl, by decide +kernel, rfl, by decide +kernel, by decide +kernel⟩
theorem st_law {v0 : V} : start nm_law [v0] = [some v0, none, none, none, none, none, none, none, none, none, none, none, none, none] := rfl
section
variable {P : Program} {w : World} {K : PySem.W.Frag} {mg : Str → Option Value} {base : Heap}
theorem ok_law {C_Ledger : Addr} {f : Addr} {fd : FuncData} (F : Fun K "law" "law" s_law f fd) (U_Ledger : TxC K mg "Ledger" C_Ledger ["kept", "now_worth", "former"]) (B_range : mg "range" = none) (B_list : mg "list" = none) (B_isinstance : mg "isinstance" = none) (G__law_draws : Has P w K mg base CX0 2 "_law_draws" ["script", "k"] (sp_law_draws K)) (G__law_stair : Has P w K mg base CX0 5 "_law_stair" ["draws"] (sp_law_stair K)) (G__law_great_count : Has P w K mg base CX0 4 "_law_great_count" ["draws"] (sp_law_great_count K)) (G_Ledger___init__ : HasI P w K mg base CX0 2 C_Ledger ["self"] (sp_Ledger___init__ K C_Ledger)) (G__law_draw : Has P w K mg base CX0 2 "_law_draw" ["draws", "many"] (sp_law_draw K)) (G_Ledger_put : HasM P w K mg base CX0 5 C_Ledger "put" ["self", "stair", "k", "n", "times"] (sp_Ledger_put K C_Ledger)) (G__law_told : Has P w K mg base CX0 116 "_law_told" ["stair", "n", "ledger"] (sp_law_told K C_Ledger)) (G_paper_of : Has P w K mg base CX0 5 "paper_of" ["stair", "n"] (sp_paper_of K)) (G_points_in : Has P w K mg base CX0 7 "points_in" ["ring"] (sp_points_in K)) (G_paper_text : Has P w K mg base CX0 2 "paper_text" ["paper"] (sp_paper_text K)) (G_taken : Has P w K mg base CX0 2 "taken" ["paper"] (sp_taken K)) (G_is_paper : Has P w K mg base CX0 5 "is_paper" ["stair", "n", "paper"] (sp_is_paper K)) (G__law_quick : Has P w K mg base CX0 2 "_law_quick" ["stair", "n"] (sp_law_quick K)) : FnOk P w K mg base CX0 117 f fd ["script"] (sp_law K) := by
  refine F.ok sc_law (by rintro _ _ _ _ ⟨_, _, rfl, _⟩; rfl) (fun cdv A outer s H vs Q E hr h => ?_)
  obtain ⟨cl_Ledger, mg_Ledger, n_Ledger_kept, n_Ledger_now_worth, n_Ledger_former, _⟩ := U_Ledger
  obtain ⟨a, ns, rfl, hS, hlen, q⟩ := h
  refine ⟨_, (pss_cons (ps_set (i := 1) sc_law.nd rfl (Or.inl rfl) (pcall G__law_draws (hr.mono (by decide)) (pa_cons (pv 0) (pa_cons pe_int pa_nil))))
      (pss_cons (ps_set (i := 2) sc_law.nd rfl (Or.inl rfl) (pcall G__law_stair (hr.mono (by decide)) (pa_cons (pv 1) pa_nil)))
      (pss_cons (ps_set (i := 3) sc_law.nd rfl (Or.inl rfl) (pcall G__law_great_count (hr.mono (by decide)) (pa_cons (pv 1) pa_nil)))
      (pss_cons (ps_set (i := 4) sc_law.nd rfl (Or.inl rfl) (pmake0 mg_Ledger G_Ledger___init__ (hr.mono (by decide))))
      (pss_cons (ps_for PassesOwn.never rfl (pi_range1 rfl B_range (pa_cons pe_int pa_nil)) (pg_name (i := 5) sc_law.nd rfl (Or.inl rfl))
        (pss_one (ps_expr (pmeth cl_Ledger G_Ledger_put (hr.mono (by decide)) (pv 4) (pa_cons (pv 2) (pa_cons (pv 5) (pa_cons (pcall G__law_draw (hr.mono (by decide)) (pa_cons (pv 1) (pa_cons pe_int pa_nil))) (pa_cons pe_int pa_nil))))))))
      (pss_cons (ps_setLc (i := 6) rfl sc_law.nd rfl rfl (sw_true rfl rfl rfl (by decide +kernel)) (pi_list (pcall G__law_told (hr.mono (by decide)) (pa_cons (pv 2) (pa_cons (pv 3) (pa_cons (pv 4) pa_nil))))) (blkOk_by (own := [("one", 9)]) (N := nm_law) (sc := defScope s_law) (by decide +kernel)) (fun _ _ _ _ _ => (pg_name (i := 9) sc_law.nd rfl (Or.inl rfl))) (fun _ _ _ _ _ => pts_nil) (fun _ _ _ _ _ => (pe_callTy (cl_listOfK (K := K)) (by rfl) B_list (by decide +kernel) (pa_cons (pv 9) pa_nil))))
      (pss_cons (ps_set (i := 7) sc_law.nd rfl (Or.inl rfl) (pcall G__law_told (hr.mono (by decide)) (pa_cons (pv 2) (pa_cons (pv 3) (pa_cons (pv 4) pa_nil)))))
      (pss_cons (ps_set (i := 8) sc_law.nd rfl (Or.inl rfl) (pcall G__law_told (hr.mono (by decide)) (pa_cons (pv 2) (pa_cons (pv 3) (pa_cons (pv 4) pa_nil)))))
      (pss_cons (ps_for PassesOwn.never rfl (pi_list (pv 7)) (pg_name (i := 9) sc_law.nd rfl (Or.inl rfl))
        (pss_cons (ps_if (pt_not (pt_val (pe_callB call_isi (by rfl) B_isinstance (by decide +kernel) (pa_cons (pv 9) (pa_cons (pe_bltn (v := .ty "list") (by rfl) B_list (by decide +kernel) rfl) pa_nil))))) (pss_one (ps_ret pe_bl)) pss_nil)
        (pss_one (ps_expr (pe_bm PySem.F.plainAttrs_list PySem.F.slot_list_append PySem.F.type_list_append mt_append (pv 9) (pa_cons pe_int pa_nil))))))
      (pcut (ps_if (PW.pt (pw_or (pt_cmpR (op_neD hr.units) (pv 8) (pv 6) (nomark _)) (pw_or (pt_cmpR (op_neD hr.units) (pcall G__law_told (hr.mono (by decide)) (pa_cons (pv 2) (pa_cons (pv 3) (pa_cons (pv 4) pa_nil)))) (pv 6) (nomark _)) (pw_or1 (pt_cmpR (op_neD hr.units) (pe_lc rfl sc_law.nd (pi_list (pv 7)) (blkOk_by (own := [("one", 9)]) (N := nm_law) (sc := defScope s_law) (by decide +kernel)) (fun _ _ _ _ _ => (pg_name (i := 9) sc_law.nd rfl (Or.inl rfl))) (fun _ _ _ _ _ => pts_nil) (fun _ _ _ _ _ => (pe_slice (sl_listK (K := K)) (pv 9) po_none (po_some (pe_un un_neg pe_int))))) (pv 6) (nomark _)))))) (pss_one (ps_ret pe_bl)) pss_nil)
      (pss_cons (ps_set (i := 10) sc_law.nd rfl (Or.inl rfl) (pcall G_paper_of (hr.mono (by decide)) (pa_cons (pv 2) (pa_cons (pv 3) pa_nil))))
      (pss_cons (ps_set (i := 11) sc_law.nd rfl (Or.inl rfl) (pe_lst (pa_cons (pe_tup (pa_cons (pe_tup (pa_cons pe_int (pa_cons pe_int pa_nil))) (pa_cons (pe_tup (pa_cons pe_int (pa_cons pe_int pa_nil))) pa_nil))) (pa_cons (pe_tup (pa_cons (pe_tup (pa_cons pe_int (pa_cons pe_int pa_nil))) (pa_cons (pe_tup (pa_cons pe_int (pa_cons pe_int pa_nil))) pa_nil))) (pa_cons (pe_tup (pa_cons (pe_tup (pa_cons pe_int (pa_cons pe_int pa_nil))) (pa_cons (pe_tup (pa_cons pe_int (pa_cons pe_int pa_nil))) pa_nil))) pa_nil)))))
      (pss_cons (ps_set (i := 12) sc_law.nd rfl (Or.inl rfl) (pe_lst (pa_cons (pe_callTy cl_listOf (by rfl) B_list (by decide +kernel) (pa_cons (pv 10) pa_nil)) (pa_cons (pe_callTy cl_listOf (by rfl) B_list (by decide +kernel) (pa_cons (pv 10) pa_nil)) (pa_cons (pe_callTy cl_listOf (by rfl) B_list (by decide +kernel) (pa_cons (pv 10) pa_nil)) (pa_cons (pe_callTy cl_listOf (by rfl) B_list (by decide +kernel) (pa_cons (pv 11) pa_nil)) pa_nil))))))
      (pss_cons (ps_set (i := 13) sc_law.nd rfl (Or.inl rfl) (pe_lst (pa_cons (pcall G_is_paper (hr.mono (by decide)) (pa_cons (pv 2) (pa_cons (pv 3) (pa_cons (pe_ix ix_list (pv 12) pe_int (fun _ _ => rfl)) pa_nil)))) (pa_cons (pcall G_taken (hr.mono (by decide)) (pa_cons (pe_ix ix_list (pv 12) pe_int (fun _ _ => rfl)) pa_nil)) (pa_cons (pcall G_paper_text (hr.mono (by decide)) (pa_cons (pe_ix ix_list (pv 12) pe_int (fun _ _ => rfl)) pa_nil)) (pa_cons (pcall G_points_in (hr.mono (by decide)) (pa_cons (pe_ix ix_list (pv 12) pe_int (fun _ _ => rfl)) pa_nil)) pa_nil))))))
      (pcut (ps_if (pt_cmpR (op_neD hr.units) (pv 12) (pe_lst (pa_cons (pv 10) (pa_cons (pv 10) (pa_cons (pv 10) (pa_cons (pv 11) pa_nil))))) (nomark _)) (pss_one (ps_ret pe_bl)) pss_nil)
      (pss_cons (ps_for PassesOwn.never rfl (pi_list (pv 12)) (pg_name (i := 9) sc_law.nd rfl (Or.inl rfl))
        (pss_one (ps_expr (pe_bm0 PySem.F.plainAttrs_list PySem.F.slot_list_clear PySem.F.type_list_clear mt_clear (pv 9)))))
      (pss_one (ps_ret (pe_cmpR (op_eqD hr.units) (pv 13) (pe_lst (pa_cons pe_bl (pa_cons (pcall G__law_quick (hr.mono (by decide)) (pa_cons (pv 2) (pa_cons (pv 3) pa_nil))) (pa_cons (pcall G_paper_text (hr.mono (by decide)) (pa_cons (pv 10) pa_nil)) (pa_cons (pcall G_points_in (hr.mono (by decide)) (pa_cons (pv 11) pa_nil)) pa_nil))))) (nomark _)))))))))))))))))))), ?_⟩
  rw [st_law]
  try dsimp only [Cx.nox, Cx.wish, Cx.blk, cx_K]
  walk_at "go"
  refine use_law_draws hS (by decide) (by decide) fun d0 H1 nd0 e1 D1 => ?_
  walk_at "go"
  refine use_law_stair D1 fun ps a1 b1 m1 H2 S1 nps k2 D2 hps => ?_
  have m0 := S1.m0
  have zm := S1.zm
  have zb := S1.zb
  have za := S1.za
  walk_at "go"
  refine use_law_great_count D2 fun n H4 c4 d4 k4 D4 => ?_
  have hps := k4.tup D2 hps
  have psd : ps ≠ d0 := by
    obtain ⟨x, y, hx, _⟩ := D4
    exact ne_of hps hx (by intro z; cases z)
  walk_at "go"
  refine r_newO fun x dx H5 nx e5 hx => ?_
  have fx : minus H4 [d0] x = none := free_back minus_ex nx
  have fd : minus H4 [d0] d0 = none := minus_in (by simp)
  have fps : minus H4 [d0] ps = some (.tup [.int a1, .int b1, .int m1]) := minus_at (by simp [psd]) hps
  have eF : Ex (minus H4 [d0]) H5 := minus_ex.trans e5
  walk_at "go"
  refine use_Ledger___init__ hx eF fx fun fl F6 H6 nfl k6 G6 Z6 L6 => ⟨rfl, ?_⟩
  have S6 : S57 C_Ledger F6 H6 x fl d0 ps a1 b1 m1 [] [] := by
    obtain ⟨u, v, hu, hv⟩ := D4.up e5
    have xd : d0 ≠ x := ne_of hu hx (by intro z; cases z)
    refine ⟨L6, Z6, ⟨u, v, k6 _ _ xd hu, hv⟩, G6.none hu fd, ?_, G6.ex.at fps⟩
    exact (ne_of_none hu nfl).symm
  clear k6 G6 Z6 L6 hx fx fd fps eF nx e5 hps k4 k2 D1 D2 D4 e1
  walk_at "go"
  refine r_rng1 (by decide) (by decide) ?_
  have z2 : Sz 620 (2 : Int) := by walk_at "szm"
  refine for_rng (fun i σ H' => ∃ (F : Hp) (es : List Ent) (hs : List (List Ent)) (o5 : Option V), σ = [some (.ref a), some (.ref d0), some (.ref ps), some (.int n), some (.ref x), o5, none, none, none, none, none, none, none, none] ∧ S57 C_Ledger F H' x fl d0 ps a1 b1 m1 es hs ∧ es.length = i ∧ hs.length = i) ⟨F6, [], [], none, rfl, S6, rfl, rfl⟩ ?_ ?_
  · clear S6
    rintro i σ G1 hi ⟨F, es, hs, o5, rfl, S, le, lh⟩
    have hi3 : i < 3 := hi
    obtain ⟨⟨_, _, hxx, _⟩, _, hff, _⟩ := id S.L
    walk_at "go"
    refine use_law_draw S.D (by decide) (by walk_at "szm") fun v G2 v0 v1 k2 D2 => ?_
    have S := S.draw k2 D2
    clear k2 D2 hxx hff
    obtain ⟨⟨_, _, hxx, _⟩, _, hff, _⟩ := id S.L
    walk_at "go"
    refine use_Ledger_put (e := ⟨a1, b1, m1, 0 + (i : Int), v, 2⟩) S.L S.Z S.s ⟨m0, za.mono (by decide), zb.mono (by decide), zm, (show Sz 620 (0 + (i : Int)) from (Sz.small (by omega)).mono (by decide)), v0, by show v < _; omega, z2⟩ (by omega) (by omega) fun F3 G3 gr k3 Z3 L3 => ?_
    walk_at "go"
    exact ⟨F3, _, _, _, rfl, S.put gr k3 Z3 L3, by rw [List.length_append, List.length_singleton, le], by rw [List.length_append, List.length_singleton, lh]⟩
  rintro σ H0 ⟨F, es, hs, o5, rfl, S, le, lh⟩
  clear S6
  have hps := S.Z.sub.at S.s
  have L0 := S.L
  have eF0 := S.Z.sub
  have el : es.length ≤ 200 := by rw [le]; decide
  obtain ⟨⟨_, _, hxx, _⟩, _, hff, _⟩ := id L0
  walk_at "go"
  refine use_law_told hps m0 (za.mono (by decide)) (zb.mono (by decide)) zm c4 d4 L0 eF0 el fun p1 ls1 dss H1 f1 e1 r1 nd1 h1 A1 T1 => ?_
  have ok := T1.ok
  walk_at "go"
  have lz1 : dss.length = (ls1.map V.ref).length := by rw [List.length_map, A1.len]
  have dl : dss.length = 6 := by
    obtain ⟨_, _, _, _, _, _, _, _, rfl, _⟩ := id T1
    rfl
  refine lc_lsd dss lz1 (SqL.of h1) (by omega) (fun _ => rfl) (fun i y ds hy hds G eG QE kE => ?_) (fun p2 H2 ls2 f2 e2 h2 A2 r2 nd2 => ?_)
  · rw [List.getElem?_map] at hy
    obtain ⟨l, hl, rfl⟩ := Option.map_eq_some_iff.mp hy
    obtain ⟨ds', hds', vs, hv, hd, hn⟩ := A1.at hl
    rw [hds] at hds'
    cases hds'
    have hv := eG.at hv
    walk_at "go"
    rename_i l' G2 n2 e2 h2
    exact kE l' G2 n2 e2 ⟨vs, h2, hd.imp fun _ _ q => e2.at (eG.at q), hn⟩
  have E2 := e1.trans e2
  clear A1 h1 e1 e2 r1 nd1 f1 f2 r2 lz1
  have L2 := L0.ex E2
  obtain ⟨⟨_, _, hxx, _⟩, _, hff, _⟩ := id L2
  walk_at "go"
  refine use_law_told (E2.at hps) m0 (za.mono (by decide)) (zb.mono (by decide)) zm c4 d4 L2 (eF0.trans E2) el fun p3 ls3 dss3 H3 f3 e3 r3 nd3 h3 A3 T3 => ?_
  have e33 := T3.uniq c4 T1
  rw [e33] at A3
  have E3 := E2.trans e3
  have L3 := L2.ex e3
  have x23 : ∀ l ∈ ls2, l ∉ p3 :: ls3 := fun l hl hz => by
    obtain ⟨i, hi⟩ := List.getElem?_of_mem hl
    obtain ⟨_, _, g⟩ := A2.at hi
    rcases List.mem_cons.mp hz with rfl | hz
    · exact g.ne f3 rfl
    · exact g.ne (r3 l hz) rfl
  have y23 : p2 ∉ p3 :: ls3 := fun hz => by
    rcases List.mem_cons.mp hz with rfl | hz
    · exact ne_of_none h2 f3 rfl
    · exact ne_of_none h2 (r3 p2 hz) rfl
  obtain ⟨⟨_, _, hxx, _⟩, _, hff, _⟩ := id L3
  walk_at "go"
  refine use_law_told (E3.at hps) m0 (za.mono (by decide)) (zb.mono (by decide)) zm c4 d4 L3 (eF0.trans E3) el fun p4 ls4 dss4 H4 f4 e4 r4 nd4 h4 A4 T4 => ?_
  have e44 := T4.uniq c4 T1
  rw [e44] at A4
  have E4 := E3.trans e4
  have x34 : ∀ l ∈ ls4, l ∉ p3 :: ls3 := fun l hl hz => by
    have n := r4 l hl
    rcases List.mem_cons.mp hz with rfl | hz
    · rw [h3] at n
      cases n
    · obtain ⟨i, hi⟩ := List.getElem?_of_mem hz
      obtain ⟨_, _, g⟩ := A3.at hi
      exact g.ne n rfl
  have hl3 : ls3.length = dss.length := A3.len
  have y34 : p4 ∉ p3 :: ls3 := fun hz => by
    rcases List.mem_cons.mp hz with rfl | hz
    · exact ne_of_none h3 f4 rfl
    · obtain ⟨i, hi⟩ := List.getElem?_of_mem hz
      obtain ⟨_, _, g⟩ := A3.at hi
      exact g.ne f4 rfl
  have h3 := e4.at h3
  have h2 := (e3.trans e4).at h2
  have A2 := A2.ex (e3.trans e4)
  have A3 := A3.ex e4
  rw [List.nodup_cons] at nd3
  have f3n : ∀ l ∈ ls3, H0 l = none := fun l hl => free_back E2 (r3 l hl)
  clear e3 e4 L2 L3 E2 E3 nd2 nd4 f3 f4 r3 r4 T3 T4 e33 e44
  walk_at "go"
  refine for_lst (xs := ls3.map V.ref) (fun i σ H' => ∃ o9 : Option V, σ = [some (.ref a), some (.ref d0), some (.ref ps), some (.int n), some (.ref x), o5, some (.ref p2), some (.ref p3), some (.ref p4), o9, none, none, none, none] ∧ Ex H0 H' ∧ H' p3 = some (.lst (ls3.map V.ref)) ∧ H' p2 = some (.lst (ls2.map V.ref)) ∧ H' p4 = some (.lst (ls4.map V.ref)) ∧ LsdA H' ls2 dss ∧ LsdA H' ls4 dss ∧ PtW H' ls3 dss i) ⟨_, rfl, E4, h3, h2, h4, A2, A4, A3.pt⟩ (fun i σ H' _ h => ?_) ?_ ?_
  · obtain ⟨_, _, _, z, _⟩ := h
    exact SqL.of z
  · clear h2 h3 h4 A2 A3 A4 E4
    rintro i y σ G1 hy ⟨o9, rfl, E4, h3, h2, h4, A2, A4, P⟩
    rw [List.getElem?_map] at hy
    obtain ⟨l, hl, rfl⟩ := Option.map_eq_some_iff.mp hy
    have ml := List.mem_of_getElem? hl
    obtain ⟨ds, hds, vs, hv, hd, hn⟩ := P i l hl
    rw [if_neg (Nat.lt_irrefl _)] at hd
    walk_at "go"
    refine r_app hv (by omega) fun G2 k2 h5 => ?_
    walk_at "go"
    have l3 : p3 ≠ l := fun z => nd3.1 (by rw [z]; exact ml)
    have l2 : p2 ≠ l := fun z => y23 (by rw [z]; exact List.mem_cons_of_mem _ ml)
    have l4 : p4 ≠ l := fun z => y34 (by rw [z]; exact List.mem_cons_of_mem _ ml)
    exact ⟨_, rfl, E4.kpd (f3n l ml) k2, k2 _ _ l3 h3, k2 _ _ l2 h2, k2 _ _ l4 h4, A2.kpL k2 hv (fun z => x23 l z (List.mem_cons_of_mem _ ml)), A4.kpL k2 hv (fun z => x34 l z (List.mem_cons_of_mem _ ml)), P.step nd3.2 hl hv k2 h5 (by have := hd.len; have := T1.len ds (List.mem_of_getElem? hds); omega)⟩
  rintro σ H5 ⟨o9, rfl, E5, h3', h2', h4', A2', A4', P⟩
  clear h2 h3 h4 A2 A3 A4 E4
  walk_at "go"
  have len3 : (ls3.map V.ref).length = ls3.length := List.length_map ..
  refine r_cut (fun σ' H' => σ' = [some (.ref a), some (.ref d0), some (.ref ps), some (.int n), some (.ref x), o5, some (.ref p2), some (.ref p3), some (.ref p4), o9, none, none, none, none] ∧ Ex H0 H') ?_ ?_
  · walk_at "go"
    refine r_neLsd h4' h2' A4' A2' ok ?_
    have L5 := L0.ex E5
    obtain ⟨⟨_, _, hxx, _⟩, _, hff, _⟩ := id L5
    walk_at "go"
    refine use_law_told (E5.at hps) m0 (za.mono (by decide)) (zb.mono (by decide)) zm c4 d4 L5 (eF0.trans E5) el fun p6 ls6 dss6 H6 f6 e6 r6 nd6 h6 A6 T6 => ?_
    have e66 := T6.uniq c4 T1
    rw [e66] at A6
    have h2' := e6.at h2'
    have A2' := A2'.ex e6
    walk_at "go"
    refine r_neLsd h6 h2' A6 A2' ok ?_
    have h3' := e6.at h3'
    have P := P.ex e6
    walk_at "go"
    refine lc_lsd dss (by rw [len3, hl3]) (SqL.of h3') (by rw [len3, hl3]; omega) (fun _ => rfl) (fun i y ds hy hds G eG QE kE => ?_) (fun p7 H7 ls7 f7 e7 h7 A7 r7 nd7 => ?_)
    · rw [List.getElem?_map] at hy
      obtain ⟨l, hl, rfl⟩ := Option.map_eq_some_iff.mp hy
      obtain ⟨ds', hds', vs, hv, hd, hn⟩ := P i l hl
      rw [hds] at hds'
      cases hds'
      rw [if_pos (by have := (List.getElem?_eq_some_iff.mp hl).1; rw [len3]; exact this)] at hd
      obtain ⟨us, v, rfl, hd2⟩ := DtAll.unsnoc hd
      clear hd
      have hv := eG.at hv
      rw [List.length_append] at hn
      walk_at "go"
      refine r_slL hv fun l' G2 n2 e2 h2 => ?_
      rw [cut_m1] at h2
      exact kE l' G2 n2 e2 ⟨us, h2, hd2.imp fun _ _ q => e2.at (eG.at q), by omega⟩
    · walk_at "go"
      refine r_neLsd h7 (e7.at h2') A7 (A2'.ex e7) ok ?_
      walk_at "go"
      exact ⟨rfl, (E5.trans e6).trans e7⟩
  rintro σ' H6 ⟨rfl, E6⟩
  have hps6 := E6.at hps
  clear h2' h3' h4' A2' A4' P x23 x34 y23 y34 nd3 f3n L0 hxx hff T1 ok
  walk_at "go"
  refine use_paper_of hps6 m0 (za.mono (by decide)) (zb.mono (by decide)) (zm.mono (by decide)) c4 d4 fun lp rs H7 f7 e7 R7 Z7 k7 G7 => ?_
  have hps7 := e7.at hps6
  obtain ⟨xs, hlp, RA⟩ := R7
  have lxs : xs.length = rs.length := RA.len
  walk_at "go"
  rename_i t1 J1 n1 x1 y1 t2 J2 n2 x2 y2 c1 J3 n3 x3 y3 t3 J4 n4 x4 y4 t4 J5 n5 x5 y5 c2 J6 n6 x6 y6 t5 J7 n7 x7 y7 t6 J8 n8 x8 y8 c3 J9 n9 x9 y9 rl J10 n10 x10 y10 q1 J11 n11 x11 y11 q2 J12 n12 x12 y12 q3 J13 n13 x13 y13 q4 J14 n14 x14 y14 hn J15 n15 x15 y15
  have X7 : Ex H7 J10 := (((((((((x1.trans x2).trans x3).trans x4).trans x5).trans x6).trans x7).trans x8).trans x9).trans x10)
  have hps := X7.at hps7
  have hlp := X7.at hlp
  have RA := RA.ex X7
  have y1 := (((((((((x2.trans x3).trans x4).trans x5).trans x6).trans x7).trans x8).trans x9).trans x10)).at y1
  have y2 := ((((((((x3.trans x4).trans x5).trans x6).trans x7).trans x8).trans x9).trans x10)).at y2
  have y3 := (((((((x4.trans x5).trans x6).trans x7).trans x8).trans x9).trans x10)).at y3
  have y4 := ((((((x5.trans x6).trans x7).trans x8).trans x9).trans x10)).at y4
  have y5 := (((((x6.trans x7).trans x8).trans x9).trans x10)).at y5
  have y6 := ((((x7.trans x8).trans x9).trans x10)).at y6
  have y7 := (((x8.trans x9).trans x10)).at y7
  have y8 := ((x9.trans x10)).at y8
  have y9 := (x10).at y9
  have E10 : Ex J10 J15 := ((((x11.trans x12).trans x13).trans x14).trans x15)
  have fq : ∀ q ∈ [q1, q2, q3, q4], J10 q = none := by
    intro q hq
    simp only [List.mem_cons, List.not_mem_nil, or_false] at hq
    rcases hq with rfl | rfl | rfl | rfl
    · exact n11
    · exact free_back x11 n12
    · exact free_back (x11.trans x12) n13
    · exact free_back ((x11.trans x12).trans x13) n14
  have hnq : hn ∉ [q1, q2, q3, q4] := by
    intro hq
    simp only [List.mem_cons, List.not_mem_nil, or_false] at hq
    rcases hq with z | z | z | z
    · exact ne_of_none (((x12.trans x13).trans x14).at y11) n15 z.symm
    · exact ne_of_none ((x13.trans x14).at y12) n15 z.symm
    · exact ne_of_none (x14.at y13) n15 z.symm
    · exact ne_of_none y14 n15 z.symm
  have y11 := ((((x12.trans x13).trans x14).trans x15)).at y11
  have y12 := (((x13.trans x14).trans x15)).at y12
  have y13 := ((x14.trans x15)).at y13
  have y14 := (x15).at y14
  clear x1 x2 x3 x4 x5 x6 x7 x8 x9 x10 x11 x12 x13 x14 x15 X7 n1 n2 n3 n4 n5 n6 n7 n8 n9 n10 n11 n12 n13 n14 n15 hps6 hps7
  have RZ := Z7.y
  have C1 : CnAt J10 (.ref c1) ((0, 1), (0, 1)) := ⟨_, _, _, rfl, y3, ⟨_, rfl, y1⟩, _, rfl, y2⟩
  have C2 : CnAt J10 (.ref c2) ((9, 1), (0, 1)) := ⟨_, _, _, rfl, y6, ⟨_, rfl, y4⟩, _, rfl, y5⟩
  have C3 : CnAt J10 (.ref c3) ((0, 1), (7, 2)) := ⟨_, _, _, rfl, y9, ⟨_, rfl, y7⟩, _, rfl, y8⟩
  clear y1 y2 y3 y4 y5 y6 y7 y8 y9
  have DR : DtAll J10 [.ref c1, .ref c2, .ref c3] (ring57.map cnD) := .cons C1.dt (.cons C2.dt (.cons C3.dt .nil))
  have W : WrR rs := ⟨by have := G7.len57 200 (by have := zm; unfold Sz at this; omega); omega, G7.sz57 c4 ((sz_n c4 d4).mono (by decide)) (za.mono (by decide)) (zb.mono (by decide)) (zm.mono (by decide))⟩
  have RG : ∀ {H : Hp} {l : Addr}, Ex J10 H → H l = some (.lst [.ref c1, .ref c2, .ref c3]) → RgAt K H l [(.ref c1, ((0, 1), (0, 1))), (.ref c2, ((9, 1), (0, 1))), (.ref c3, ((0, 1), (7, 2)))] := by
    intro H l e hl
    refine ⟨SqL.of hl, fun r hr => ?_, fun r hr => ring57_z _ (List.mem_map.mpr ⟨r, hr, rfl⟩)⟩
    simp only [List.mem_cons, List.not_mem_nil, or_false] at hr
    rcases hr with rfl | rfl | rfl
    · exact C1.ex e
    · exact C2.ex e
    · exact C3.ex e
  have lsq : LsdA J15 [q1, q2, q3, q4] [rs.map rowD, rs.map rowD, rs.map rowD, ring57.map cnD] := by
    have rw (l : Addr) (h : J15 l = some (.lst xs)) : Lsd J15 l (rs.map rowD) := ⟨xs, h, dt_rows (RA.ex E10), by omega⟩
    exact ⟨rw _ y11, rw _ y12, rw _ y13, ⟨_, y14, DR.imp fun _ _ q => E10.at q, show 3 ≤ 20000 by decide⟩, trivial⟩
  have lsp : ∀ {H : Hp}, Ex J10 H → LsdA H [lp, lp, lp, rl] [rs.map rowD, rs.map rowD, rs.map rowD, ring57.map cnD] := by
    intro H e
    have rw : Lsd H lp (rs.map rowD) := ⟨xs, e.at hlp, dt_rows (RA.ex e), by omega⟩
    exact ⟨rw, rw, rw, ⟨_, e.at y10, DR.imp fun _ _ q => e.at q, show 3 ≤ 20000 by decide⟩, trivial⟩
  have okq : Okds [rs.map rowD, rs.map rowD, rs.map rowD, ring57.map cnD] := by
    intro ds hd
    simp only [List.mem_cons, List.not_mem_nil, or_false] at hd
    rcases hd with rfl | rfl | rfl | rfl
    · exact okd_rows _
    · exact okd_rows _
    · exact okd_rows _
    · exact okd_ring57
  refine use_is_paper (E10.at hps) m0 c4 d4 ⟨xs, y11, RA.ex E10⟩ RZ fun M1 v1 => ?_
  rw [G7.ppr.isP]
  walk_at "go"
  refine use_taken ⟨xs, v1.at y12, RA.ex (E10.trans v1)⟩ Z7 ?_
  rw [G7.ppr.tkn c4]
  walk_at "go"
  refine use_paper_text (v1.at y13) (RA.ex (E10.trans v1)) W fun M2 v2 => ?_
  have w2 := v1.trans v2
  walk_at "go"
  refine use_points_in (RG (E10.trans w2) (w2.at y14)) ring57_ok fun N M3 v3 CN => ?_
  have w3 := w2.trans v3
  walk_at "go"
  rename_i tl M4 n4 v4 h4
  have w4 := w3.trans v4
  have E14 := E10.trans w4
  have y15 := w4.at y15
  have tlq : tl ∉ [q1, q2, q3, q4] := by
    intro hq
    simp only [List.mem_cons, List.not_mem_nil, or_false] at hq
    rcases hq with z | z | z | z
    · exact ne_of_none (w3.at y11) n4 z.symm
    · exact ne_of_none (w3.at y12) n4 z.symm
    · exact ne_of_none (w3.at y13) n4 z.symm
    · exact ne_of_none (w3.at y14) n4 z.symm
  have lq : ∀ q ∈ [q1, q2, q3, q4], ∃ us, M4 q = some (.lst us) := by
    intro q hq
    simp only [List.mem_cons, List.not_mem_nil, or_false] at hq
    rcases hq with rfl | rfl | rfl | rfl
    · exact ⟨_, w4.at y11⟩
    · exact ⟨_, w4.at y12⟩
    · exact ⟨_, w4.at y13⟩
    · exact ⟨_, w4.at y14⟩
  have lsq := lsq.ex w4
  clear v1 v2 v3 v4 w2 w3 y11 y12 y13 y14 E10
  walk_at "go"
  refine r_cut (fun σ' H' => σ' = [some (.ref a), some (.ref d0), some (.ref ps), some (.int n), some (.ref x), o5, some (.ref p2), some (.ref p3), some (.ref p4), o9, some (.ref lp), some (.ref rl), some (.ref hn), some (.ref tl)] ∧ Ex M4 H') ?_ ?_
  · walk_at "go"
    rename_i l5 M5 n5 v5 h5
    refine r_neLsd (ls := [q1, q2, q3, q4]) (ls' := [lp, lp, lp, rl]) (v5.at y15) h5 (lsq.ex v5) (lsp (E14.trans v5)) okq ?_
    walk_at "go"
    exact ⟨rfl, v5⟩
  rintro σ' M5 ⟨rfl, v5⟩
  have lq : ∀ q ∈ [q1, q2, q3, q4], ∃ us, M5 q = some (.lst us) := fun q hq => by
    obtain ⟨us, hu⟩ := lq q hq
    exact ⟨us, v5.at hu⟩
  have y15 := v5.at y15
  have h4 := v5.at h4
  have E15 := E14.trans v5
  clear v5 E14 lsq n4
  walk_at "go"
  refine for_lst (xs := [.ref q1, .ref q2, .ref q3, .ref q4]) (fun i σ H' => ∃ o9 : Option V, σ = [some (.ref a), some (.ref d0), some (.ref ps), some (.int n), some (.ref x), o5, some (.ref p2), some (.ref p3), some (.ref p4), o9, some (.ref lp), some (.ref rl), some (.ref hn), some (.ref tl)] ∧ Ex J10 H' ∧ H' hn = some (.lst [.ref q1, .ref q2, .ref q3, .ref q4]) ∧ H' tl = some (.lst [.bl true, .int (fs n.toNat a1 b1 m1), .str (SX.S (ptx rs)), .int N]) ∧ ∀ q ∈ [q1, q2, q3, q4], ∃ us, H' q = some (.lst us)) ⟨_, rfl, E15, y15, h4, lq⟩ (fun i σ H' _ h => ?_) ?_ ?_
  · obtain ⟨_, _, _, z, _⟩ := h
    exact SqL.of z
  · clear E15 y15 h4 lq
    rintro i y σ G hy ⟨o9, rfl, E15, y15, h4, lq⟩
    obtain ⟨q0, hq0, rfl⟩ : ∃ q0 ∈ [q1, q2, q3, q4], y = .ref q0 := by
      have my := List.mem_of_getElem? hy
      simp only [List.mem_cons, List.not_mem_nil, or_false] at my
      rcases my with rfl | rfl | rfl | rfl
      · exact ⟨q1, by simp, rfl⟩
      · exact ⟨q2, by simp, rfl⟩
      · exact ⟨q3, by simp, rfl⟩
      · exact ⟨q4, by simp, rfl⟩
    obtain ⟨us, hu⟩ := lq q0 hq0
    walk_at "go"
    refine ⟨q0, us, rfl, rfl, hu, ?_⟩
    have kp : Kp q0 G (upd G q0 (.lst [])) := Kp.upd
    walk_at "go"
    refine ⟨_, rfl, E15.kpd (fq q0 hq0) kp, kp _ _ (fun z => hnq (by rw [z]; exact hq0)) y15, kp _ _ (fun z => tlq (by rw [z]; exact hq0)) h4, fun q hq => ?_⟩
    by_cases z : q = q0
    · subst z
      exact ⟨[], upd_same⟩
    · obtain ⟨us', hu'⟩ := lq q hq
      exact ⟨us', kp _ _ z hu'⟩
  rintro σ M6 ⟨o9, rfl, E16, _, h4', _⟩
  clear h4 lq y15 E15
  walk_at "go"
  refine use_law_quick (E16.at hps) m0 (za.mono (by decide)) (zb.mono (by decide)) (zm.mono (by decide)) ((sz_n c4 d4).mono (by decide)) c4 fun M7 v7 => ?_
  have E17 := E16.trans v7
  walk_at "go"
  refine use_paper_text (E17.at hlp) (RA.ex E17) W fun M8 v8 => ?_
  have E18 := E17.trans v8
  walk_at "go"
  refine use_points_in (RG E18 (E18.at y10)) ring57_ok fun N2 M9 v9 CN2 => ?_
  rw [show N2 = N from CN2.uniq CN]
  have h4' := ((v7.trans v8).trans v9).at h4'
  walk_at "go"
  rename_i l6 M10 n10 v10 h10
  refine r_told57 (v10.at h4') h10 (ptx_ok rs) ?_
  walk_at "go"
  exact q _

end
end Sd
namespace Sd
open PySem PySem.Spec PyProof.Rows L2
theorem all_mk {l : PySem.W.OpenLaw} {w : World} {K : PySem.W.Frag} {h : Heap} {mg : Str → Option Value} {fa : Addr} (X : K.In h) (G : h.Ns mainGlobals mg) (hfa : mg "law" = some (.ref fa))
    {f0 f1 f2 f3 f4 f5 f6 f7 f8 f9 f10 f11 f12 f13 f14 f15 f16 f17 f18 f19 f20 f21 f22 f23 f24 f25 f26 f27 f28 f29 f30 f31 f32 f33 f34 f35 f36 f37 f38 f39 f40 f41 f42 f43 f44 f45 f46 f47 : Addr}
    {od0 an0 od1 an1 od2 an2 od3 an3 od4 an4 od5 an5 od6 an6 od7 an7 od8 an8 od9 an9 od10 an10 od11 an11 od12 an12 od13 an13 od14 an14 od15 an15 od16 an16 od17 an17 od18 an18 od19 an19 od20 an20 od21 an21 od22 an22 od23 an23 od24 an24 od25 an25 od26 an26 od27 an27 od28 an28 od29 an29 od30 an30 od31 an31 od32 an32 od33 an33 od34 an34 od35 an35 od36 an36 od37 an37 od38 an38 od39 an39 od40 an40 od41 an41 od42 an42 od43 an43 od44 an44 od45 an45 od46 an46 od47 an47 : Option Addr}
    {sl0 sl1 sl2 sl3 sl4 sl5 sl6 sl7 sl8 sl9 sl10 sl11 sl12 sl13 sl14 sl15 sl16 sl17 sl18 sl19 sl20 sl21 sl22 sl23 sl24 sl25 sl26 sl27 sl28 sl29 sl30 sl31 sl32 sl33 sl34 sl35 sl36 sl37 sl38 sl39 sl40 sl41 sl42 sl43 sl44 sl45 sl46 sl47 : Array (Option Value)}
    {oc0 kV0 dc0 pm0 cd0 ct0 oc1 kV1 dc1 pm1 cd1 ct1 oc2 kV2 dc2 pm2 cd2 ct2 oc3 kV3 dc3 pm3 cd3 ct3 oc4 kV4 dc4 pm4 cd4 ct4 oc5 kV5 dc5 pm5 cd5 ct5 oc6 kV6 dc6 pm6 cd6 ct6 oc7 kV7 dc7 pm7 cd7 ct7 oc8 kV8 dc8 pm8 cd8 ct8 oc9 kV9 dc9 pm9 cd9 ct9 oc10 kV10 dc10 pm10 cd10 ct10 oc11 kV11 dc11 pm11 cd11 ct11 oc12 kV12 dc12 pm12 cd12 ct12 oc13 kV13 dc13 pm13 cd13 ct13 oc14 kV14 dc14 pm14 cd14 ct14 oc15 kV15 dc15 pm15 cd15 ct15 oc16 kV16 dc16 pm16 cd16 ct16 oc17 kV17 dc17 pm17 cd17 ct17 oc18 kV18 dc18 pm18 cd18 ct18 oc19 kV19 dc19 pm19 cd19 ct19 oc20 kV20 dc20 pm20 cd20 ct20 oc21 kV21 dc21 pm21 cd21 ct21 oc22 kV22 dc22 pm22 cd22 ct22 oc23 kV23 dc23 pm23 cd23 ct23 oc24 kV24 dc24 pm24 cd24 ct24 oc25 kV25 dc25 pm25 cd25 ct25 oc26 kV26 dc26 pm26 cd26 ct26 oc27 kV27 dc27 pm27 cd27 ct27 oc28 kV28 dc28 pm28 cd28 ct28 oc29 kV29 dc29 pm29 cd29 ct29 oc30 kV30 dc30 pm30 cd30 ct30 oc31 kV31 dc31 pm31 cd31 ct31 oc32 kV32 dc32 pm32 cd32 ct32 oc33 kV33 dc33 pm33 cd33 ct33 oc34 kV34 dc34 pm34 cd34 ct34 oc35 kV35 dc35 pm35 cd35 ct35 oc36 kV36 dc36 pm36 cd36 ct36 oc37 kV37 dc37 pm37 cd37 ct37 oc38 kV38 dc38 pm38 cd38 ct38 oc39 kV39 dc39 pm39 cd39 ct39 oc40 kV40 dc40 pm40 cd40 ct40 oc41 kV41 dc41 pm41 cd41 ct41 oc42 kV42 dc42 pm42 cd42 ct42 oc43 kV43 dc43 pm43 cd43 ct43 oc44 kV44 dc44 pm44 cd44 ct44 oc45 kV45 dc45 pm45 cd45 ct45 oc46 kV46 dc46 pm46 cd46 ct46 oc47 kV47 dc47 pm47 cd47 ct47 : Value}
    {tk_COUNTS_BELOW tk_LEAST_CORNERS tk_MOST_CORNERS tk_MOST_ENTRIES tk_MOST_FIGURES tk_MOST_LISTED : Tok}
    {C_Ledger : Addr} (oA_Ledger : PySem.W.nsIn K mainGlobals "Ledger" = some (some (.ref C_Ledger))) (oP_Ledger : PySem.W.plainGet K C_Ledger Str.empty = true) (oH_Ledger : PySem.W.hasDictIn K C_Ledger = true) (oO_Ledger : PySem.W.plainOver K C_Ledger = true) (oS_Ledger : PySem.W.findIn K (.ref C_Ledger) "__setattr__" = some (some (.builtin "object.__setattr__"))) (oM_Ledger : PySem.W.makesIn K C_Ledger = true) (oK_Ledger : PySem.W.keepIn K (.ref C_Ledger) = true) (oN_Ledger_kept : PySem.W.findIn K (.ref C_Ledger) "kept" = some none) (oN_Ledger_now_worth : PySem.W.findIn K (.ref C_Ledger) "now_worth" = some none) (oN_Ledger_former : PySem.W.findIn K (.ref C_Ledger) "former" = some none)
    (a0 : PySem.W.nsIn K mainGlobals "_law_draws" = some (some (.ref f0))) (l0 : K.lookup f0 = some ⟨oc0, od0, .func (PySem.W.fnOf "_law_draws" "_law_draws" (defArgs s_law_draws) (defBody s_law_draws) (defScope s_law_draws) .none kV0 dc0 pm0 an0 cd0 ct0), sl0⟩) (c0 : PySem.W.codeIn K cd0 "_law_draws" = true) (k0 : PySem.W.keepIn K (.ref f0) = true)
    (a1 : PySem.W.nsIn K mainGlobals "_law_draw" = some (some (.ref f1))) (l1 : K.lookup f1 = some ⟨oc1, od1, .func (PySem.W.fnOf "_law_draw" "_law_draw" (defArgs s_law_draw) (defBody s_law_draw) (defScope s_law_draw) .none kV1 dc1 pm1 an1 cd1 ct1), sl1⟩) (c1 : PySem.W.codeIn K cd1 "_law_draw" = true) (k1 : PySem.W.keepIn K (.ref f1) = true)
    (a2 : PySem.W.nsIn K mainGlobals "_law_figures" = some (some (.ref f2))) (l2 : K.lookup f2 = some ⟨oc2, od2, .func (PySem.W.fnOf "_law_figures" "_law_figures" (defArgs s_law_figures) (defBody s_law_figures) (defScope s_law_figures) .none kV2 dc2 pm2 an2 cd2 ct2), sl2⟩) (c2 : PySem.W.codeIn K cd2 "_law_figures" = true) (k2 : PySem.W.keepIn K (.ref f2) = true)
    (a3 : PySem.W.nsIn K mainGlobals "_law_bottom" = some (some (.ref f3))) (l3 : K.lookup f3 = some ⟨oc3, od3, .func (PySem.W.fnOf "_law_bottom" "_law_bottom" (defArgs s_law_bottom) (defBody s_law_bottom) (defScope s_law_bottom) .none kV3 dc3 pm3 an3 cd3 ct3), sl3⟩) (c3 : PySem.W.codeIn K cd3 "_law_bottom" = true) (k3 : PySem.W.keepIn K (.ref f3) = true)
    (a4 : PySem.W.nsIn K mainGlobals "_law_stair" = some (some (.ref f4))) (l4 : K.lookup f4 = some ⟨oc4, od4, .func (PySem.W.fnOf "_law_stair" "_law_stair" (defArgs s_law_stair) (defBody s_law_stair) (defScope s_law_stair) .none kV4 dc4 pm4 an4 cd4 ct4), sl4⟩) (c4 : PySem.W.codeIn K cd4 "_law_stair" = true) (k4 : PySem.W.keepIn K (.ref f4) = true)
    (a5 : PySem.W.nsIn K mainGlobals "_law_great_count" = some (some (.ref f5))) (l5 : K.lookup f5 = some ⟨oc5, od5, .func (PySem.W.fnOf "_law_great_count" "_law_great_count" (defArgs s_law_great_count) (defBody s_law_great_count) (defScope s_law_great_count) .none kV5 dc5 pm5 an5 cd5 ct5), sl5⟩) (c5 : PySem.W.codeIn K cd5 "_law_great_count" = true) (k5 : PySem.W.keepIn K (.ref f5) = true)
    (a6 : PySem.W.findIn K (.ref C_Ledger) "__init__" = some (some (.ref f6))) (i6 : PySem.W.isFn K (.ref f6) = true) (l6 : K.lookup f6 = some ⟨oc6, od6, .func (PySem.W.fnOf "__init__" "Ledger.__init__" (defArgs s_Ledger___init__) (defBody s_Ledger___init__) (defScope s_Ledger___init__) .none kV6 dc6 pm6 an6 cd6 ct6), sl6⟩) (c6 : PySem.W.codeIn K cd6 "Ledger.__init__" = true) (k6 : PySem.W.keepIn K (.ref f6) = true)
    (a7 : PySem.W.nsIn K mainGlobals "is_whole" = some (some (.ref f7))) (l7 : K.lookup f7 = some ⟨oc7, od7, .func (PySem.W.fnOf "is_whole" "is_whole" (defArgs s_is_whole) (defBody s_is_whole) (defScope s_is_whole) .none kV7 dc7 pm7 an7 cd7 ct7), sl7⟩) (c7 : PySem.W.codeIn K cd7 "is_whole" = true) (k7 : PySem.W.keepIn K (.ref f7) = true)
    (a8 : PySem.W.nsIn K mainGlobals "is_stair" = some (some (.ref f8))) (l8 : K.lookup f8 = some ⟨oc8, od8, .func (PySem.W.fnOf "is_stair" "is_stair" (defArgs s_is_stair) (defBody s_is_stair) (defScope s_is_stair) .none kV8 dc8 pm8 an8 cd8 ct8), sl8⟩) (c8 : PySem.W.codeIn K cd8 "is_stair" = true) (k8 : PySem.W.keepIn K (.ref f8) = true)
    (a9 : PySem.W.nsIn K mainGlobals "need_stair" = some (some (.ref f9))) (l9 : K.lookup f9 = some ⟨oc9, od9, .func (PySem.W.fnOf "need_stair" "need_stair" (defArgs s_need_stair) (defBody s_need_stair) (defScope s_need_stair) .none kV9 dc9 pm9 an9 cd9 ct9), sl9⟩) (c9 : PySem.W.codeIn K cd9 "need_stair" = true) (k9 : PySem.W.keepIn K (.ref f9) = true)
    (a10 : PySem.W.nsIn K mainGlobals "need_count" = some (some (.ref f10))) (l10 : K.lookup f10 = some ⟨oc10, od10, .func (PySem.W.fnOf "need_count" "need_count" (defArgs s_need_count) (defBody s_need_count) (defScope s_need_count) .none kV10 dc10 pm10 an10 cd10 ct10), sl10⟩) (c10 : PySem.W.codeIn K cd10 "need_count" = true) (k10 : PySem.W.keepIn K (.ref f10) = true)
    (a11 : PySem.W.nsIn K mainGlobals "summed" = some (some (.ref f11))) (l11 : K.lookup f11 = some ⟨oc11, od11, .func (PySem.W.fnOf "summed" "summed" (defArgs s_summed) (defBody s_summed) (defScope s_summed) .none kV11 dc11 pm11 an11 cd11 ct11), sl11⟩) (c11 : PySem.W.codeIn K cd11 "summed" = true) (k11 : PySem.W.keepIn K (.ref f11) = true)
    (a12 : PySem.W.nsIn K mainGlobals "summed_from" = some (some (.ref f12))) (l12 : K.lookup f12 = some ⟨oc12, od12, .func (PySem.W.fnOf "summed_from" "summed_from" (defArgs s_summed_from) (defBody s_summed_from) (defScope s_summed_from) .none kV12 dc12 pm12 an12 cd12 ct12), sl12⟩) (c12 : PySem.W.codeIn K cd12 "summed_from" = true) (k12 : PySem.W.keepIn K (.ref f12) = true)
    (a13 : PySem.W.nsIn K mainGlobals "worth_of" = some (some (.ref f13))) (l13 : K.lookup f13 = some ⟨oc13, od13, .func (PySem.W.fnOf "worth_of" "worth_of" (defArgs s_worth_of) (defBody s_worth_of) (defScope s_worth_of) .none kV13 dc13 pm13 an13 cd13 ct13), sl13⟩) (c13 : PySem.W.codeIn K cd13 "worth_of" = true) (k13 : PySem.W.keepIn K (.ref f13) = true)
    (a14 : PySem.W.findIn K (.ref C_Ledger) "become" = some (some (.ref f14))) (i14 : PySem.W.isFn K (.ref f14) = true) (l14 : K.lookup f14 = some ⟨oc14, od14, .func (PySem.W.fnOf "become" "Ledger.become" (defArgs s_Ledger_become) (defBody s_Ledger_become) (defScope s_Ledger_become) .none kV14 dc14 pm14 an14 cd14 ct14), sl14⟩) (c14 : PySem.W.codeIn K cd14 "Ledger.become" = true) (k14 : PySem.W.keepIn K (.ref f14) = true)
    (a15 : PySem.W.findIn K (.ref C_Ledger) "put" = some (some (.ref f15))) (i15 : PySem.W.isFn K (.ref f15) = true) (l15 : K.lookup f15 = some ⟨oc15, od15, .func (PySem.W.fnOf "put" "Ledger.put" (defArgs s_Ledger_put) (defBody s_Ledger_put) (defScope s_Ledger_put) .none kV15 dc15 pm15 an15 cd15 ct15), sl15⟩) (c15 : PySem.W.codeIn K cd15 "Ledger.put" = true) (k15 : PySem.W.keepIn K (.ref f15) = true)
    (a16 : PySem.W.nsIn K mainGlobals "follows" = some (some (.ref f16))) (l16 : K.lookup f16 = some ⟨oc16, od16, .func (PySem.W.fnOf "follows" "follows" (defArgs s_follows) (defBody s_follows) (defScope s_follows) .none kV16 dc16 pm16 an16 cd16 ct16), sl16⟩) (c16 : PySem.W.codeIn K cd16 "follows" = true) (k16 : PySem.W.keepIn K (.ref f16) = true)
    (a17 : PySem.W.nsIn K mainGlobals "paper_of" = some (some (.ref f17))) (l17 : K.lookup f17 = some ⟨oc17, od17, .func (PySem.W.fnOf "paper_of" "paper_of" (defArgs s_paper_of) (defBody s_paper_of) (defScope s_paper_of) .none kV17 dc17 pm17 an17 cd17 ct17), sl17⟩) (c17 : PySem.W.codeIn K cd17 "paper_of" = true) (k17 : PySem.W.keepIn K (.ref f17) = true)
    (a18 : PySem.W.nsIn K mainGlobals "need_text" = some (some (.ref f18))) (l18 : K.lookup f18 = some ⟨oc18, od18, .func (PySem.W.fnOf "need_text" "need_text" (defArgs s_need_text) (defBody s_need_text) (defScope s_need_text) .none kV18 dc18 pm18 an18 cd18 ct18), sl18⟩) (c18 : PySem.W.codeIn K cd18 "need_text" = true) (k18 : PySem.W.keepIn K (.ref f18) = true)
    (a19 : PySem.W.nsIn K mainGlobals "number_in" = some (some (.ref f19))) (l19 : K.lookup f19 = some ⟨oc19, od19, .func (PySem.W.fnOf "number_in" "number_in" (defArgs s_number_in) (defBody s_number_in) (defScope s_number_in) .none kV19 dc19 pm19 an19 cd19 ct19), sl19⟩) (c19 : PySem.W.codeIn K cd19 "number_in" = true) (k19 : PySem.W.keepIn K (.ref f19) = true)
    (a20 : PySem.W.nsIn K mainGlobals "read_paper" = some (some (.ref f20))) (l20 : K.lookup f20 = some ⟨oc20, od20, .func (PySem.W.fnOf "read_paper" "read_paper" (defArgs s_read_paper) (defBody s_read_paper) (defScope s_read_paper) .none kV20 dc20 pm20 an20 cd20 ct20), sl20⟩) (c20 : PySem.W.codeIn K cd20 "read_paper" = true) (k20 : PySem.W.keepIn K (.ref f20) = true)
    (a21 : PySem.W.nsIn K mainGlobals "need_some" = some (some (.ref f21))) (l21 : K.lookup f21 = some ⟨oc21, od21, .func (PySem.W.fnOf "need_some" "need_some" (defArgs s_need_some) (defBody s_need_some) (defScope s_need_some) .none kV21 dc21 pm21 an21 cd21 ct21), sl21⟩) (c21 : PySem.W.codeIn K cd21 "need_some" = true) (k21 : PySem.W.keepIn K (.ref f21) = true)
    (a22 : PySem.W.nsIn K mainGlobals "over_up" = some (some (.ref f22))) (l22 : K.lookup f22 = some ⟨oc22, od22, .func (PySem.W.fnOf "over_up" "over_up" (defArgs s_over_up) (defBody s_over_up) (defScope s_over_up) .none kV22 dc22 pm22 an22 cd22 ct22), sl22⟩) (c22 : PySem.W.codeIn K cd22 "over_up" = true) (k22 : PySem.W.keepIn K (.ref f22) = true)
    (a23 : PySem.W.nsIn K mainGlobals "first_rest" = some (some (.ref f23))) (l23 : K.lookup f23 = some ⟨oc23, od23, .func (PySem.W.fnOf "first_rest" "first_rest" (defArgs s_first_rest) (defBody s_first_rest) (defScope s_first_rest) .none kV23 dc23 pm23 an23 cd23 ct23), sl23⟩) (c23 : PySem.W.codeIn K cd23 "first_rest" = true) (k23 : PySem.W.keepIn K (.ref f23) = true)
    (a24 : PySem.W.nsIn K mainGlobals "first_of" = some (some (.ref f24))) (l24 : K.lookup f24 = some ⟨oc24, od24, .func (PySem.W.fnOf "first_of" "first_of" (defArgs s_first_of) (defBody s_first_of) (defScope s_first_of) .none kV24 dc24 pm24 an24 cd24 ct24), sl24⟩) (c24 : PySem.W.codeIn K cd24 "first_of" = true) (k24 : PySem.W.keepIn K (.ref f24) = true)
    (a25 : PySem.W.nsIn K mainGlobals "next_of" = some (some (.ref f25))) (l25 : K.lookup f25 = some ⟨oc25, od25, .func (PySem.W.fnOf "next_of" "next_of" (defArgs s_next_of) (defBody s_next_of) (defScope s_next_of) .none kV25 dc25 pm25 an25 cd25 ct25), sl25⟩) (c25 : PySem.W.codeIn K cd25 "next_of" = true) (k25 : PySem.W.keepIn K (.ref f25) = true)
    (a26 : PySem.W.nsIn K mainGlobals "runs_of" = some (some (.ref f26))) (l26 : K.lookup f26 = some ⟨oc26, od26, .func (PySem.W.fnOf "runs_of" "runs_of" (defArgs s_runs_of) (defBody s_runs_of) (defScope s_runs_of) .none kV26 dc26 pm26 an26 cd26 ct26), sl26⟩) (c26 : PySem.W.codeIn K cd26 "runs_of" = true) (k26 : PySem.W.keepIn K (.ref f26) = true)
    (a27 : PySem.W.nsIn K mainGlobals "lows" = some (some (.ref f27))) (l27 : K.lookup f27 = some ⟨oc27, od27, .func (PySem.W.fnOf "lows" "lows" (defArgs s_lows) (defBody s_lows) (defScope s_lows) .none kV27 dc27 pm27 an27 cd27 ct27), sl27⟩) (c27 : PySem.W.codeIn K cd27 "lows" = true) (k27 : PySem.W.keepIn K (.ref f27) = true)
    (a28 : PySem.W.nsIn K mainGlobals "need_listed" = some (some (.ref f28))) (l28 : K.lookup f28 = some ⟨oc28, od28, .func (PySem.W.fnOf "need_listed" "need_listed" (defArgs s_need_listed) (defBody s_need_listed) (defScope s_need_listed) .none kV28 dc28 pm28 an28 cd28 ct28), sl28⟩) (c28 : PySem.W.codeIn K cd28 "need_listed" = true) (k28 : PySem.W.keepIn K (.ref f28) = true)
    (a29 : PySem.W.nsIn K mainGlobals "heights" = some (some (.ref f29))) (l29 : K.lookup f29 = some ⟨oc29, od29, .func (PySem.W.fnOf "heights" "heights" (defArgs s_heights) (defBody s_heights) (defScope s_heights) .none kV29 dc29 pm29 an29 cd29 ct29), sl29⟩) (c29 : PySem.W.codeIn K cd29 "heights" = true) (k29 : PySem.W.keepIn K (.ref f29) = true)
    (a30 : PySem.W.findIn K (.ref C_Ledger) "entries" = some (some (.ref f30))) (i30 : PySem.W.isFn K (.ref f30) = true) (l30 : K.lookup f30 = some ⟨oc30, od30, .func (PySem.W.fnOf "entries" "Ledger.entries" (defArgs s_Ledger_entries) (defBody s_Ledger_entries) (defScope s_Ledger_entries) .none kV30 dc30 pm30 an30 cd30 ct30), sl30⟩) (c30 : PySem.W.codeIn K cd30 "Ledger.entries" = true) (k30 : PySem.W.keepIn K (.ref f30) = true)
    (a31 : PySem.W.nsIn K mainGlobals "_law_told" = some (some (.ref f31))) (l31 : K.lookup f31 = some ⟨oc31, od31, .func (PySem.W.fnOf "_law_told" "_law_told" (defArgs s_law_told) (defBody s_law_told) (defScope s_law_told) .none kV31 dc31 pm31 an31 cd31 ct31), sl31⟩) (c31 : PySem.W.codeIn K cd31 "_law_told" = true) (k31 : PySem.W.keepIn K (.ref f31) = true)
    (a32 : PySem.W.nsIn K mainGlobals "divisor" = some (some (.ref f32))) (l32 : K.lookup f32 = some ⟨oc32, od32, .func (PySem.W.fnOf "divisor" "divisor" (defArgs s_divisor) (defBody s_divisor) (defScope s_divisor) .none kV32 dc32 pm32 an32 cd32 ct32), sl32⟩) (c32 : PySem.W.codeIn K cd32 "divisor" = true) (k32 : PySem.W.keepIn K (.ref f32) = true)
    (a33 : PySem.W.nsIn K mainGlobals "fraction" = some (some (.ref f33))) (l33 : K.lookup f33 = some ⟨oc33, od33, .func (PySem.W.fnOf "fraction" "fraction" (defArgs s_fraction) (defBody s_fraction) (defScope s_fraction) .none kV33 dc33 pm33 an33 cd33 ct33), sl33⟩) (c33 : PySem.W.codeIn K cd33 "fraction" = true) (k33 : PySem.W.keepIn K (.ref f33) = true)
    (a34 : PySem.W.nsIn K mainGlobals "difference" = some (some (.ref f34))) (l34 : K.lookup f34 = some ⟨oc34, od34, .func (PySem.W.fnOf "difference" "difference" (defArgs s_difference) (defBody s_difference) (defScope s_difference) .none kV34 dc34 pm34 an34 cd34 ct34), sl34⟩) (c34 : PySem.W.codeIn K cd34 "difference" = true) (k34 : PySem.W.keepIn K (.ref f34) = true)
    (a35 : PySem.W.nsIn K mainGlobals "product_of" = some (some (.ref f35))) (l35 : K.lookup f35 = some ⟨oc35, od35, .func (PySem.W.fnOf "product_of" "product_of" (defArgs s_product_of) (defBody s_product_of) (defScope s_product_of) .none kV35 dc35 pm35 an35 cd35 ct35), sl35⟩) (c35 : PySem.W.codeIn K cd35 "product_of" = true) (k35 : PySem.W.keepIn K (.ref f35) = true)
    (a36 : PySem.W.nsIn K mainGlobals "hand_of" = some (some (.ref f36))) (l36 : K.lookup f36 = some ⟨oc36, od36, .func (PySem.W.fnOf "hand_of" "hand_of" (defArgs s_hand_of) (defBody s_hand_of) (defScope s_hand_of) .none kV36 dc36 pm36 an36 cd36 ct36), sl36⟩) (c36 : PySem.W.codeIn K cd36 "hand_of" = true) (k36 : PySem.W.keepIn K (.ref f36) = true)
    (a37 : PySem.W.nsIn K mainGlobals "need_ring" = some (some (.ref f37))) (l37 : K.lookup f37 = some ⟨oc37, od37, .func (PySem.W.fnOf "need_ring" "need_ring" (defArgs s_need_ring) (defBody s_need_ring) (defScope s_need_ring) .none kV37 dc37 pm37 an37 cd37 ct37), sl37⟩) (c37 : PySem.W.codeIn K cd37 "need_ring" = true) (k37 : PySem.W.keepIn K (.ref f37) = true)
    (a38 : PySem.W.nsIn K mainGlobals "line_of" = some (some (.ref f38))) (l38 : K.lookup f38 = some ⟨oc38, od38, .func (PySem.W.fnOf "line_of" "line_of" (defArgs s_line_of) (defBody s_line_of) (defScope s_line_of) .none kV38 dc38 pm38 an38 cd38 ct38), sl38⟩) (c38 : PySem.W.codeIn K cd38 "line_of" = true) (k38 : PySem.W.keepIn K (.ref f38) = true)
    (a39 : PySem.W.nsIn K mainGlobals "side_of" = some (some (.ref f39))) (l39 : K.lookup f39 = some ⟨oc39, od39, .func (PySem.W.fnOf "side_of" "side_of" (defArgs s_side_of) (defBody s_side_of) (defScope s_side_of) .none kV39 dc39 pm39 an39 cd39 ct39), sl39⟩) (c39 : PySem.W.codeIn K cd39 "side_of" = true) (k39 : PySem.W.keepIn K (.ref f39) = true)
    (a40 : PySem.W.nsIn K mainGlobals "over_down" = some (some (.ref f40))) (l40 : K.lookup f40 = some ⟨oc40, od40, .func (PySem.W.fnOf "over_down" "over_down" (defArgs s_over_down) (defBody s_over_down) (defScope s_over_down) .none kV40 dc40 pm40 an40 cd40 ct40), sl40⟩) (c40 : PySem.W.codeIn K cd40 "over_down" = true) (k40 : PySem.W.keepIn K (.ref f40) = true)
    (a41 : PySem.W.nsIn K mainGlobals "side_sum" = some (some (.ref f41))) (l41 : K.lookup f41 = some ⟨oc41, od41, .func (PySem.W.fnOf "side_sum" "side_sum" (defArgs s_side_sum) (defBody s_side_sum) (defScope s_side_sum) .none kV41 dc41 pm41 an41 cd41 ct41), sl41⟩) (c41 : PySem.W.codeIn K cd41 "side_sum" = true) (k41 : PySem.W.keepIn K (.ref f41) = true)
    (a42 : PySem.W.nsIn K mainGlobals "points_in" = some (some (.ref f42))) (l42 : K.lookup f42 = some ⟨oc42, od42, .func (PySem.W.fnOf "points_in" "points_in" (defArgs s_points_in) (defBody s_points_in) (defScope s_points_in) .none kV42 dc42 pm42 an42 cd42 ct42), sl42⟩) (c42 : PySem.W.codeIn K cd42 "points_in" = true) (k42 : PySem.W.keepIn K (.ref f42) = true)
    (a43 : PySem.W.nsIn K mainGlobals "paper_text" = some (some (.ref f43))) (l43 : K.lookup f43 = some ⟨oc43, od43, .func (PySem.W.fnOf "paper_text" "paper_text" (defArgs s_paper_text) (defBody s_paper_text) (defScope s_paper_text) .none kV43 dc43 pm43 an43 cd43 ct43), sl43⟩) (c43 : PySem.W.codeIn K cd43 "paper_text" = true) (k43 : PySem.W.keepIn K (.ref f43) = true)
    (a44 : PySem.W.nsIn K mainGlobals "taken" = some (some (.ref f44))) (l44 : K.lookup f44 = some ⟨oc44, od44, .func (PySem.W.fnOf "taken" "taken" (defArgs s_taken) (defBody s_taken) (defScope s_taken) .none kV44 dc44 pm44 an44 cd44 ct44), sl44⟩) (c44 : PySem.W.codeIn K cd44 "taken" = true) (k44 : PySem.W.keepIn K (.ref f44) = true)
    (a45 : PySem.W.nsIn K mainGlobals "is_paper" = some (some (.ref f45))) (l45 : K.lookup f45 = some ⟨oc45, od45, .func (PySem.W.fnOf "is_paper" "is_paper" (defArgs s_is_paper) (defBody s_is_paper) (defScope s_is_paper) .none kV45 dc45 pm45 an45 cd45 ct45), sl45⟩) (c45 : PySem.W.codeIn K cd45 "is_paper" = true) (k45 : PySem.W.keepIn K (.ref f45) = true)
    (a46 : PySem.W.nsIn K mainGlobals "_law_quick" = some (some (.ref f46))) (l46 : K.lookup f46 = some ⟨oc46, od46, .func (PySem.W.fnOf "_law_quick" "_law_quick" (defArgs s_law_quick) (defBody s_law_quick) (defScope s_law_quick) .none kV46 dc46 pm46 an46 cd46 ct46), sl46⟩) (c46 : PySem.W.codeIn K cd46 "_law_quick" = true) (k46 : PySem.W.keepIn K (.ref f46) = true)
    (a47 : PySem.W.nsIn K mainGlobals "law" = some (some (.ref f47))) (l47 : K.lookup f47 = some ⟨oc47, od47, .func (PySem.W.fnOf "law" "law" (defArgs s_law) (defBody s_law) (defScope s_law) .none kV47 dc47 pm47 an47 cd47 ct47), sl47⟩) (c47 : PySem.W.codeIn K cd47 "law" = true) (k47 : PySem.W.keepIn K (.ref f47) = true)
    (z_abs : PySem.W.nsIn K mainGlobals "abs" = some none)
    (z_all : PySem.W.nsIn K mainGlobals "all" = some none)
    (z_bool : PySem.W.nsIn K mainGlobals "bool" = some none)
    (z_int : PySem.W.nsIn K mainGlobals "int" = some none)
    (z_isinstance : PySem.W.nsIn K mainGlobals "isinstance" = some none)
    (z_len : PySem.W.nsIn K mainGlobals "len" = some none)
    (z_list : PySem.W.nsIn K mainGlobals "list" = some none)
    (z_max : PySem.W.nsIn K mainGlobals "max" = some none)
    (z_min : PySem.W.nsIn K mainGlobals "min" = some none)
    (z_range : PySem.W.nsIn K mainGlobals "range" = some none)
    (z_sorted : PySem.W.nsIn K mainGlobals "sorted" = some none)
    (z_str : PySem.W.nsIn K mainGlobals "str" = some none)
    (z_tuple : PySem.W.nsIn K mainGlobals "tuple" = some none)
    (q_COUNTS_BELOW : PySem.W.nsIn K mainGlobals "COUNTS_BELOW" = some (some (.int COUNTS_BELOW_val tk_COUNTS_BELOW)))
    (q_LEAST_CORNERS : PySem.W.nsIn K mainGlobals "LEAST_CORNERS" = some (some (.int LEAST_CORNERS_val tk_LEAST_CORNERS)))
    (q_MOST_CORNERS : PySem.W.nsIn K mainGlobals "MOST_CORNERS" = some (some (.int MOST_CORNERS_val tk_MOST_CORNERS)))
    (q_MOST_ENTRIES : PySem.W.nsIn K mainGlobals "MOST_ENTRIES" = some (some (.int MOST_ENTRIES_val tk_MOST_ENTRIES)))
    (q_MOST_FIGURES : PySem.W.nsIn K mainGlobals "MOST_FIGURES" = some (some (.int MOST_FIGURES_val tk_MOST_FIGURES)))
    (q_MOST_LISTED : PySem.W.nsIn K mainGlobals "MOST_LISTED" = some (some (.int MOST_LISTED_val tk_MOST_LISTED)))
    : ∃ fd : FuncData, (∀ (s : Shared) (v : Value), BindsTo s fd ⟨[v], []⟩ [("script", v)]) ∧ ∀ base : Heap, K.In base → base.Ns mainGlobals mg → FnOk l.prog w K mg base CX0 117 fa fd ["script"] (sp_law K) := by
  have D_law_draws : DefAt K mg "_law_draws" s_law_draws ["script", "k"] := def_mk X G a0 l0 c0 k0 fun _ _ _ _ _ _ us hl => match us, hl with | [_, _], _ => rfl
  have D_law_draw : DefAt K mg "_law_draw" s_law_draw ["draws", "many"] := def_mk X G a1 l1 c1 k1 fun _ _ _ _ _ _ us hl => match us, hl with | [_, _], _ => rfl
  have D_law_figures : DefAt K mg "_law_figures" s_law_figures ["draws", "most"] := def_mk X G a2 l2 c2 k2 fun _ _ _ _ _ _ us hl => match us, hl with | [_, _], _ => rfl
  have D_law_bottom : DefAt K mg "_law_bottom" s_law_bottom ["draws"] := def_mk X G a3 l3 c3 k3 fun _ _ _ _ _ _ us hl => match us, hl with | [_], _ => rfl
  have D_law_stair : DefAt K mg "_law_stair" s_law_stair ["draws"] := def_mk X G a4 l4 c4 k4 fun _ _ _ _ _ _ us hl => match us, hl with | [_], _ => rfl
  have D_law_great_count : DefAt K mg "_law_great_count" s_law_great_count ["draws"] := def_mk X G a5 l5 c5 k5 fun _ _ _ _ _ _ us hl => match us, hl with | [_], _ => rfl
  have D_Ledger___init__ : IniAt K C_Ledger "Ledger.__init__" s_Ledger___init__ ["self"] := ini_mk oM_Ledger oK_Ledger a6 i6 l6 c6 k6 fun _ _ _ _ _ _ us hl => match us, hl with | [_], _ => rfl
  have D_is_whole : DefAt K mg "is_whole" s_is_whole ["thing"] := def_mk X G a7 l7 c7 k7 fun _ _ _ _ _ _ us hl => match us, hl with | [_], _ => rfl
  have D_is_stair : DefAt K mg "is_stair" s_is_stair ["thing"] := def_mk X G a8 l8 c8 k8 fun _ _ _ _ _ _ us hl => match us, hl with | [_], _ => rfl
  have D_need_stair : DefAt K mg "need_stair" s_need_stair ["thing"] := def_mk X G a9 l9 c9 k9 fun _ _ _ _ _ _ us hl => match us, hl with | [_], _ => rfl
  have D_need_count : DefAt K mg "need_count" s_need_count ["n"] := def_mk X G a10 l10 c10 k10 fun _ _ _ _ _ _ us hl => match us, hl with | [_], _ => rfl
  have D_summed : DefAt K mg "summed" s_summed ["n", "a", "b", "m"] := def_mk X G a11 l11 c11 k11 fun _ _ _ _ _ _ us hl => match us, hl with | [_, _, _, _], _ => rfl
  have D_summed_from : DefAt K mg "summed_from" s_summed_from ["stair", "k", "n"] := def_mk X G a12 l12 c12 k12 fun _ _ _ _ _ _ us hl => match us, hl with | [_, _, _], _ => rfl
  have D_worth_of : DefAt K mg "worth_of" s_worth_of ["entry"] := def_mk X G a13 l13 c13 k13 fun _ _ _ _ _ _ us hl => match us, hl with | [_], _ => rfl
  have D_Ledger_become : MetAt K C_Ledger "become" "Ledger.become" s_Ledger_become ["self", "kept", "total"] := met_mk a14 i14 l14 c14 k14 fun _ _ _ _ _ _ us hl => match us, hl with | [_, _, _], _ => rfl
  have D_Ledger_put : MetAt K C_Ledger "put" "Ledger.put" s_Ledger_put ["self", "stair", "k", "n", "times"] := met_mk a15 i15 l15 c15 k15 fun _ _ _ _ _ _ us hl => match us, hl with | [_, _, _, _, _], _ => rfl
  have D_follows : DefAt K mg "follows" s_follows ["n", "a", "b", "m", "rise"] := def_mk X G a16 l16 c16 k16 fun _ _ _ _ _ _ us hl => match us, hl with | [_, _, _, _, _], _ => rfl
  have D_paper_of : DefAt K mg "paper_of" s_paper_of ["stair", "n"] := def_mk X G a17 l17 c17 k17 fun _ _ _ _ _ _ us hl => match us, hl with | [_, _], _ => rfl
  have D_need_text : DefAt K mg "need_text" s_need_text ["thing"] := def_mk X G a18 l18 c18 k18 fun _ _ _ _ _ _ us hl => match us, hl with | [_], _ => rfl
  have D_number_in : DefAt K mg "number_in" s_number_in ["word"] := def_mk X G a19 l19 c19 k19 fun _ _ _ _ _ _ us hl => match us, hl with | [_], _ => rfl
  have D_read_paper : DefAt K mg "read_paper" s_read_paper ["text"] := def_mk X G a20 l20 c20 k20 fun _ _ _ _ _ _ us hl => match us, hl with | [_], _ => rfl
  have D_need_some : DefAt K mg "need_some" s_need_some ["n"] := def_mk X G a21 l21 c21 k21 fun _ _ _ _ _ _ us hl => match us, hl with | [_], _ => rfl
  have D_over_up : DefAt K mg "over_up" s_over_up ["top", "bottom"] := def_mk X G a22 l22 c22 k22 fun _ _ _ _ _ _ us hl => match us, hl with | [_, _], _ => rfl
  have D_first_rest : DefAt K mg "first_rest" s_first_rest ["a", "m", "low", "high"] := def_mk X G a23 l23 c23 k23 fun _ _ _ _ _ _ us hl => match us, hl with | [_, _, _, _], _ => rfl
  have D_first_of : DefAt K mg "first_of" s_first_of ["stair", "low", "high"] := def_mk X G a24 l24 c24 k24 fun _ _ _ _ _ _ us hl => match us, hl with | [_, _, _], _ => rfl
  have D_next_of : DefAt K mg "next_of" s_next_of ["stair", "low", "high", "k"] := def_mk X G a25 l25 c25 k25 fun _ _ _ _ _ _ us hl => match us, hl with | [_, _, _, _], _ => rfl
  have D_runs_of : DefAt K mg "runs_of" s_runs_of ["stair", "n"] := def_mk X G a26 l26 c26 k26 fun _ _ _ _ _ _ us hl => match us, hl with | [_, _], _ => rfl
  have D_lows : DefAt K mg "lows" s_lows ["stair", "n"] := def_mk X G a27 l27 c27 k27 fun _ _ _ _ _ _ us hl => match us, hl with | [_, _], _ => rfl
  have D_need_listed : DefAt K mg "need_listed" s_need_listed ["n"] := def_mk X G a28 l28 c28 k28 fun _ _ _ _ _ _ us hl => match us, hl with | [_], _ => rfl
  have D_heights : DefAt K mg "heights" s_heights ["stair", "k", "n"] := def_mk X G a29 l29 c29 k29 fun _ _ _ _ _ _ us hl => match us, hl with | [_, _, _], _ => rfl
  have D_Ledger_entries : MetAt K C_Ledger "entries" "Ledger.entries" s_Ledger_entries ["self"] := met_mk a30 i30 l30 c30 k30 fun _ _ _ _ _ _ us hl => match us, hl with | [_], _ => rfl
  have D_law_told : DefAt K mg "_law_told" s_law_told ["stair", "n", "ledger"] := def_mk X G a31 l31 c31 k31 fun _ _ _ _ _ _ us hl => match us, hl with | [_, _, _], _ => rfl
  have D_divisor : DefAt K mg "divisor" s_divisor ["one", "other"] := def_mk X G a32 l32 c32 k32 fun _ _ _ _ _ _ us hl => match us, hl with | [_, _], _ => rfl
  have D_fraction : DefAt K mg "fraction" s_fraction ["top", "bottom"] := def_mk X G a33 l33 c33 k33 fun _ _ _ _ _ _ us hl => match us, hl with | [_, _], _ => rfl
  have D_difference : DefAt K mg "difference" s_difference ["one", "other"] := def_mk X G a34 l34 c34 k34 fun _ _ _ _ _ _ us hl => match us, hl with | [_, _], _ => rfl
  have D_product_of : DefAt K mg "product_of" s_product_of ["one", "other"] := def_mk X G a35 l35 c35 k35 fun _ _ _ _ _ _ us hl => match us, hl with | [_, _], _ => rfl
  have D_hand_of : DefAt K mg "hand_of" s_hand_of ["one", "other", "third"] := def_mk X G a36 l36 c36 k36 fun _ _ _ _ _ _ us hl => match us, hl with | [_, _, _], _ => rfl
  have D_need_ring : DefAt K mg "need_ring" s_need_ring ["ring"] := def_mk X G a37 l37 c37 k37 fun _ _ _ _ _ _ us hl => match us, hl with | [_], _ => rfl
  have D_line_of : DefAt K mg "line_of" s_line_of ["one", "other"] := def_mk X G a38 l38 c38 k38 fun _ _ _ _ _ _ us hl => match us, hl with | [_, _], _ => rfl
  have D_side_of : DefAt K mg "side_of" s_side_of ["ring", "side"] := def_mk X G a39 l39 c39 k39 fun _ _ _ _ _ _ us hl => match us, hl with | [_, _], _ => rfl
  have D_over_down : DefAt K mg "over_down" s_over_down ["line"] := def_mk X G a40 l40 c40 k40 fun _ _ _ _ _ _ us hl => match us, hl with | [_], _ => rfl
  have D_side_sum : DefAt K mg "side_sum" s_side_sum ["edges", "turn_over"] := def_mk X G a41 l41 c41 k41 fun _ _ _ _ _ _ us hl => match us, hl with | [_, _], _ => rfl
  have D_points_in : DefAt K mg "points_in" s_points_in ["ring"] := def_mk X G a42 l42 c42 k42 fun _ _ _ _ _ _ us hl => match us, hl with | [_], _ => rfl
  have D_paper_text : DefAt K mg "paper_text" s_paper_text ["paper"] := def_mk X G a43 l43 c43 k43 fun _ _ _ _ _ _ us hl => match us, hl with | [_], _ => rfl
  have D_taken : DefAt K mg "taken" s_taken ["paper"] := def_mk X G a44 l44 c44 k44 fun _ _ _ _ _ _ us hl => match us, hl with | [_], _ => rfl
  have D_is_paper : DefAt K mg "is_paper" s_is_paper ["stair", "n", "paper"] := def_mk X G a45 l45 c45 k45 fun _ _ _ _ _ _ us hl => match us, hl with | [_, _, _], _ => rfl
  have D_law_quick : DefAt K mg "_law_quick" s_law_quick ["stair", "n"] := def_mk X G a46 l46 c46 k46 fun _ _ _ _ _ _ us hl => match us, hl with | [_, _], _ => rfl
  have D_law : DefAt K mg "law" s_law ["script"] := def_mk X G a47 l47 c47 k47 fun _ _ _ _ _ _ us hl => match us, hl with | [_], _ => rfl
  have e := hfa.symm.trans (PySem.W.mg_of X G a47)
  cases e
  refine ⟨PySem.W.fnOf "law" "law" (defArgs s_law) (defBody s_law) (defScope s_law) .none kV47 dc47 pm47 an47 cd47 ct47, fun s v => .of_eq rfl, fun base _ _ => ?_⟩
  have B_abs := PySem.W.mg_none_of X G z_abs
  have B_all := PySem.W.mg_none_of X G z_all
  have B_bool := PySem.W.mg_none_of X G z_bool
  have B_int := PySem.W.mg_none_of X G z_int
  have B_isinstance := PySem.W.mg_none_of X G z_isinstance
  have B_len := PySem.W.mg_none_of X G z_len
  have B_list := PySem.W.mg_none_of X G z_list
  have B_max := PySem.W.mg_none_of X G z_max
  have B_min := PySem.W.mg_none_of X G z_min
  have B_range := PySem.W.mg_none_of X G z_range
  have B_sorted := PySem.W.mg_none_of X G z_sorted
  have B_str := PySem.W.mg_none_of X G z_str
  have B_tuple := PySem.W.mg_none_of X G z_tuple
  have U_Ledger : TxC K mg "Ledger" C_Ledger ["kept", "now_worth", "former"] := ⟨⟨oP_Ledger, oH_Ledger, oO_Ledger, oS_Ledger⟩, PySem.W.mg_of X G oA_Ledger, ⟨oN_Ledger_kept, oN_Ledger_now_worth, oN_Ledger_former, trivial⟩⟩
  have T_COUNTS_BELOW : ∃ t, mg "COUNTS_BELOW" = some (.int COUNTS_BELOW_val t) := ⟨_, PySem.W.mg_of X G q_COUNTS_BELOW⟩
  have T_LEAST_CORNERS : ∃ t, mg "LEAST_CORNERS" = some (.int LEAST_CORNERS_val t) := ⟨_, PySem.W.mg_of X G q_LEAST_CORNERS⟩
  have T_MOST_CORNERS : ∃ t, mg "MOST_CORNERS" = some (.int MOST_CORNERS_val t) := ⟨_, PySem.W.mg_of X G q_MOST_CORNERS⟩
  have T_MOST_ENTRIES : ∃ t, mg "MOST_ENTRIES" = some (.int MOST_ENTRIES_val t) := ⟨_, PySem.W.mg_of X G q_MOST_ENTRIES⟩
  have T_MOST_FIGURES : ∃ t, mg "MOST_FIGURES" = some (.int MOST_FIGURES_val t) := ⟨_, PySem.W.mg_of X G q_MOST_FIGURES⟩
  have T_MOST_LISTED : ∃ t, mg "MOST_LISTED" = some (.int MOST_LISTED_val t) := ⟨_, PySem.W.mg_of X G q_MOST_LISTED⟩
  have G_law_draws := ok_law_draws (P := l.prog) (w := w) (base := base) D_law_draws B_len B_int
  have G_law_draw := ok_law_draw (P := l.prog) (w := w) (base := base) D_law_draw
  have G_law_figures := ok_law_figures (P := l.prog) (w := w) (base := base) D_law_figures B_range G_law_draw
  have G_law_bottom := ok_law_bottom (P := l.prog) (w := w) (base := base) D_law_bottom B_abs G_law_draw G_law_figures
  have G_law_stair := ok_law_stair (P := l.prog) (w := w) (base := base) D_law_stair B_abs G_law_bottom G_law_draw G_law_figures
  have G_law_great_count := ok_law_great_count (P := l.prog) (w := w) (base := base) D_law_great_count B_abs G_law_figures G_law_draw
  have G_Ledger___init__ := ok_Ledger___init__ (P := l.prog) (w := w) (base := base) D_Ledger___init__ U_Ledger
  have G_is_whole := ok_is_whole (P := l.prog) (w := w) (base := base) D_is_whole B_isinstance B_int B_bool
  have G_is_stair := ok_is_stair (P := l.prog) (w := w) (base := base) D_is_stair B_len B_isinstance B_tuple B_all G_is_whole
  have G_need_stair := ok_need_stair (P := l.prog) (w := w) (base := base) D_need_stair G_is_stair
  have G_need_count := ok_need_count (P := l.prog) (w := w) (base := base) D_need_count T_COUNTS_BELOW
  have G_summed := ok_summed (P := l.prog) (w := w) (base := base) D_summed
  have G_summed_from := ok_summed_from (P := l.prog) (w := w) (base := base) D_summed_from G_summed
  have G_worth_of := ok_worth_of (P := l.prog) (w := w) (base := base) D_worth_of G_summed_from
  have G_Ledger_become := ok_Ledger_become (P := l.prog) (w := w) (base := base) D_Ledger_become U_Ledger
  have G_Ledger_put := ok_Ledger_put (P := l.prog) (w := w) (base := base) D_Ledger_put U_Ledger B_len T_MOST_ENTRIES G_need_stair G_need_count G_worth_of G_Ledger_become
  have G_follows := ok_follows (P := l.prog) (w := w) (base := base) D_follows
  have G_paper_of := ok_paper_of (P := l.prog) (w := w) (base := base) D_paper_of G_need_stair G_need_count G_follows
  have G_need_text := ok_need_text (P := l.prog) (w := w) (base := base) D_need_text B_isinstance B_str
  have G_number_in := ok_number_in (P := l.prog) (w := w) (base := base) D_number_in B_len B_all B_int T_MOST_FIGURES
  have G_read_paper := ok_read_paper (P := l.prog) (w := w) (base := base) D_read_paper B_tuple B_len G_need_text G_number_in
  have G_need_some := ok_need_some (P := l.prog) (w := w) (base := base) D_need_some G_need_count
  have G_over_up := ok_over_up (P := l.prog) (w := w) (base := base) D_over_up
  have G_first_rest := ok_first_rest (P := l.prog) (w := w) (base := base) D_first_rest G_over_up
  have G_first_of := ok_first_of (P := l.prog) (w := w) (base := base) D_first_of G_first_rest
  have G_next_of := ok_next_of (P := l.prog) (w := w) (base := base) D_next_of G_first_of
  have G_runs_of := ok_runs_of (P := l.prog) (w := w) (base := base) D_runs_of B_min G_next_of
  have G_lows := ok_lows (P := l.prog) (w := w) (base := base) D_lows G_need_stair G_need_some G_runs_of
  have G_need_listed := ok_need_listed (P := l.prog) (w := w) (base := base) D_need_listed T_MOST_LISTED
  have G_heights := ok_heights (P := l.prog) (w := w) (base := base) D_heights B_range G_need_stair G_need_count G_need_listed
  have G_Ledger_entries := ok_Ledger_entries (P := l.prog) (w := w) (base := base) D_Ledger_entries U_Ledger B_list
  have G_law_told := ok_law_told (P := l.prog) (w := w) (base := base) D_law_told U_Ledger B_max G_paper_of G_read_paper G_lows G_heights G_Ledger_entries
  have G_divisor := ok_divisor (P := l.prog) (w := w) (base := base) D_divisor B_abs
  have G_fraction := ok_fraction (P := l.prog) (w := w) (base := base) D_fraction G_divisor
  have G_difference := ok_difference (P := l.prog) (w := w) (base := base) D_difference G_fraction
  have G_product_of := ok_product_of (P := l.prog) (w := w) (base := base) D_product_of G_fraction
  have G_hand_of := ok_hand_of (P := l.prog) (w := w) (base := base) D_hand_of G_difference G_product_of
  have G_need_ring := ok_need_ring (P := l.prog) (w := w) (base := base) D_need_ring B_len B_range T_LEAST_CORNERS T_MOST_CORNERS G_hand_of
  have G_line_of := ok_line_of (P := l.prog) (w := w) (base := base) D_line_of G_difference G_fraction G_product_of
  have G_side_of := ok_side_of (P := l.prog) (w := w) (base := base) D_side_of B_range B_len B_sorted G_difference G_line_of
  have G_over_down := ok_over_down (P := l.prog) (w := w) (base := base) D_over_down
  have G_side_sum := ok_side_sum (P := l.prog) (w := w) (base := base) D_side_sum G_over_down G_summed_from
  have G_points_in := ok_points_in (P := l.prog) (w := w) (base := base) D_points_in G_need_ring G_side_of G_side_sum
  have G_paper_text := ok_paper_text (P := l.prog) (w := w) (base := base) D_paper_text B_str
  have G_taken := ok_taken (P := l.prog) (w := w) (base := base) D_taken
  have G_is_paper := ok_is_paper (P := l.prog) (w := w) (base := base) D_is_paper G_need_stair G_need_count G_follows
  have G_law_quick := ok_law_quick (P := l.prog) (w := w) (base := base) D_law_quick
  exact ok_law (fun_mk (st := s_law) l47 c47 k47) U_Ledger B_range B_list B_isinstance G_law_draws G_law_stair G_law_great_count G_Ledger___init__ G_law_draw G_Ledger_put G_law_told G_paper_of G_points_in G_paper_text G_taken G_is_paper G_law_quick
theorem walk {l : PySem.W.OpenLaw} {q : Program} {loose : List Str} {XP : (Str → Option Value) → Heap → Prop} {YP : World → Heap → Prop} {d : DefRec} {K : Params → PySem.W.Frag} (hn : l.most = some 63) (hdf : d.params.defaults = [])
    (hY : ∀ (w : World) (h : Heap), YP w h → (K w.params).In h)
    (F : ∀ (w : World) (mg : Str → Option Value) (fa : Addr) (h : Heap), (K w.params).In h → h.Ns mainGlobals mg → mg d.name = some (.ref fa) →
      ∃ fd : FuncData, (∀ (s : Shared) (u : Value), BindsTo s fd ⟨[u], []⟩ [("script", u)]) ∧ ∀ base : Heap, (K w.params).In base → base.Ns mainGlobals mg → FnOk l.prog w (K w.params) mg base CX0 117 fa fd ["script"] (sp_law (K w.params))) :
    PySem.W.WalkO q loose XP YP l.row.toRowW d [] (fun f vs => PySem.call f vs) :=
  L2.walk_of (n := 63) (k := 117) (x := "script") (CX := fun _ => CX0) (sp := fun w => sp_law (K w.params)) hn (by decide) hdf ⟨rfl, by decide, by decide⟩ hY F (fun _ _ a ns hl _ hS => ⟨a, ns, rfl, hS, hl, fun _ => rfl⟩) fun _ _ _ _ _ z => z
end Sd
open PySem PySem.W PyProof.Rows
set_option maxRecDepth 100000 in
set_option maxHeartbeats 0 in
theorem PySem.Challenge.cw_stairsum_k57_lists_of_ones_own_holds : PySem.Challenge.rw_stairsum_k57_lists_of_ones_own.Holds := by
  w_on; o_law; k_head; (case hw => w_witness2)
  k_fill
  refine Sd.walk (l := PySem.Challenge.rw_stairsum_k57_lists_of_ones_own) rfl rfl (fun w h Y => PySem.W.kIn_of Y) ?F
  case F =>
    intro w mg fa h KX G hmg
    refine' Sd.all_mk KX G hmg ?oA_Ledger ?oP_Ledger ?oH_Ledger ?oO_Ledger ?oS_Ledger ?oM_Ledger ?oK_Ledger ?oN_Ledger_kept ?oN_Ledger_now_worth ?oN_Ledger_former ?a0 ?l0 ?c0 ?k0 ?a1 ?l1 ?c1 ?k1 ?a2 ?l2 ?c2 ?k2 ?a3 ?l3 ?c3 ?k3 ?a4 ?l4 ?c4 ?k4 ?a5 ?l5 ?c5 ?k5 ?a6 ?i6 ?l6 ?c6 ?k6 ?a7 ?l7 ?c7 ?k7 ?a8 ?l8 ?c8 ?k8 ?a9 ?l9 ?c9 ?k9 ?a10 ?l10 ?c10 ?k10 ?a11 ?l11 ?c11 ?k11 ?a12 ?l12 ?c12 ?k12 ?a13 ?l13 ?c13 ?k13 ?a14 ?i14 ?l14 ?c14 ?k14 ?a15 ?i15 ?l15 ?c15 ?k15 ?a16 ?l16 ?c16 ?k16 ?a17 ?l17 ?c17 ?k17 ?a18 ?l18 ?c18 ?k18 ?a19 ?l19 ?c19 ?k19 ?a20 ?l20 ?c20 ?k20 ?a21 ?l21 ?c21 ?k21 ?a22 ?l22 ?c22 ?k22 ?a23 ?l23 ?c23 ?k23 ?a24 ?l24 ?c24 ?k24 ?a25 ?l25 ?c25 ?k25 ?a26 ?l26 ?c26 ?k26 ?a27 ?l27 ?c27 ?k27 ?a28 ?l28 ?c28 ?k28 ?a29 ?l29 ?c29 ?k29 ?a30 ?i30 ?l30 ?c30 ?k30 ?a31 ?l31 ?c31 ?k31 ?a32 ?l32 ?c32 ?k32 ?a33 ?l33 ?c33 ?k33 ?a34 ?l34 ?c34 ?k34 ?a35 ?l35 ?c35 ?k35 ?a36 ?l36 ?c36 ?k36 ?a37 ?l37 ?c37 ?k37 ?a38 ?l38 ?c38 ?k38 ?a39 ?l39 ?c39 ?k39 ?a40 ?l40 ?c40 ?k40 ?a41 ?l41 ?c41 ?k41 ?a42 ?l42 ?c42 ?k42 ?a43 ?l43 ?c43 ?k43 ?a44 ?l44 ?c44 ?k44 ?a45 ?l45 ?c45 ?k45 ?a46 ?l46 ?c46 ?k46 ?a47 ?l47 ?c47 ?k47 ?z_abs ?z_all ?z_bool ?z_int ?z_isinstance ?z_len ?z_list ?z_max ?z_min ?z_range ?z_sorted ?z_str ?z_tuple ?q_COUNTS_BELOW ?q_LEAST_CORNERS ?q_MOST_CORNERS ?q_MOST_ENTRIES ?q_MOST_FIGURES ?q_MOST_LISTED
    (case oA_Ledger => k_is)
    (case oP_Ledger => k_is)
    (case oH_Ledger => k_is)
    (case oO_Ledger => k_is)
    (case oS_Ledger => k_is)
    (case oM_Ledger => k_is)
    (case oK_Ledger => k_is)
    (case oN_Ledger_kept => k_is)
    (case oN_Ledger_now_worth => k_is)
    (case oN_Ledger_former => k_is)
    (case a0 => k_is)
    (case l0 => k_is)
    (case c0 => k_is)
    (case k0 => k_is)
    (case a1 => k_is)
    (case l1 => k_is)
    (case c1 => k_is)
    (case k1 => k_is)
    (case a2 => k_is)
    (case l2 => k_is)
    (case c2 => k_is)
    (case k2 => k_is)
    (case a3 => k_is)
    (case l3 => k_is)
    (case c3 => k_is)
    (case k3 => k_is)
    (case a4 => k_is)
    (case l4 => k_is)
    (case c4 => k_is)
    (case k4 => k_is)
    (case a5 => k_is)
    (case l5 => k_is)
    (case c5 => k_is)
    (case k5 => k_is)
    (case a6 => k_is)
    (case i6 => k_is)
    (case l6 => k_is)
    (case c6 => k_is)
    (case k6 => k_is)
    (case a7 => k_is)
    (case l7 => k_is)
    (case c7 => k_is)
    (case k7 => k_is)
    (case a8 => k_is)
    (case l8 => k_is)
    (case c8 => k_is)
    (case k8 => k_is)
    (case a9 => k_is)
    (case l9 => k_is)
    (case c9 => k_is)
    (case k9 => k_is)
    (case a10 => k_is)
    (case l10 => k_is)
    (case c10 => k_is)
    (case k10 => k_is)
    (case a11 => k_is)
    (case l11 => k_is)
    (case c11 => k_is)
    (case k11 => k_is)
    (case a12 => k_is)
    (case l12 => k_is)
    (case c12 => k_is)
    (case k12 => k_is)
    (case a13 => k_is)
    (case l13 => k_is)
    (case c13 => k_is)
    (case k13 => k_is)
    (case a14 => k_is)
    (case i14 => k_is)
    (case l14 => k_is)
    (case c14 => k_is)
    (case k14 => k_is)
    (case a15 => k_is)
    (case i15 => k_is)
    (case l15 => k_is)
    (case c15 => k_is)
    (case k15 => k_is)
    (case a16 => k_is)
    (case l16 => k_is)
    (case c16 => k_is)
    (case k16 => k_is)
    (case a17 => k_is)
    (case l17 => k_is)
    (case c17 => k_is)
    (case k17 => k_is)
    (case a18 => k_is)
    (case l18 => k_is)
    (case c18 => k_is)
    (case k18 => k_is)
    (case a19 => k_is)
    (case l19 => k_is)
    (case c19 => k_is)
    (case k19 => k_is)
    (case a20 => k_is)
    (case l20 => k_is)
    (case c20 => k_is)
    (case k20 => k_is)
    (case a21 => k_is)
    (case l21 => k_is)
    (case c21 => k_is)
    (case k21 => k_is)
    (case a22 => k_is)
    (case l22 => k_is)
    (case c22 => k_is)
    (case k22 => k_is)
    (case a23 => k_is)
    (case l23 => k_is)
    (case c23 => k_is)
    (case k23 => k_is)
    (case a24 => k_is)
    (case l24 => k_is)
    (case c24 => k_is)
    (case k24 => k_is)
    (case a25 => k_is)
    (case l25 => k_is)
    (case c25 => k_is)
    (case k25 => k_is)
    (case a26 => k_is)
    (case l26 => k_is)
    (case c26 => k_is)
    (case k26 => k_is)
    (case a27 => k_is)
    (case l27 => k_is)
    (case c27 => k_is)
    (case k27 => k_is)
    (case a28 => k_is)
    (case l28 => k_is)
    (case c28 => k_is)
    (case k28 => k_is)
    (case a29 => k_is)
    (case l29 => k_is)
    (case c29 => k_is)
    (case k29 => k_is)
    (case a30 => k_is)
    (case i30 => k_is)
    (case l30 => k_is)
    (case c30 => k_is)
    (case k30 => k_is)
    (case a31 => k_is)
    (case l31 => k_is)
    (case c31 => k_is)
    (case k31 => k_is)
    (case a32 => k_is)
    (case l32 => k_is)
    (case c32 => k_is)
    (case k32 => k_is)
    (case a33 => k_is)
    (case l33 => k_is)
    (case c33 => k_is)
    (case k33 => k_is)
    (case a34 => k_is)
    (case l34 => k_is)
    (case c34 => k_is)
    (case k34 => k_is)
    (case a35 => k_is)
    (case l35 => k_is)
    (case c35 => k_is)
    (case k35 => k_is)
    (case a36 => k_is)
    (case l36 => k_is)
    (case c36 => k_is)
    (case k36 => k_is)
    (case a37 => k_is)
    (case l37 => k_is)
    (case c37 => k_is)
    (case k37 => k_is)
    (case a38 => k_is)
    (case l38 => k_is)
    (case c38 => k_is)
    (case k38 => k_is)
    (case a39 => k_is)
    (case l39 => k_is)
    (case c39 => k_is)
    (case k39 => k_is)
    (case a40 => k_is)
    (case l40 => k_is)
    (case c40 => k_is)
    (case k40 => k_is)
    (case a41 => k_is)
    (case l41 => k_is)
    (case c41 => k_is)
    (case k41 => k_is)
    (case a42 => k_is)
    (case l42 => k_is)
    (case c42 => k_is)
    (case k42 => k_is)
    (case a43 => k_is)
    (case l43 => k_is)
    (case c43 => k_is)
    (case k43 => k_is)
    (case a44 => k_is)
    (case l44 => k_is)
    (case c44 => k_is)
    (case k44 => k_is)
    (case a45 => k_is)
    (case l45 => k_is)
    (case c45 => k_is)
    (case k45 => k_is)
    (case a46 => k_is)
    (case l46 => k_is)
    (case c46 => k_is)
    (case k46 => k_is)
    (case a47 => k_is)
    (case l47 => k_is)
    (case c47 => k_is)
    (case k47 => k_is)
    (case z_abs => k_is)
    (case z_all => k_is)
    (case z_bool => k_is)
    (case z_int => k_is)
    (case z_isinstance => k_is)
    (case z_len => k_is)
    (case z_list => k_is)
    (case z_max => k_is)
    (case z_min => k_is)
    (case z_range => k_is)
    (case z_sorted => k_is)
    (case z_str => k_is)
    (case z_tuple => k_is)
    (case q_COUNTS_BELOW => k_is)
    (case q_LEAST_CORNERS => k_is)
    (case q_MOST_CORNERS => k_is)
    (case q_MOST_ENTRIES => k_is)
    (case q_MOST_FIGURES => k_is)
    (case q_MOST_LISTED => k_is)

