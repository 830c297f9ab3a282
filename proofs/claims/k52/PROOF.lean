import PyProof.Rows.All
import Wide.All
import OpenK.AllK
import Wide.FinOn
import HandS.ForMost
import HandS.Codes
import HandS.Walk
import HandS.Exc
import HandS.TryOnly
import HandS.ExcOwn
import HandS.WordsExc
import HandS.Wide
import HandS.WideMore
import HandS.Flow
import HandS.IsInst
import HandS.Style
import HandS.SortInts
import HandS.TupAny
import HandS.Flt
import HandS.Zip
import PyProof.LongRange
import HandS.HotCalls
import HandS.ExcIs
import HandS.ExcCtx
import HandS.Iter
import HandS.Comp
import PySem.Challenge.RW_stairsum_k52_texts_of_papers
set_option Elab.async false
set_option linter.all false
set_option maxRecDepth 100000
set_option maxHeartbeats 4000000
set_option Elab.async false
set_option linter.all false
set_option maxRecDepth 100000
set_option maxHeartbeats 4000000
/-! The prelude: heaps, readings step by step, sizes, defs of the top by name. -/
namespace Sd
open PySem PySem.Spec PyProof.Rows L2

/-! ### heaps -/
def Ex (H H' : Hp) : Prop := ∀ a o, H a = some o → H' a = some o
/-- all but what stands at d is kept -/
def Kp (d : Addr) (H H' : Hp) : Prop := ∀ a o, a ≠ d → H a = some o → H' a = some o
theorem Ex.at {H H' : Hp} {a : Addr} {o : HO} (e : Ex H H') (h : H a = some o) : H' a = some o := e a o h
theorem Ex.refl {H : Hp} : Ex H H := fun _ _ h => h
theorem Ex.trans {H H1 H2 : Hp} (a : Ex H H1) (b : Ex H1 H2) : Ex H H2 := fun x o h => b x o (a x o h)
theorem Ex.kp {H H' : Hp} {d : Addr} (e : Ex H H') : Kp d H H' := fun a o _ h => e a o h
theorem Kp.refl {H : Hp} {d : Addr} : Kp d H H := fun _ _ _ h => h
theorem Kp.trans {H H1 H2 : Hp} {d : Addr} (a : Kp d H H1) (b : Kp d H1 H2) : Kp d H H2 := fun x o n h => b x o n (a x o n h)
theorem Ex.kpd {H H1 H2 : Hp} {d : Addr} (e : Ex H H1) (n : H d = none) (b : Kp d H1 H2) : Ex H H2 := fun x o h => b x o (ne_of_none h n) (e x o h)
theorem Ex.new {H : Hp} {p : Addr} {o : HO} (h : H p = none) : Ex H (upd H p o) := fun a u e => by
  rw [upd_ne (ne_of_none e h)]
  exact e
theorem Kp.upd {H : Hp} {d : Addr} {o : HO} : Kp d H (upd H d o) := fun a u n e => by
  rw [upd_ne n]
  exact e
theorem free_back {H H' : Hp} {p : Addr} (e : Ex H H') (h : H' p = none) : H p = none := by
  cases h1 : H p with
  | none => rfl
  | some o =>
    rw [e p o h1] at h
    cases h
theorem rd_up {H H' : Hp} {a : Addr} {u : HO} (e : Ex H H') (h : Rd H a u) : Rd H' a u := by
  rcases h with h | ⟨o, h⟩
  · exact Or.inl (e a _ h)
  · exact Or.inr ⟨o, e a _ h⟩
theorem sql_up {K : PySem.W.Frag} {H H' : Hp} {a : Addr} {xs : List V} (e : Ex H H') (h : SqL K H a xs) : SqL K H' a xs := by
  rcases h with h | h
  · exact Or.inl (rd_up e h)
  · exact Or.inr h
theorem sqt_up {K : PySem.W.Frag} {H H' : Hp} {a : Addr} {xs : List V} (e : Ex H H') (h : SqT K H a xs) : SqT K H' a xs := by
  rcases h with h | h
  · exact Or.inl (rd_up e h)
  · exact Or.inr h
/-- the list of drawn digits at d -/
def Dr (H : Hp) (d : Addr) : Prop := ∃ x y : Int, H d = some (.lst [.int x, .int y]) ∧ 0 ≤ y ∧ y < 2147483647
theorem Dr.up {H H' : Hp} {d : Addr} (D : Dr H d) (e : Ex H H') : Dr H' d := by
  obtain ⟨x, y, h, r⟩ := D
  exact ⟨x, y, e _ _ h, r⟩
theorem Kp.tup {H H' : Hp} {d p : Addr} {xs : List V} (k : Kp d H H') (D : Dr H d) (h : H p = some (.tup xs)) : H' p = some (.tup xs) := by
  obtain ⟨x, y, e, _⟩ := D
  exact k _ _ (ne_of h e (by intro z; cases z)) h
theorem Kp.frz {H H' : Hp} {d p : Addr} {o : Obj} {u : HO} (k : Kp d H H') (D : Dr H d) (h : H p = some (.frz o u)) : H' p = some (.frz o u) := by
  obtain ⟨x, y, e, _⟩ := D
  exact k _ _ (ne_of h e (by intro z; cases z)) h
theorem Dr.free {H : Hp} {d p : Addr} (D : Dr H d) (h : H p = none) : p ≠ d := fun e => by
  obtain ⟨x, y, k, _⟩ := D
  rw [e, k] at h
  cases h
theorem free_kp {H H' : Hp} {d p : Addr} (e : Kp d H H') (D' : Dr H' d) (h : H' p = none) : H p = none := by
  cases q : H p with
  | none => rfl
  | some o =>
    rw [e p o (D'.free h) q] at h
    cases h
theorem sqt_kp {K : PySem.W.Frag} {H H' : Hp} {d a : Addr} {xs : List V} (e : Kp d H H') (D : Dr H d) (h : SqT K H a xs) : SqT K H' a xs := by
  rcases h with (h | ⟨o, h⟩) | h
  · exact Or.inl (Or.inl (e.tup D h))
  · exact Or.inl (Or.inr ⟨o, e.frz D h⟩)
  · exact Or.inr h

/-! ### sizes -/
def Sz (n : Nat) (x : Int) : Prop := x.natAbs < 2 ^ n
theorem Sz.mono {n m : Nat} {x : Int} (h : Sz n x) (l : n ≤ m) : Sz m x := Nat.lt_of_lt_of_le h (Nat.pow_le_pow_right (by decide) l)
theorem Sz.mul {n m : Nat} {x y : Int} (h : Sz n x) (k : Sz m y) : Sz (n + m) (x * y) := wide_lt h k
theorem Sz.add {n m : Nat} {x y : Int} (h : Sz n x) (k : Sz m y) : Sz (n + m + 1) (x + y) := by
  have h' : x.natAbs < 2 ^ n := h
  have k' : y.natAbs < 2 ^ m := k
  have a : 2 ^ n ≤ 2 ^ (n + m) := Nat.pow_le_pow_right (by decide) (Nat.le_add_right _ _)
  have b : 2 ^ m ≤ 2 ^ (n + m) := Nat.pow_le_pow_right (by decide) (Nat.le_add_left _ _)
  show (x + y).natAbs < 2 ^ (n + m + 1)
  rw [Nat.pow_succ]
  omega
theorem Sz.neg {n : Nat} {x : Int} (h : Sz n x) : Sz n (-x) := by
  show (-x).natAbs < 2 ^ n
  rw [Int.natAbs_neg]
  exact h
theorem Sz.sub {n m : Nat} {x y : Int} (h : Sz n x) (k : Sz m y) : Sz (n + m + 1) (x - y) := by
  have := h.add k.neg
  rw [Int.sub_eq_add_neg]
  exact this
theorem Sz.div {n : Nat} {x y : Int} (h : Sz n x) (p : 0 < y) : Sz n (x / y) := by
  have h' : x.natAbs < 2 ^ n := h
  show (x / y).natAbs < 2 ^ n
  have l : (x / y).natAbs ≤ x.natAbs := by
    have e := Int.emod_add_mul_ediv x y
    have e1 := Int.emod_nonneg x (show y ≠ 0 by omega)
    have e2 := Int.emod_lt_of_pos x p
    by_cases hx : 0 ≤ x
    · have q0 : 0 ≤ x / y := Int.ediv_nonneg hx (by omega)
      have q1 : x / y ≤ x := Int.ediv_le_self _ hx
      omega
    · have q0 : x / y < 0 := Int.ediv_neg_of_neg_of_pos (by omega) p
      have q1 : x ≤ x / y := by
        have : (x / y) * y ≤ (x / y) * 1 := Int.mul_le_mul_of_nonpos_left (by omega) (by omega)
        have e' : x / y * y ≥ x - (y - 1) := by
          have : y * (x / y) = x / y * y := Int.mul_comm _ _
          omega
        by_cases hq : x / y = -1
        · omega
        · have q2 : x / y + 1 ≤ -1 := by omega
          have q3 : (x / y + 1) * y ≤ (x / y + 1) * 1 := Int.mul_le_mul_of_nonpos_left (by omega) (by omega)
          have q4 : (x / y + 1) * y = x / y * y + y := by rw [Int.add_mul, Int.one_mul]
          have : y * (x / y) = x / y * y := Int.mul_comm _ _
          omega
      omega
  omega
theorem Sz.mod {n : Nat} {x y : Int} (h : Sz n y) (p : 0 < y) : Sz n (x % y) := by
  have e1 := Int.emod_nonneg x (show y ≠ 0 by omega)
  have e2 := Int.emod_lt_of_pos x p
  have h' : y.natAbs < 2 ^ n := h
  show (x % y).natAbs < 2 ^ n
  omega
theorem Sz.le {n : Nat} {x y : Int} (h : Sz n y) (a : -y ≤ x) (b : x ≤ y) : Sz n x := by
  have h' : y.natAbs < 2 ^ n := h
  show x.natAbs < 2 ^ n
  omega
theorem Sz.lit {x : Int} (h : x.natAbs < 2 ^ 200 := by decide) : Sz 200 x := h
theorem mulW {i j : Int} {n m : Nat} (a : Sz n i) (b : Sz m j) (h : n + m ≤ 900000 := by decide) : CMulW i j :=
  wide_mul (a.mono (Nat.le_succ n)) (b.mono (Nat.le_succ m)) (Nat.succ_pos _) (Nat.succ_pos _) (by omega)
theorem divW {i j : Int} {n : Nat} (p : 0 < j) (a : Sz n j) (h : n ≤ 8999 := by decide) : CDivW i j :=
  wide_div p (a.mono (Nat.le_succ n)) (Nat.succ_pos _) (by omega)

/-- a product of two numbers, one small or both of a known size -/
def CMulX (i j : Int) : Prop := CMul i j ∨ CMulW i j
theorem op_mulX {X : Cx} : OpR X (binaryOp .Mult) (rI CMulX fun i j => .int (i * j)) := opI fun _ _ _ _ _ _ _ hc q => mul_int q (hc.elim (fun h => h.ok) (fun h => h.ok))
theorem mulX {i j : Int} {n m : Nat} (a : Sz n i) (b : Sz m j) (h : n + m ≤ 900000 := by decide) : CMulX i j := .inr (mulW a b h)
theorem mulR {i j : Int} (h : -(2 ^ 64) < j ∧ j < 2 ^ 64) : CMulX i j := .inl (.inr h)
theorem mulL {i j : Int} (h : -(2 ^ 64) < i ∧ i < 2 ^ 64) : CMulX i j := .inl (.inl h)
/-! ### defs of the top, by their names -/
/-- the def named x stands as st -/
def DefAt (K : PySem.W.Frag) (mg : Str → Option Value) (x : Str) (st : Stmt) (ps : List Str) : Prop :=
  ∃ f fd, Fun K x x st f fd ∧ mg x = some (.ref f) ∧ Binds K fd ps []
/-- the def named x keeps the promise sp -/
def Has (P : Program) (w : World) (K : PySem.W.Frag) (mg : Str → Option Value) (base : Heap) (CX : CXT) (k : Nat) (x : Str) (ps : List Str) (sp : Sp) : Prop :=
  ∃ f fd, mg x = some (.ref f) ∧ PySem.W.keepIn K (.ref f) = true ∧ Binds K fd ps [] ∧ FnOk P w K mg base CX k f fd ps sp
theorem def_mk {K : PySem.W.Frag} {h : Heap} {mg : Str → Option Value} {x : Str} {st : Stmt} {ps : List Str} {f : Addr} {oc : Value} {od an : Option Addr} {osl : Array (Option Value)} {kV doc pm cdv ct : Value} (X : K.In h) (G : h.Ns mainGlobals mg)
    (a : PySem.W.nsIn K mainGlobals x = some (some (.ref f))) (l : K.lookup f = some ⟨oc, od, .func (PySem.W.fnOf x x (defArgs st) (defBody st) (defScope st) .none kV doc pm an cdv ct), osl⟩)
    (c : PySem.W.codeIn K cdv x = true) (k : PySem.W.keepIn K (.ref f) = true)
    (b : ∀ (kV doc pm : Value) (an : Option Addr) (cdv ct : Value) (us : List Value), us.length = ps.length → bindArgs (PySem.W.fnOf x x (defArgs st) (defBody st) (defScope st) .none kV doc pm an cdv ct) ⟨us, []⟩ = pure (ps.zip us)) : DefAt K mg x st ps :=
  ⟨f, _, fun_mk l c k, PySem.W.mg_of X G a, (fun_mk l c k).binds b⟩
section
variable {P : Program} {w : World} {K : PySem.W.Frag} {mg : Str → Option Value} {base : Heap}
theorem DefAt.ok {x : Str} {st : Stmt} {N ps : List Str} {k : Nat} {sp : Sp} (D : DefAt K mg x st ps) (S : FnScope N ps (defScope st)) (len : ∀ vs H Q E, sp vs H Q E → vs.length = ps.length)
    (hbody : ∀ (f : Addr) (cdv : Value) (A : Around) (outer : List Env) (s : Shared) (H : Hp) (vs : List V) (Q : VK) (E : XK), Room k (A.deeper (envOfC x (defScope st) s.heap.objs.size f cdv)) → sp vs H Q E →
      ∃ t, PSs (cxOf CX0 P w K mg base N x (defScope st) f cdv A outer s H E).nox (defBody st) t ∧ t { nx := fun _ H' => Q .non H', rt := Q } (start N vs) H) : Has P w K mg base CX0 (k + 1) x ps sp := by
  obtain ⟨f, fd, F, m, b⟩ := D
  exact ⟨f, fd, m, F.kp, b, F.ok S len fun cdv A outer s H vs Q E hr h => hbody f cdv A outer s H vs Q E hr h⟩
theorem Has.mono {CX : CXT} {x : Str} {ps : List Str} {j k : Nat} {sp : Sp} (G : Has P w K mg base CX j x ps sp) (h : j ≤ k) : Has P w K mg base CX k x ps sp := by
  obtain ⟨f, fd, m, kp, b, F⟩ := G
  exact ⟨f, fd, m, kp, b, F.mono h⟩
end
theorem Has.alias {P : Program} {w : World} {K : PySem.W.Frag} {mg : Str → Option Value} {base : Heap} {CX : CXT} {x y : Str} {ps : List Str} {k : Nat} {sp : Sp} (G : Has P w K mg base CX k x ps sp) (e : mg y = mg x) : Has P w K mg base CX k y ps sp := by
  obtain ⟨f, fd, m, kp, b, F⟩ := G
  exact ⟨f, fd, e.trans m, kp, b, F⟩
/-- f(e, ..), f a def of the top; nothing is raised -/
def tCal (sp : Sp) (E : XK) (t : TA) : TE := fun σ H Q => t σ H fun vs H1 => sp vs H1 Q E
section
variable {X : Cx} {x : Str} {p pos : Pos} {e : Expr} {es : List Expr} {t : TA} {k : Nat} {ps : List Str} {sp : Sp}
theorem pcall (G : Has X.prog X.w X.K X.mg X.base CX0 k x ps sp) (hr : Room k X.A) (ha : PA X (e :: es) t) (hg : Gl X x := by rfl)
    (hdb : (x == ("__debug__" : Str)) = false := by decide) (he : starEach (e :: es) X.env = (false, eval e X.env) :: starEach es X.env := by rfl) (hpl : (backTo pos (starEach es X.env)).any (·.1) = false := by rfl) :
    PE X (.Call (.Name x p) (e :: es) [] pos) (tCal sp E0 t) := by
  obtain ⟨f, fd, m, kp, b, F⟩ := G
  have q := pe_call (p := p) F hr hg m kp b (dvs := []) .nil pass0 ha hdb he hpl
  refine ⟨fun pins s σ H Q I h => q.run pins s σ H Q I ?_⟩
  have h' : t σ H fun vs H1 => sp vs H1 Q E0 := h
  show t σ H fun vs H1 => sp (vs ++ []) H1 Q E0
  have ee : (fun (vs : List V) (H1 : Hp) => sp (vs ++ []) H1 Q E0) = fun vs H1 => sp vs H1 Q E0 := by
    funext vs H1
    rw [List.append_nil]
  rw [ee]
  exact h'
end

theorem cx_K {CX : CXT} {P : Program} {w : World} {K : PySem.W.Frag} {mg : Str → Option Value} {base : Heap} {N : List Str} {qual : Str} {scope : Scope} {f : Addr} {cd : Value} {A : Around} {outer : List Env} {s : Shared} {H : Hp} {E : XK} :
    (cxOf CX P w K mg base N qual scope f cd A outer s H E).K = K := rfl
/-- a statement, then the rest, with a word between them -/
def tCut (t u : TS) : TS := fun D σ H => ∃ M : L2.St → Hp → Prop, t { D with nx := M } σ H ∧ ∀ σ' H', M σ' H' → u D σ' H'
theorem pcut {X : Cx} {st : Stmt} {rest : List Stmt} {t u : TS} (h1 : PS X st t) (h2 : PSs X rest u) : PSs X (st :: rest) (tCut t u) := by
  refine ⟨fun pins s σ H D I h => ?_⟩
  obtain ⟨M, hm, hu⟩ := h
  refine wpAny_execs_cons (thn (h1.run pins s σ H { D with nx := M } I hm) fun f s1 q => ?_)
  cases f with
  | next =>
    obtain ⟨σ', H', I', q⟩ := q
    exact h2.run pins s1 σ' H' D I' (hu σ' H' q)
  | ret v => exact q
  | brk => exact q
  | cont => exact q
/-- a op b op c op d, a test -/
def tChain3 (r r' r'' : R2) (ta tb tc td : TE) : TT := fun σ H Q => ta σ H fun x H1 => tb σ H1 fun y H2 => r x y H2 fun z H3 => ∃ k, z = .bl k ∧
  (if k = true then tc σ H3 fun w' H4 => r' y w' H4 fun z2 H5 => ∃ k2, z2 = .bl k2 ∧ (if k2 = true then td σ H5 fun u' H6 => r'' w' u' H6 fun z3 H7 => ∃ k3, z3 = .bl k3 ∧ Q k3 H7 else Q false H5) else Q false H3)
theorem pt_chain3 {X : Cx} {a b c d : Expr} {ta tb tc td : TE} {pos : Pos} {op op' op'' : CmpOp} {r r' r'' : R2} (ho : OpR X (compareOp op) r) (ho' : OpR X (compareOp op') r') (ho'' : OpR X (compareOp op'') r'') (ha : PE X a ta) (hb : PE X b tb) (hc : PE X c tc) (hd : PE X d td)
    (hm : lastMarks [op, op', op''] [b, c, d] = false := by with_unfolding_all rfl) : PT X (.Compare a [op, op', op''] [b, c, d] pos) (tChain3 r r' r'' ta tb tc td) := by
  refine ⟨fun pins s σ H Q I h => ?_⟩
  refine isTrue_chain (thn (ha.run pins s σ H _ I h) fun v s1 ⟨x, H1, I1, r1, q1⟩ => test_link (thn (hb.run pins s1 σ H1 _ I1 q1) fun u s2 ⟨y, H2, I2, r2, q2⟩ =>
    thn (ho pins s2 σ H2 x y v u _ I2 r1 r2 q2) fun d s3 ⟨z, H3, I3, r3, k, e, q3⟩ => ?_)) hm
  subst e
  cases r3
  refine wpAny_truthy_bool ?_
  cases k with
  | false => exact ite_ff ⟨H3, I3, q3⟩
  | true =>
    refine ite_tt (test_link (thn (hc.run pins s3 σ H3 _ I3 q3) fun w' s4 ⟨z', H4, I4, r4, q4⟩ => thn (ho' pins s4 σ H4 y z' u w' _ I4 r2 r4 q4) fun d' s5 ⟨z2, H5, I5, r5, k2, e2, q5⟩ => ?_))
    subst e2
    cases r5
    refine wpAny_truthy_bool ?_
    cases k2 with
    | false => exact ite_ff ⟨H5, I5, q5⟩
    | true =>
      refine ite_tt (test_last (thn (hd.run pins s5 σ H5 _ I5 q5) fun w2 s6 ⟨z6, H6, I6, r6, q6⟩ => thn (ho'' pins s6 σ H6 z' z6 w' w2 _ I6 r4 r6 q6) fun d7 s7 ⟨z7, H7, I7, r7, k7, e7, q7⟩ => ?_))
      subst e7
      cases r7
      exact wpAny_truthy_bool ⟨H7, I7, q7⟩
/-! ### readings, step by step -/
section
variable {K : PySem.W.Frag} {σ : L2.St} {H : Hp} {Q : VK} {QT : Bool → Hp → Prop} {QA : List V → Hp → Prop} {ta tb tc te : TE} {t u : TT} {tr : TA} {v x y : V} {i j : Int} {D : Ends} {s1 s2 : TS}
theorem r_var {n : Nat} (h : σ[n]? = some (some v)) (k : Q v H) : tVar n σ H Q := ⟨v, h, k⟩
theorem r_c (k : Q v H) : tC v σ H Q := k
theorem r_op {r : R2} (k : ta σ H fun x H1 => tb σ H1 fun y H2 => r x y H2 Q) : tOp r ta tb σ H Q := k
theorem r_un {r : V → Hp → VK → Prop} (k : ta σ H fun x H1 => r x H1 Q) : tUn r ta σ H Q := k
theorem r_I0 {g : Int → Int → V} (k : Q (g i j) H) : rI0 g (.int i) (.int j) H Q := ⟨i, j, rfl, rfl, k⟩
theorem r_I {C : Int → Int → Prop} {g : Int → Int → V} (c : C i j) (k : Q (g i j) H) : rI C g (.int i) (.int j) H Q := ⟨i, j, rfl, rfl, c, k⟩
theorem r_mul (c : CMulX i j) (k : Q (.int (i * j)) H) : rI CMulX (fun i j => .int (i * j)) (.int i) (.int j) H Q := r_I c k
theorem r_div (c : CDivW i j) (k : Q (.int (i / j)) H) : rI CDivW (fun i j => .int (i / j)) (.int i) (.int j) H Q := r_I c k
theorem r_mod (c : 0 < j) (k : Q (.int (i % j)) H) : rI (fun _ j => 0 < j) (fun i j => .int (i % j)) (.int i) (.int j) H Q := ⟨i, j, rfl, rfl, c, k⟩
theorem r_pow (c : CPow i j) (k : Q (.int (i ^ j.toNat)) H) : rI CPow (fun i j => .int (i ^ j.toNat)) (.int i) (.int j) H Q := r_I c k
theorem r_p6 (k : Q (.int 1000000) H) : rI CPow (fun i j => .int (i ^ j.toNat)) (.int 10) (.int 6) H Q := r_I ⟨by decide, by decide, by decide⟩ (by rw [show (10 : Int) ^ Int.toNat 6 = 1000000 by decide +kernel]; exact k)
theorem r_p15 (k : Q (.int 1000000000000000) H) : rI CPow (fun i j => .int (i ^ j.toNat)) (.int 10) (.int 15) H Q := r_I ⟨by decide, by decide, by decide⟩ (by rw [show (10 : Int) ^ Int.toNat 15 = 1000000000000000 by decide +kernel]; exact k)
theorem r_p18 (k : Q (.int 1000000000000000000) H) : rI CPow (fun i j => .int (i ^ j.toNat)) (.int 10) (.int 18) H Q := r_I ⟨by decide, by decide, by decide⟩ (by rw [show (10 : Int) ^ Int.toNat 18 = 1000000000000000000 by decide +kernel]; exact k)
theorem r_p24 (k : Q (.int 1000000000000000000000000) H) : rI CPow (fun i j => .int (i ^ j.toNat)) (.int 10) (.int 24) H Q := r_I ⟨by decide, by decide, by decide⟩ (by rw [show (10 : Int) ^ Int.toNat 24 = 1000000000000000000000000 by decide +kernel]; exact k)
theorem r_p29 (k : Q (.int 100000000000000000000000000000) H) : rI CPow (fun i j => .int (i ^ j.toNat)) (.int 10) (.int 29) H Q := r_I ⟨by decide, by decide, by decide⟩ (by rw [show (10 : Int) ^ Int.toNat 29 = 100000000000000000000000000000 by decide +kernel]; exact k)
theorem r_p30 (k : Q (.int 1000000000000000000000000000000) H) : rI CPow (fun i j => .int (i ^ j.toNat)) (.int 10) (.int 30) H Q := r_I ⟨by decide, by decide, by decide⟩ (by rw [show (10 : Int) ^ Int.toNat 30 = 1000000000000000000000000000000 by decide +kernel]; exact k)
theorem r_p60 (k : Q (.int 1000000000000000000000000000000000000000000000000000000000000) H) : rI CPow (fun i j => .int (i ^ j.toNat)) (.int 10) (.int 60) H Q := r_I ⟨by decide, by decide, by decide⟩ (by rw [show (10 : Int) ^ Int.toNat 60 = 1000000000000000000000000000000000000000000000000000000000000 by decide +kernel]; exact k)
theorem r_U {g : Int → V} (k : Q (g i) H) : rU g (.int i) H Q := ⟨i, rfl, k⟩
theorem r_eqI (k : Q (.bl (decide (i = j))) H) : rEq (.int i) (.int j) H Q := ⟨rfl, by
  have e : decide (V.int i = V.int j) = decide (i = j) := by
    by_cases h : i = j
    · subst h
      rw [decide_eq_true rfl, decide_eq_true rfl]
    · rw [decide_eq_false h, decide_eq_false (fun z => h (V.int.inj z))]
  rw [e]
  exact k⟩
theorem r_neI (k : Q (.bl (!decide (i = j))) H) : rNe (.int i) (.int j) H Q := ⟨rfl, by
  have e : decide (V.int i = V.int j) = decide (i = j) := by
    by_cases h : i = j
    · subst h
      rw [decide_eq_true rfl, decide_eq_true rfl]
    · rw [decide_eq_false h, decide_eq_false (fun z => h (V.int.inj z))]
  rw [e]
  exact k⟩
theorem r_eqB {a b : Bool} (k : Q (.bl (a == b)) H) : rEq (.bl a) (.bl b) H Q := ⟨rfl, by rw [dec_bl]; exact k⟩
theorem r_neB {a b : Bool} (k : Q (.bl (!(a == b))) H) : rNe (.bl a) (.bl b) H Q := ⟨rfl, by rw [dec_bl]; exact k⟩
theorem r_eqS {a b : Str} (k : Q (.bl (a == b)) H) : rEq (.str a) (.str b) H Q := ⟨rfl, by rw [dec_str]; exact k⟩
theorem r_neS {a b : Str} (k : Q (.bl (!(a == b))) H) : rNe (.str a) (.str b) H Q := ⟨rfl, by rw [dec_str]; exact k⟩
theorem r_test (k : te σ H fun x H' => ∃ b, x = .bl b ∧ QT b H') : tTest te σ H QT := k
theorem r_tB (k : te σ H fun x H' => ∃ b, x = .bl b ∧ QT b H') : tB te σ H QT := k
theorem r_bl {b : Bool} (k : QT b H) : ∃ b', V.bl b = .bl b' ∧ QT b' H := ⟨b, rfl, k⟩
theorem r_not (k : t σ H fun b H1 => QT (!b) H1) : tNot t σ H QT := k
theorem r_and (k : t σ H fun b H1 => if b = true then u σ H1 QT else QT false H1) : tAnd t u σ H QT := k
theorem r_or (k : t σ H fun b H1 => if b = true then QT true H1 else u σ H1 QT) : tOr t u σ H QT := k
theorem r_notV (k : ta σ H fun x H1 => ∃ c, x = .bl c ∧ Q (.bl (!c)) H1) : tNotV ta σ H Q := k
theorem r_andV (k : ta σ H fun x H1 => ∃ c, x = .bl c ∧ if c = true then tb σ H1 Q else Q (.bl false) H1) : tAndV ta tb σ H Q := k
theorem r_orV (k : ta σ H fun x H1 => ∃ c, x = .bl c ∧ if c = true then Q (.bl true) H1 else tb σ H1 Q) : tOrV ta tb σ H Q := k
theorem r_blV {b : Bool} {R : Bool → Prop} (k : R b) : ∃ c, V.bl b = .bl c ∧ R c := ⟨b, rfl, k⟩
theorem r_chain {r r' : R2} (k : ta σ H fun x H1 => tb σ H1 fun y H2 => r x y H2 fun z H3 => ∃ k, z = .bl k ∧ (if k = true then tc σ H3 fun w' H4 => r' y w' H4 Q else Q (.bl false) H3)) : tChain r r' ta tb tc σ H Q := k
theorem r_chain3 {r r' r'' : R2} {td : TE} (k : ta σ H fun x H1 => tb σ H1 fun y H2 => r x y H2 fun z H3 => ∃ k, z = .bl k ∧ (if k = true then tc σ H3 fun w' H4 => r' y w' H4 fun z2 H5 => ∃ k2, z2 = .bl k2 ∧ (if k2 = true then td σ H5 fun u' H6 => r'' w' u' H6 fun z3 H7 => ∃ k3, z3 = .bl k3 ∧ QT k3 H7 else QT false H5) else QT false H3)) : tChain3 r r' r'' ta tb tc td σ H QT := k
theorem r_if (k : t σ H fun c H1 => if c = true then ta σ H1 Q else tb σ H1 Q) : tIf t ta tb σ H Q := k
theorem r_cons (k : ta σ H fun x H1 => tr σ H1 fun xs H2 => QA (x :: xs) H2) : tCons ta tr σ H QA := k
theorem r_nil (k : QA [] H) : tNil σ H QA := k
theorem r_cal {sp : Sp} {E : XK} (k : tr σ H fun vs H1 => sp vs H1 Q E) : tCal sp E tr σ H Q := k
/-- a new tuple, a new list -/
def NewT (xs : List V) (H : Hp) (Q : VK) : Prop := xs.length ≤ sizeLine ∧ ∀ p, H p = none → Q (.ref p) (upd H p (.tup xs))
def NewL (xs : List V) (H : Hp) (Q : VK) : Prop := xs.length ≤ sizeLine ∧ ∀ p, H p = none → Q (.ref p) (upd H p (.lst xs))
theorem r_tup (k : tr σ H fun xs H1 => NewT xs H1 Q) : tTup tr σ H Q := k
theorem r_lst (k : tr σ H fun xs H1 => NewL xs H1 Q) : tLst tr σ H Q := k
theorem sz_of {n : Nat} (h : n ≤ 100000) : n ≤ sizeLine := Nat.le_trans h (by decide)
theorem r_newT {xs : List V} (h : xs.length ≤ 100000) (k : ∀ p H1, H p = none → Ex H H1 → H1 p = some (.tup xs) → Q (.ref p) H1) : NewT xs H Q := ⟨sz_of h, fun p hp => k p _ hp (Ex.new hp) upd_same⟩
theorem r_newL {xs : List V} (h : xs.length ≤ 100000) (k : ∀ p H1, H p = none → Ex H H1 → H1 p = some (.lst xs) → Q (.ref p) H1) : NewL xs H Q := ⟨sz_of h, fun p hp => k p _ hp (Ex.new hp) upd_same⟩
theorem r_ixT {p : Addr} {xs : List V} (h : SqT K H p xs) (a : atI xs i = some v) (k : Q v H) : rIxT K (.ref p) (.int i) H Q := ⟨p, xs, i, v, rfl, rfl, h, a, k⟩
theorem r_ixL {p : Addr} {xs : List V} (h : SqL K H p xs) (a : atI xs i = some v) (k : Q v H) : rIxL K (.ref p) (.int i) H Q := ⟨p, xs, i, v, rfl, rfl, h, a, k⟩
/-! statements -/
theorem r_seq (k : s1 { D with nx := s2 D } σ H) : tSeq s1 s2 D σ H := k
theorem r_asg {n : Nat} (k : te σ H fun x H1 => D.nx (σ.set n (some x)) H1) : tAsg te (gName n) D σ H := k
theorem r_asgG {g : TG} (k : te σ H fun x H1 => g x σ H1 D.nx) : tAsg te g D σ H := k
theorem r_drop (k : te σ H fun _ H1 => D.nx σ H1) : tDrop te D σ H := k
theorem r_ret (k : te σ H D.rt) : tRet te D σ H := k
theorem r_retN (k : D.rt .non H) : tRetN D σ H := k
theorem r_ifS (k : t σ H fun b H1 => if b = true then s1 D σ H1 else s2 D σ H1) : tIfS t s1 s2 D σ H := k
theorem r_next (k : D.nx σ H) : tNext D σ H := k
theorem r_gTup {p : Addr} {xs : List V} {n : Nat} {g : TGs} {QS : L2.St → Hp → Prop} (h : SqT K H p xs) (l : xs.length = n) (k : g xs σ H QS) : gTup K n g (.ref p) σ H QS := ⟨p, xs, rfl, h, l, k⟩
theorem r_gCons {g : TG} {gs : TGs} {xs : List V} {QS : L2.St → Hp → Prop} (k : g x σ H fun σ' H' => gs xs σ' H' QS) : gCons g gs (x :: xs) σ H QS := ⟨x, xs, rfl, k⟩
theorem r_gNil {QS : L2.St → Hp → Prop} (k : QS σ H) : gNil [] σ H QS := ⟨rfl, k⟩
theorem r_gName {n : Nat} {QS : L2.St → Hp → Prop} (k : QS (σ.set n (some x)) H) : gName n x σ H QS := k
theorem r_par {n m : Nat} (k : tr σ H fun vs H1 => ∃ v w, vs = [v, w] ∧ D.nx ((σ.set n (some v)).set m (some w)) H1) : tPar n m tr D σ H := k
theorem r_parE {R : V → V → Prop} (k : R x y) : ∃ v w, [x, y] = [v, w] ∧ R v w := ⟨x, y, rfl, k⟩
theorem r_par3 {n m l : Nat} (k : tr σ H fun vs H1 => ∃ u v w, vs = [u, v, w] ∧ D.nx (((σ.set n (some u)).set m (some v)).set l (some w)) H1) : tPar3 n m l tr D σ H := k
theorem r_parE3 {z : V} {R : V → V → V → Prop} (k : R x y z) : ∃ u v w, [x, y, z] = [u, v, w] ∧ R u v w := ⟨x, y, z, rfl, k⟩
theorem r_aug {n : Nat} {f : Int → Int → Int} (h : σ[n]? = some (some (.int i))) (k : te σ H fun y H1 => ipI f (.int i) y H1 fun z H2 => D.nx (σ.set n (some z)) H2) : tAug n te (ipI f) D σ H := ⟨.int i, h, k⟩
theorem r_ipI {f : Int → Int → Int} (k : Q (.int (f i j)) H) : ipI f (.int i) (.int j) H Q := ⟨i, j, rfl, rfl, k⟩
theorem r_cut {t u : TS} (M : L2.St → Hp → Prop) (h : t { D with nx := M } σ H) (k : ∀ σ' H', M σ' H' → u D σ' H') : tCut t u D σ H := ⟨M, h, k⟩
/-! tests decided -/
theorem r_nx {f : L2.St → Hp → Prop} {g : VK} {b c : L2.St → Hp → Prop} (k : f σ H) : Ends.nx ⟨f, g, b, c⟩ σ H := k
theorem r_nxS {f : L2.St → Hp → Prop} {g : VK} {b c : L2.St → Hp → Prop} {n : Nat} {z : Option V} {l' : L2.St} (h : σ.set n z = l') (k : f l' H) : Ends.nx ⟨f, g, b, c⟩ (σ.set n z) H := by rw [h]; exact k
theorem set_z {x v : Option V} {l : L2.St} : List.set (x :: l) 0 v = v :: l := rfl
theorem set_s {x v : Option V} {n : Nat} {l l' : L2.St} (h : l.set n v = l') : List.set (x :: l) (n + 1) v = x :: l' := by rw [← h]; rfl
theorem set_in {v : Option V} {n : Nat} {e e' l' : L2.St} (h1 : e = e') (h2 : e'.set n v = l') : e.set n v = l' := by rw [h1]; exact h2
theorem r_rt {f : L2.St → Hp → Prop} {g : VK} {b c : L2.St → Hp → Prop} (k : g v H) : Ends.rt ⟨f, g, b, c⟩ v H := k
theorem not_t {b : Bool} (h : b = false) : (!b) = true := by rw [h]; rfl
theorem not_f {b : Bool} (h : b = true) : (!b) = false := by rw [h]; rfl
theorem if_T {b : Bool} {A B : Prop} (h : b = true) (k : A) : if b = true then A else B := by rw [if_pos h]; exact k
theorem if_F {b : Bool} {A B : Prop} (h : b = false) (k : B) : if b = true then A else B := by
  rw [h, if_neg Bool.false_ne_true]
  exact k
theorem if_2 {b : Bool} {A B : Prop} (h1 : b = true → A) (h2 : b = false → B) : if b = true then A else B := by
  cases b with
  | true => exact if_T rfl (h1 rfl)
  | false => exact if_F rfl (h2 rfl)
/-- what is set into the tuple of the draws -/
theorem r_setL {o : Addr} {xs : List V} {k0 : Nat} {z : V} {Qh : Hp → Prop} (h : H o = some (.lst xs)) (hi : ixN xs.length i = some k0) (k : Qh (upd H o (.lst (xs.set k0 z)))) : rSetL (.ref o) (.int i) z H Qh := ⟨o, xs, i, k0, rfl, rfl, h, hi, k⟩
theorem r_gSub {to ti : TE} {ts : TSet} {QS : L2.St → Hp → Prop} (k : to σ H fun o H1 => ti σ H1 fun i H2 => ts o i v H2 fun H3 => QS σ H3) : gSub to ti ts v σ H QS := k
end

/-! calls of built-ins, walks -/
def rLen (K : PySem.W.Frag) : List V → Hp → VK → Prop := fun xs H Q => ∃ p ys, xs = [.ref p] ∧ (SqL K H p ys ∨ SqT K H p ys) ∧ Q (.int ys.length) H
theorem cl_len {X : Cx} : CallR X (.builtin "len") (rLen X.K) := call_len_seq
def rLenStr : List V → Hp → VK → Prop := fun xs H Q => ∃ z, xs = [.str z] ∧ z.length ≤ sizeLine ∧ Q (.int z.length) H
theorem cl_lenS {X : Cx} : CallR X (.builtin "len") rLenStr := call_len_str
def rAbs : List V → Hp → VK → Prop := fun xs H Q => ∃ i, xs = [.int i] ∧ Q (.int (if i < 0 then -i else i)) H
theorem cl_abs {X : Cx} : CallR X (.builtin "abs") rAbs := call_abs
def rMax2 : List V → Hp → VK → Prop := fun xs H Q => ∃ i j, xs = [.int i, .int j] ∧ Q (.int (if j > i then j else i)) H
def rMin2 : List V → Hp → VK → Prop := fun xs H Q => ∃ i j, xs = [.int i, .int j] ∧ Q (.int (if j < i then j else i)) H
theorem cl_max2 {X : Cx} (hc : X.calm = true) : CallR X (.builtin "max") rMax2 := call_max2 hc
theorem cl_min2 {X : Cx} (hc : X.calm = true) : CallR X (.builtin "min") rMin2 := call_min2 hc
def rMin3 : List V → Hp → VK → Prop := fun xs H Q => ∃ i j k, xs = [.int i, .int j, .int k] ∧ Q (.int (min (min i j) k)) H
theorem nu_min3 (i j k : Int) : nuMin3 (.int i) (.int j) (.int k) = some (.int (min (min i j) k)) := by
  have h1 : (if decide (j < i) = true then V.int j else V.int i) = V.int (min i j) := by
    by_cases h : j < i
    · rw [decide_eq_true h, if_pos rfl, show min i j = j by omega]
    · rw [decide_eq_false h, if_neg (by decide), show min i j = i by omega]
  have h2 : (if decide (k < min i j) = true then V.int k else V.int (min i j)) = V.int (min (min i j) k) := by
    by_cases h : k < min i j
    · rw [decide_eq_true h, if_pos rfl, show min (min i j) k = k by omega]
    · rw [decide_eq_false h, if_neg (by decide), show min (min i j) k = min i j by omega]
  rw [← h2, ← h1]
  unfold nuMin3
  show (some (if decide (j < i) = true then V.int j else V.int i)).bind _ = _
  rw [h1]
  rfl
theorem cl_min3 {X : Cx} (hc : X.calm = true) : CallR X (.builtin "min") rMin3 := fun pins s σ H xs us Q I r h => by
  obtain ⟨i, j, k, rfl, q⟩ := h
  exact call_min3Nu hc pins s σ H _ us Q I r ⟨_, _, _, _, rfl, nu_min3 i j k, q⟩
theorem r_min3 {H : Hp} {Q : VK} {i j k : Int} (q : Q (.int (min (min i j) k)) H) : rMin3 [.int i, .int j, .int k] H Q := ⟨i, j, k, rfl, q⟩
def rInt1 : List V → Hp → VK → Prop := fun xs H Q => (∃ i, xs = [.int i] ∧ Q (.int i) H) ∨ ∃ k, xs = [.bl k] ∧ Q (.int (if k then 1 else 0)) H
theorem cl_int1 {X : Cx} : CallR X (.type "int") rInt1 := call_int1
def rBool1 : List V → Hp → VK → Prop := fun xs H Q => (∃ i, xs = [.int i] ∧ Q (.bl (i != 0)) H) ∨ ∃ k, xs = [.bl k] ∧ Q (.bl k) H
theorem cl_bool1 {X : Cx} : CallR X (.type "bool") rBool1 := call_bool1
def rStrI : List V → Hp → VK → Prop := fun xs H Q => ∃ i, xs = [.int i] ∧ i.natAbs.log2 < 1920 ∧ Q (.str (toString i)) H
theorem cl_strI {X : Cx} : CallR X (.type "str") rStrI := call_str_int
section
variable {K : PySem.W.Frag} {σ : L2.St} {H : Hp} {Q : VK} {QT : Bool → Hp → Prop} {ta tb tc te : TE} {t u : TT} {tr : TA} {v x y : V} {i j : Int} {D : Ends} {s1 s2 : TS} {g : TG}
theorem r_CB {r : List V → Hp → VK → Prop} (k : tr σ H fun vs H1 => r vs H1 Q) : tCB r tr σ H Q := k
theorem r_lenL {p : Addr} {ys : List V} (h : SqL K H p ys) (k : Q (.int (ys.length : Nat)) H) : rLen K [.ref p] H Q := ⟨p, ys, rfl, .inl h, k⟩
theorem r_lenT {p : Addr} {ys : List V} (h : SqT K H p ys) (k : Q (.int (ys.length : Nat)) H) : rLen K [.ref p] H Q := ⟨p, ys, rfl, .inr h, k⟩
theorem r_lenS {z : Str} (h : z.length ≤ sizeLine) (k : Q (.int (z.length : Nat)) H) : rLenStr [.str z] H Q := ⟨z, rfl, h, k⟩
theorem r_abs (k : Q (.int (i.natAbs : Int)) H) : rAbs [.int i] H Q := ⟨i, rfl, by
  have e : (if i < 0 then -i else i) = (i.natAbs : Int) := by split <;> omega
  rw [e]
  exact k⟩
theorem r_max2 (k : Q (.int (max i j)) H) : rMax2 [.int i, .int j] H Q := ⟨i, j, rfl, by
  have e : (if j > i then j else i) = max i j := by split <;> omega
  rw [e]
  exact k⟩
theorem r_min2 (k : Q (.int (min i j)) H) : rMin2 [.int i, .int j] H Q := ⟨i, j, rfl, by
  have e : (if j < i then j else i) = min i j := by split <;> omega
  rw [e]
  exact k⟩
theorem r_intI (k : Q (.int i) H) : rInt1 [.int i] H Q := .inl ⟨i, rfl, k⟩
theorem r_intB {b : Bool} (k : Q (.int (if b = true then 1 else 0)) H) : rInt1 [.bl b] H Q := .inr ⟨b, rfl, k⟩
theorem r_isII (k : Q (.bl true) H) : rIsi K [.int i, .ty "int"] H Q := ⟨_, _, _, _, _, rfl, .ty _, .base (.int _), kit_ty (by decide +kernel), k⟩
theorem r_isIB (k : Q (.bl false) H) : rIsi K [.int i, .ty "bool"] H Q := ⟨_, _, _, _, _, rfl, .ty _, .base (.int _), kit_ty (by decide +kernel), k⟩
theorem r_isTT {p : Addr} {xs : List V} (h : H p = some (.tup xs)) (k : Q (.bl true) H) : rIsi K [.ref p, .ty "tuple"] H Q := ⟨_, _, _, _, _, rfl, .ty _, .base (.tup h), kit_ty (by decide +kernel), k⟩
theorem r_isLL {p : Addr} {xs : List V} (h : H p = some (.lst xs)) (k : Q (.bl true) H) : rIsi K [.ref p, .ty "list"] H Q := ⟨_, _, _, _, _, rfl, .ty _, .base (.lst h), kit_ty (by decide +kernel), k⟩
theorem r_isBB {b : Bool} (k : Q (.bl true) H) : rIsi K [.bl b, .ty "bool"] H Q := ⟨_, _, _, _, _, rfl, .ty _, .base (.bl _), kit_ty (by decide +kernel), k⟩
theorem r_isBI {b : Bool} (k : Q (.bl true) H) : rIsi K [.bl b, .ty "int"] H Q := ⟨_, _, _, _, _, rfl, .ty _, .base (.bl _), kit_ty (by decide +kernel), k⟩
theorem r_isSS {z : Str} (k : Q (.bl true) H) : rIsi K [.str z, .ty "str"] H Q := ⟨_, _, _, _, _, rfl, .ty _, .base (.str _), kit_ty (by decide +kernel), k⟩
theorem r_all {p : Addr} {bs : List Bool} (h : SqL K H p (bs.map V.bl)) (k : Q (.bl (bs.all id)) H) : rAll K [.ref p] H Q := ⟨p, bs, rfl, h, k⟩
theorem r_any {p : Addr} {bs : List Bool} (h : SqL K H p (bs.map V.bl)) (k : Q (.bl (bs.any id)) H) : rAny K [.ref p] H Q := ⟨p, bs, rfl, h, k⟩
/-- a loop over J -/
def ForB (J : It) (g : TG) (tb : TS) (D : Ends) (σ : L2.St) (H1 : Hp) : Prop := ∃ W : Nat → Nat → L2.St → Hp → Prop, (∃ m, W 0 m σ H1) ∧ ∀ i m σ H, W i m σ H →
  (J.stop i H ∧ D.nx σ H) ∨ (J.go i H ∧ ∃ Nx : L2.St → Hp → Prop, (∀ σ' H', Nx σ' H' → ∃ m', m' < m ∧ W (i + 1) m' σ' H') ∧ ∀ x H', J.yld i H x H' → g x σ H' fun σ2 H2 => tb { D with nx := Nx, ct := Nx, bk := D.nx } σ2 H2)
def Rng1 (vs : List V) (H : Hp) (R : It → Hp → Prop) : Prop := ∃ j : Int, vs = [.int j] ∧ -(2 ^ 62) ≤ j ∧ j < 2 ^ 62 ∧ R (Itr 0 j.toNat) H
def Rng2 (vs : List V) (H : Hp) (R : It → Hp → Prop) : Prop := ∃ i j : Int, vs = [.int i, .int j] ∧ R (Itr i (j - i).toNat) H
def iRngL (ta : TA) : TI := fun σ H R => ta σ H fun vs H1 => Rng2 vs H1 R
def ItL (K : PySem.W.Frag) (x : V) (H : Hp) (R : It → Hp → Prop) : Prop := ∃ a, x = .ref a ∧ (∃ xs, SqL K H a xs) ∧ R (Itl K a) H
def ItT (K : PySem.W.Frag) (x : V) (H : Hp) (R : It → Hp → Prop) : Prop := ∃ a, x = .ref a ∧ (∃ xs, SqT K H a xs) ∧ R (Itt K a) H
variable {R : It → Hp → Prop} {wi : TI}
theorem r_for (k : wi σ H fun J H1 => ForB J g s1 D σ H1) : tFor wi g s1 D σ H := k
theorem r_iRng1 (k : tr σ H fun vs H1 => Rng1 vs H1 R) : iRng1 tr σ H R := k
theorem r_iRng2 (k : tr σ H fun vs H1 => Rng2 vs H1 R) : iRngL tr σ H R := k
theorem r_iList (k : te σ H fun x H1 => ItL K x H1 R) : iList K te σ H R := k
theorem r_iTup (k : te σ H fun x H1 => ItT K x H1 R) : iTup K te σ H R := k
theorem r_rng1 (h1 : -(2 ^ 62) ≤ i) (h2 : i < 2 ^ 62) (k : R (Itr 0 i.toNat) H) : Rng1 [.int i] H R := ⟨i, rfl, h1, h2, k⟩
theorem r_rng2 (h : -(2 ^ 62) ≤ i ∧ i < 2 ^ 62 ∧ -(2 ^ 62) ≤ j ∧ j < 2 ^ 62) (k : R (Itr i (j - i).toNat) H) : Rng2 [.int i, .int j] H R := ⟨i, j, rfl, k⟩
theorem r_rngL (k : R (Itr i (j - i).toNat) H) : Rng2 [.int i, .int j] H R := ⟨i, j, rfl, k⟩
theorem r_ItL {p : Addr} {xs : List V} (h : SqL K H p xs) (k : R (Itl K p) H) : ItL K (.ref p) H R := ⟨p, rfl, ⟨xs, h⟩, k⟩
theorem r_ItT {p : Addr} {xs : List V} (h : SqT K H p xs) (k : R (Itt K p) H) : ItT K (.ref p) H R := ⟨p, rfl, ⟨xs, h⟩, k⟩
theorem for_rng {lo : Int} {n j : Nat} (Pv : Nat → L2.St → Hp → Prop) (h0 : Pv 0 σ H)
    (hs : ∀ i σ H, i < n → Pv i σ H → s1 { D with nx := Pv (i + 1), ct := Pv (i + 1), bk := D.nx } (σ.set j (some (.int (lo + i)))) H) (hd : ∀ σ H, Pv n σ H → D.nx σ H) : ForB (Itr lo n) (gName j) s1 D σ H := for_range Pv h0 hs hd
theorem for_lst {a : Addr} {xs : List V} (Pv : Nat → L2.St → Hp → Prop) (h0 : Pv 0 σ H) (hl : ∀ i σ H, i ≤ xs.length → Pv i σ H → SqL K H a xs)
    (hs : ∀ i x σ H, xs[i]? = some x → Pv i σ H → g x σ H fun σ2 H2 => s1 { D with nx := Pv (i + 1), ct := Pv (i + 1), bk := D.nx } σ2 H2) (hd : ∀ σ H, Pv xs.length σ H → D.nx σ H) : ForB (Itl K a) g s1 D σ H := for_list Pv h0 hl hs hd
theorem for_tp {a : Addr} {xs : List V} (Pv : Nat → L2.St → Hp → Prop) (h0 : Pv 0 σ H) (hl : ∀ i σ H, i ≤ xs.length → Pv i σ H → SqT K H a xs)
    (hs : ∀ i x σ H, xs[i]? = some x → Pv i σ H → g x σ H fun σ2 H2 => s1 { D with nx := Pv (i + 1), ct := Pv (i + 1), bk := D.nx } σ2 H2) (hd : ∀ σ H, Pv xs.length σ H → D.nx σ H) : ForB (Itt K a) g s1 D σ H := for_tup Pv h0 hl hs hd
/-- a comprehension over J -/
def LcB (J : It) (g : TG) (tt : TT) (te : TE) (vs : List Nat) (σ : L2.St) (H1 : Hp) (Q : VK) : Prop := ∀ D, H1 D = none → ∃ W : Nat → Nat → Hp → Prop, (∃ m, W 0 m (upd H1 D (.lst []))) ∧ ∀ i m H, W i m H →
  (J.stop i H ∧ Q (.ref D) H) ∨ (J.go i H ∧ ∃ Nx : Hp → Prop, (∀ H', Nx H' → ∃ m', m' < m ∧ W (i + 1) m' H') ∧ ∀ x H', J.yld i H x H' → g x (wipe σ vs) H' fun σ2 H2 => wipe σ2 vs = wipe σ vs ∧ tt σ2 H2 fun b H3 =>
    if b = true then te σ2 H3 fun y H4 => ∃ acc, H4 D = some (.lst acc) ∧ acc.length < sizeLine ∧ Nx (upd H4 D (.lst (acc ++ [y]))) else Nx H3)
theorem r_lc {vs : List Nat} (k : wi σ H fun J H1 => LcB J g t te vs σ H1 Q) : tLc wi g t te vs σ H Q := k
end
/-! ranges of any size -/
theorem turn_long {P : Program} {w : World} {K : PySem.W.Frag} {tg : Expr} (it : Addr) (lo : Int) (n : Nat) : Turn P w K tg (Itr lo n) [it] it (fun i h => IsLongIter h it (lo + (i : Nat) * 1) ((n : Int) - (i : Nat)) 1) where
  mem := List.mem_cons_self
  obj := fun i h st b hb => by
    obtain rfl : b = it := by simpa using hb
    exact ⟨_, st, fun v z => by
      have z' : Data.fields _ = Data.cell v := z
      cases z'⟩
  keep := fun i h h' st k => k it List.mem_cons_self _ st
  item := by
    intro X hP hw hK hc i pins s σ H E I hf st hg
    subst hP hw hK
    obtain ⟨f0, f1, f2, f3, f4, f5⟩ := hf it List.mem_cons_self
    refine (Walks.longrange (prog := X.prog) (w := X.w) (I.ok.hd hc) it lo 1 n).item i s _ _ hg st fun v h' tk hv st' kk => ?_
    obtain ⟨t, rfl⟩ := hv
    have I1 : Inv X pins σ H { s with heap := h', toks := tk } := I.turned (fun b o hb e => kk b o (by simpa using hb) e) f0 f1 f3 f4 f5
    exact ⟨_, rfl, go_of (s := { s with heap := h', toks := tk }) (n := "longrange_iterator") st' rfl rfl (by decide) ⟨.int (lo + i), H, I1, ⟨t, by rw [Int.mul_one]⟩, ⟨rfl, rfl⟩, st', fun b hb => (hf b hb).1⟩⟩
  done := by
    intro X hP hw hK hc i pins s σ H E I hf st hg
    subst hP hw hK
    obtain ⟨f0, f1, f2, f3, f4, f5⟩ := hf it List.mem_cons_self
    have hg' : n ≤ i := hg
    exact wpAny_pyNext_long_end (I.ok.hd hc) st (by omega) fun h' eb => ⟨rfl, I.turned (t' := s.toks) (fun b o hb e => eb b o hb e) f0 f1 f3 f4 f5⟩
  self := fun _ _ _ _ _ st h => wpAny_pyIter_longiter st h
theorem size_0 {lo hi : Int} : (((hi - lo).toNat : Nat) : Int) - ((0 : Nat) : Int) = Builtin.Range.rangeSize lo hi 1 := by
  rw [rangeSize_one]
  split <;> omega
theorem rit_0 {h : Heap} {lo hi : Int} : IsRangeIter (h.push { cls := .type "range_iterator", data := .fields #[rawInt lo, rawInt (Builtin.Range.rangeSize lo hi 1), rawInt 1] }) h.objs.size (lo + ((0 : Nat) : Int) * 1) ((((hi - lo).toNat : Nat) : Int) - ((0 : Nat) : Int)) 1 := by
  have e1 : lo + ((0 : Nat) : Int) * 1 = lo := by omega
  rw [e1, size_0]
  exact Heap.get?_push_size _ rfl
theorem lit_0 {h : Heap} {lo hi : Int} : IsLongIter (h.push { cls := .type "longrange_iterator", data := .fields #[rawInt lo, rawInt (Builtin.Range.rangeSize lo hi 1), rawInt 1] }) h.objs.size (lo + ((0 : Nat) : Int) * 1) ((((hi - lo).toNat : Nat) : Int) - ((0 : Nat) : Int)) 1 := by
  have e1 : lo + ((0 : Nat) : Int) * 1 = lo := by omega
  rw [e1, size_0]
  exact Heap.get?_push_size _ rfl
theorem range_any {X : Cx} {tg : Expr} {pins : List (Addr × Obj)} {σ : L2.St} {H : Hp} {s : Shared} {R : It → Hp → Prop} {E : Value → Shared → Prop} {lo hi : Int} {t u v : Tok} {tk : Nat} (I : Inv X pins σ H s)
    (q : R (Itr lo (hi - lo).toNat) H) : wpAny (model X.prog X.w) X.A (pyIter (.ref s.heap.objs.size)) (PIE X pins σ tg R) E { s with heap := s.heap.push { cls := .type "range", data := .fields #[.int lo t, .int hi u, .int 1 v] }, toks := tk } := by
  have I1 : Inv X pins σ H { s with heap := s.heap.push { cls := .type "range", data := .fields #[.int lo t, .int hi u, .int 1 v] }, toks := tk } := I.kept fun b o e => Heap.get?_push_of_some _ e
  have fp : ∀ b ∈ [(s.heap.push { cls := .type "range", data := .fields #[.int lo t, .int hi u, .int 1 v] }).objs.size], FpOk X pins H b := fun b hb => by
    obtain rfl : b = (s.heap.push { cls := .type "range", data := .fields #[.int lo t, .int hi u, .int 1 v] }).objs.size := by simpa using hb
    exact I1.fpOk (Nat.le_refl _) (I1.hok.fresh (Nat.le_refl _))
  cases hs : Builtin.Range.small lo hi 1 with
  | true => exact wpAny_pyIter_range (IsRange.new ..) hs ⟨_, [_], _, _, H, rfl, I1.kept (t' := tk) fun b o e => Heap.get?_push_of_some _ e, turn_range _ lo (hi - lo).toNat, rit_0, fp, q⟩
  | false => exact wpAny_pyIter_longrange (IsRange.new ..) hs ⟨_, [_], _, _, H, rfl, I1.kept (t' := tk) fun b o e => Heap.get?_push_of_some _ e, turn_long _ lo (hi - lo).toNat, lit_0, fp, q⟩
theorem pi_rng2 {X : Cx} {tg : Expr} {a b : Expr} {ta : TA} {p pos : Pos} (hg : Gl X "range") (hm : X.mg "range" = none) (ha : PA X [a, b] ta) (hs : starEach [a, b] X.env = [(false, eval a X.env), (false, eval b X.env)] := by rfl) (hs2 : starEach [b] X.env = [(false, eval b X.env)] := by rfl) :
    PI X tg (.Call (.Name "range" p) [a, b] [] pos) (iRngL ta) := by
  refine ⟨fun pins s σ H R I h => Call_ (ld_blt I hg hm boot_range (PyProof.Rows.callWith_type1 (thn (ha.run pos pins s σ H _ I h) fun us s1 ⟨vs, H1, I1, r1, q1⟩ => ?_) (by rw [hs, hs2]) (by rw [hs2]; rfl)))⟩
  obtain ⟨i, j, rfl, q⟩ := q1
  cases r1 with
  | cons r rr =>
    cases rr with
    | cons r' rr =>
      cases rr
      obtain ⟨t, rfl⟩ := r
      obtain ⟨t', rfl⟩ := r'
      exact call_range_2 (range_any I1 q)
/-- what an expression gives without a change of what is tracked -/
def PureE (te : TE) (σ : L2.St) (H : Hp) (v : V) : Prop := ∀ H1, Ex H H1 → ∀ Q : VK, (∀ H2, Ex H1 H2 → Q v H2) → te σ H1 Q
section
variable {K : PySem.W.Frag} {σ : L2.St} {H : Hp} {Q : VK} {te : TE}
theorem tYes_k {F : Bool → Hp → Prop} (k : F true H) : tYes σ H F := k
theorem len_lt {n : Nat} (h : n ≤ 100000) : n < sizeLine := Nat.lt_of_le_of_lt h (by decide)
/-- [e for j in a range], e pure -/
theorem lc_rngP {lo : Int} {n j : Nat} {vs : List Nat} (f : Nat → V) (hn : n ≤ 100000) (hw : ∀ x, wipe ((wipe σ vs).set j (some x)) vs = wipe σ vs)
    (he : ∀ i : Nat, i < n → PureE te ((wipe σ vs).set j (some (.int (lo + i)))) H (f i)) (k : ∀ p H1, H p = none → Ex H H1 → H1 p = some (.lst ((List.range n).map f)) → Q (.ref p) H1) : LcB (Itr lo n) (gName j) tYes te vs σ H Q := fun Dl hD => by
  refine lc_range (fun i H' => Ex H H' ∧ H' Dl = some (.lst ((List.range i).map f))) ⟨Ex.new hD, upd_same⟩ (fun i H' hi p => ?_) (fun H' p => k Dl H' hD p.1 p.2)
  refine ⟨hw _, ?_⟩
  refine tYes_k ?_
  rw [if_pos rfl]
  refine he i hi H' p.1 _ fun H2 e2 => ⟨_, e2 _ _ p.2, ?_, ?_⟩
  · rw [List.length_map, List.length_range]
    exact len_lt (by omega)
  · refine ⟨fun a o ha => ?_, ?_⟩
    · rw [upd_ne (ne_of_none ha hD)]
      exact e2 _ _ (p.1 _ _ ha)
    · rw [upd_same, List.range_succ, List.map_append]
      rfl
theorem lc_lstP {a : Addr} {xs : List V} {j : Nat} {vs : List Nat} (f : V → V) (hx : SqL K H a xs) (hn : xs.length ≤ 100000) (hw : ∀ x, wipe ((wipe σ vs).set j (some x)) vs = wipe σ vs)
    (he : ∀ (i : Nat) x, xs[i]? = some x → PureE te ((wipe σ vs).set j (some x)) H (f x)) (k : ∀ p H1, H p = none → Ex H H1 → H1 p = some (.lst (xs.map f)) → Q (.ref p) H1) : LcB (Itl K a) (gName j) tYes te vs σ H Q := fun Dl hD => by
  refine lc_list (xs := xs) (fun i H' => Ex H H' ∧ H' Dl = some (.lst ((xs.take i).map f))) ⟨Ex.new hD, upd_same⟩ (fun i H' _ p => sql_up p.1 hx) (fun i x H' hi p => ?_) (fun H' p => k Dl H' hD p.1 (by rw [p.2, List.take_length]))
  refine ⟨hw _, ?_⟩
  refine tYes_k ?_
  rw [if_pos rfl]
  refine he i x hi H' p.1 _ fun H2 e2 => ⟨_, e2 _ _ p.2, ?_, ?_⟩
  · rw [List.length_map, List.length_take]
    exact len_lt (by omega)
  · refine ⟨fun a o ha => ?_, ?_⟩
    · rw [upd_ne (ne_of_none ha hD)]
      exact e2 _ _ (p.1 _ _ ha)
    · rw [upd_same, List.take_add_one, hi, List.map_append]
      rfl
theorem lc_tupP {a : Addr} {xs : List V} {j : Nat} {vs : List Nat} (f : V → V) (hx : SqT K H a xs) (hn : xs.length ≤ 100000) (hw : ∀ x, wipe ((wipe σ vs).set j (some x)) vs = wipe σ vs)
    (he : ∀ (i : Nat) x, xs[i]? = some x → PureE te ((wipe σ vs).set j (some x)) H (f x)) (k : ∀ p H1, H p = none → Ex H H1 → H1 p = some (.lst (xs.map f)) → Q (.ref p) H1) : LcB (Itt K a) (gName j) tYes te vs σ H Q := fun Dl hD => by
  refine lc_tup (xs := xs) (fun i H' => Ex H H' ∧ H' Dl = some (.lst ((xs.take i).map f))) ⟨Ex.new hD, upd_same⟩ (fun i H' _ p => sqt_up p.1 hx) (fun i x H' hi p => ?_) (fun H' p => k Dl H' hD p.1 (by rw [p.2, List.take_length]))
  refine ⟨hw _, ?_⟩
  refine tYes_k ?_
  rw [if_pos rfl]
  refine he i x hi H' p.1 _ fun H2 e2 => ⟨_, e2 _ _ p.2, ?_, ?_⟩
  · rw [List.length_map, List.length_take]
    exact len_lt (by omega)
  · refine ⟨fun a o ha => ?_, ?_⟩
    · rw [upd_ne (ne_of_none ha hD)]
      exact e2 _ _ (p.1 _ _ ha)
    · rw [upd_same, List.take_add_one, hi, List.map_append]
      rfl
end

theorem Sz.b2 {c : Prop} {_ : Decidable c} : Sz 1 (if c then 1 else 0) := by
  show (if c then (1 : Int) else 0).natAbs < 2 ^ 1
  split <;> decide
theorem div_mod_eq (x m : Int) : x / m * m + x % m = x := by
  have := Int.emod_add_mul_ediv x m
  rw [Int.mul_comm] at this
  omega
theorem Sz.small {x : Int} (h : x.natAbs < 1000000000000000000) : Sz 200 x := by
  show x.natAbs < 2 ^ 200
  omega
theorem at_ints {ns : List Int} {i : Int} (h0 : 0 ≤ i) (h1 : i < ns.length) : ∃ z, atI (ns.map V.int) i = some (.int z) ∧ ns[i.toNat]? = some z := by
  have hl : i.toNat < ns.length := by omega
  refine ⟨ns[i.toNat], ?_, List.getElem?_eq_getElem hl⟩
  refine at_of (j := i.toNat) (by omega) ?_
  rw [List.getElem?_map, List.getElem?_eq_getElem hl]
  rfl
theorem at_3 {x y z : V} {i : Int} (h0 : 0 ≤ i) (h1 : i < 3) : ∃ v, atI [x, y, z] i = some v ∧ (v = x ∨ v = y ∨ v = z) := by
  obtain rfl | rfl | rfl : i = 0 ∨ i = 1 ∨ i = 2 := by omega
  · exact ⟨_, rfl, .inl rfl⟩
  · exact ⟨_, rfl, .inr (.inl rfl)⟩
  · exact ⟨_, rfl, .inr (.inr rfl)⟩
theorem Sz.lt {n : Nat} {x y : Int} (h : Sz n y) (a : 0 ≤ x) (b : x < y) : Sz n x := by
  have h' : y.natAbs < 2 ^ n := h
  show x.natAbs < 2 ^ n
  omega
theorem Sz.abs {n : Nat} {x : Int} (h : Sz n x) : Sz n (x.natAbs : Int) := by
  show ((x.natAbs : Int)).natAbs < 2 ^ n
  exact h

section
variable {σ : L2.St} {H : Hp} {D : Ends} {t : TT} {s1 : TS}
/-- a while by its measure -/
theorem while_m (W : Nat → L2.St → Hp → Prop) (m0 : Nat) (h0 : W m0 σ H) (h : ∀ m σ H, W m σ H → t σ H fun b H1 => if b = true then ∃ N : L2.St → Hp → Prop, (∀ σ' H', N σ' H' → ∃ m', m' < m ∧ W m' σ' H') ∧ s1 { D with nx := N, ct := N, bk := D.nx } σ H1 else D.nx σ H1) : tWhile t s1 D σ H :=
  ⟨W, ⟨m0, h0⟩, fun m σ H w => h m σ H w⟩
theorem r_body {m : Nat} {W : Nat → L2.St → Hp → Prop} (N : L2.St → Hp → Prop) (hN : ∀ σ' H', N σ' H' → ∃ m', m' < m ∧ W m' σ' H') (k : s1 { D with nx := N, ct := N, bk := D.nx } σ H) :
    ∃ N : L2.St → Hp → Prop, (∀ σ' H', N σ' H' → ∃ m', m' < m ∧ W m' σ' H') ∧ s1 { D with nx := N, ct := N, bk := D.nx } σ H := ⟨N, hN, k⟩
end

/-- in a turn of the law, begun at H0, drawing from d -/
structure Lw (H0 : Hp) (d : Addr) (H : Hp) : Prop where
  e : Ex H0 H
  n : H0 d = none
  D : Dr H d
theorem Lw.ex {H0 H H' : Hp} {d : Addr} (w : Lw H0 d H) (e : Ex H H') : Lw H0 d H' := ⟨w.e.trans e, w.n, w.D.up e⟩
/-- a list of the turn's own is changed -/
theorem Lw.own {H0 H H' : Hp} {d l : Addr} (w : Lw H0 d H) (nf : H0 l = none) (ne : l ≠ d) (k : Kp l H H') : Lw H0 d H' := by
  obtain ⟨x, y, h, r⟩ := w.D
  exact ⟨w.e.kpd nf k, w.n, x, y, k _ _ (Ne.symm ne) h, r⟩
theorem Lw.kp {H0 H H' : Hp} {d : Addr} (w : Lw H0 d H) (k : Kp d H H') (D : Dr H' d) : Lw H0 d H' := ⟨w.e.kpd w.n k, w.n, D⟩

/-! data compared -/
theorem eqv_ints : ∀ xs ys : List Int, PyData.eqvAll (xs.map PyData.int) (ys.map PyData.int) = decide (xs = ys)
  | [], [] => by rw [decide_eq_true rfl]; rfl
  | [], y :: ys => by rw [decide_eq_false (by intro h; cases h)]; rfl
  | x :: xs, [] => by rw [decide_eq_false (by intro h; cases h)]; rfl
  | x :: xs, y :: ys => by
    show (PyData.eqv (.int x) (.int y) && PyData.eqvAll (xs.map PyData.int) (ys.map PyData.int)) = _
    rw [eqv_ints xs ys]
    show ((x == y) && decide (xs = ys)) = decide (x :: xs = y :: ys)
    by_cases h : x = y
    · subst h
      by_cases h2 : xs = ys
      · subst h2
        rw [decide_eq_true rfl, decide_eq_true rfl, beq_self_eq_true]
        rfl
      · rw [decide_eq_false h2, decide_eq_false (fun z => h2 (List.cons.inj z).2), Bool.and_false]
    · rw [beq_eq_false_iff_ne.mpr h, decide_eq_false (fun z => h (List.cons.inj z).1), Bool.false_and]
theorem lay_ints : ∀ xs : List Int, PyData.canLayAll0 (xs.map PyData.int) = true
  | [] => rfl
  | x :: xs => by
    show (PyData.canLay0 (.int x) && PyData.canLayAll0 (xs.map PyData.int)) = true
    rw [lay_ints xs]
    rfl
theorem dep_ints : ∀ xs : List Int, PyData.depthAll (xs.map PyData.int) ≤ 1
  | [] => Nat.zero_le _
  | x :: xs => by
    show max (PyData.depth (.int x)) (PyData.depthAll (xs.map PyData.int)) ≤ 1
    have h1 : PyData.depth (.int x) ≤ 1 := by
      unfold PyData.depth
      omega
    have := dep_ints xs
    omega
theorem shp_tup (xs : List Int) : SeqAt.shaped (.tuple (xs.map PyData.int)) = true := by
  unfold SeqAt.shaped
  rw [Bool.and_eq_true]
  refine ⟨?_, decide_eq_true ?_⟩
  · unfold PyData.canLay0
    exact lay_ints xs
  · unfold PyData.depth
    have := dep_ints xs
    omega
theorem shp_lst (xs : List Int) : SeqAt.shaped (.list (xs.map PyData.int)) = true := by
  unfold SeqAt.shaped
  rw [Bool.and_eq_true]
  refine ⟨?_, decide_eq_true ?_⟩
  · unfold PyData.canLay0
    exact lay_ints xs
  · unfold PyData.depth
    have := dep_ints xs
    omega
section
variable {K : PySem.W.Frag} {H : Hp} {Q : VK}
theorem dp_ints : ∀ xs : List Int, DpAll K H (xs.map V.int) (xs.map PyData.int)
  | [] => .nil
  | x :: xs => .cons (.int x) (dp_ints xs)
theorem r_eqD {x y : V} {d e : PyData} (hd : Dp K H x d) (he : Dp K H y e) (sd : SeqAt.shaped d = true) (se : SeqAt.shaped e = true) (k : Q (.bl (PyData.eqv d e)) H) : rEqD K x y H Q := ⟨d, e, hd, he, sd, se, k⟩
theorem r_neD {x y : V} {d e : PyData} (hd : Dp K H x d) (he : Dp K H y e) (sd : SeqAt.shaped d = true) (se : SeqAt.shaped e = true) (k : Q (.bl (!PyData.eqv d e)) H) : rNeD K x y H Q := ⟨d, e, hd, he, sd, se, k⟩
theorem eqvT (xs ys : List Int) : PyData.eqv (.tuple (xs.map PyData.int)) (.tuple (ys.map PyData.int)) = decide (xs = ys) := by
  unfold PyData.eqv
  exact eqv_ints xs ys
theorem eqvL (xs ys : List Int) : PyData.eqv (.list (xs.map PyData.int)) (.list (ys.map PyData.int)) = decide (xs = ys) := by
  unfold PyData.eqv
  exact eqv_ints xs ys
/-- two tuples of three whole numbers, two lists of whole numbers -/
theorem r_eqT3 {p q : Addr} {a b c a' b' c' : Int} (h : SqT K H p [.int a, .int b, .int c]) (h' : SqT K H q [.int a', .int b', .int c']) (k : Q (.bl (decide ([a, b, c] = [a', b', c']))) H) : rEqD K (.ref p) (.ref q) H Q :=
  r_eqD (.tup h (dp_ints [a, b, c])) (.tup h' (dp_ints [a', b', c'])) (shp_tup _) (shp_tup _) (by rw [eqvT]; exact k)
theorem r_neT3 {p q : Addr} {a b c a' b' c' : Int} (h : SqT K H p [.int a, .int b, .int c]) (h' : SqT K H q [.int a', .int b', .int c']) (k : Q (.bl (!decide ([a, b, c] = [a', b', c']))) H) : rNeD K (.ref p) (.ref q) H Q :=
  r_neD (.tup h (dp_ints [a, b, c])) (.tup h' (dp_ints [a', b', c'])) (shp_tup _) (shp_tup _) (by rw [eqvT]; exact k)
theorem r_eqL {p q : Addr} {xs ys : List Int} (h : SqL K H p (xs.map V.int)) (h' : SqL K H q (ys.map V.int)) (k : Q (.bl (decide (xs = ys))) H) : rEqD K (.ref p) (.ref q) H Q :=
  r_eqD (.lst h (dp_ints xs)) (.lst h' (dp_ints ys)) (shp_lst _) (shp_lst _) (by rw [eqvL]; exact k)
theorem r_neL {p q : Addr} {xs ys : List Int} (h : SqL K H p (xs.map V.int)) (h' : SqL K H q (ys.map V.int)) (k : Q (.bl (!decide (xs = ys))) H) : rNeD K (.ref p) (.ref q) H Q :=
  r_neD (.lst h (dp_ints xs)) (.lst h' (dp_ints ys)) (shp_lst _) (shp_lst _) (by rw [eqvL]; exact k)
end
theorem at_2 {x y : V} {i : Int} (h0 : 0 ≤ i) (h1 : i < 2) : ∃ v, atI [x, y] i = some v ∧ (v = x ∨ v = y) := by
  obtain rfl | rfl : i = 0 ∨ i = 1 := by omega
  · exact ⟨_, rfl, .inl rfl⟩
  · exact ⟨_, rfl, .inr rfl⟩
/-- what a test gives without a change of what is tracked -/
def PureT (tt : TT) (σ : L2.St) (H : Hp) (b : Bool) : Prop := ∀ H1, Ex H H1 → ∀ Q : Bool → Hp → Prop, (∀ H2, Ex H1 H2 → Q b H2) → tt σ H1 Q
section
variable {K : PySem.W.Frag} {σ : L2.St} {H : Hp} {Q : VK} {te : TE} {tt : TT}
/-- [e for j in a range if t], t and e pure -/
theorem lc_rngF {lo : Int} {n j : Nat} {vs : List Nat} (c : Nat → Bool) (f : Nat → V) (hn : n ≤ 100000) (hw : ∀ x, wipe ((wipe σ vs).set j (some x)) vs = wipe σ vs)
    (ht : ∀ i : Nat, i < n → PureT tt ((wipe σ vs).set j (some (.int (lo + i)))) H (c i))
    (he : ∀ i : Nat, i < n → c i = true → PureE te ((wipe σ vs).set j (some (.int (lo + i)))) H (f i)) (k : ∀ p H1, H p = none → Ex H H1 → H1 p = some (.lst (((List.range n).filter c).map f)) → Q (.ref p) H1) : LcB (Itr lo n) (gName j) tt te vs σ H Q := fun Dl hD => by
  refine lc_range (fun i H' => Ex H H' ∧ H' Dl = some (.lst (((List.range i).filter c).map f))) ⟨Ex.new hD, upd_same⟩ (fun i H' hi p => ?_) (fun H' p => k Dl H' hD p.1 p.2)
  refine ⟨hw _, ht i hi H' p.1 _ fun H2 e2 => ?_⟩
  cases hc : c i with
  | true =>
    rw [if_pos rfl]
    refine he i hi hc H2 (p.1.trans e2) _ fun H3 e3 => ⟨_, e3 _ _ (e2 _ _ p.2), ?_, ?_⟩
    · have l1 := List.length_filter_le c (List.range i)
      rw [List.length_range] at l1
      rw [List.length_map]
      exact len_lt (by omega)
    · refine ⟨fun a o ha => ?_, ?_⟩
      · rw [upd_ne (ne_of_none ha hD)]
        exact e3 _ _ (e2 _ _ (p.1 _ _ ha))
      · rw [upd_same, List.range_succ, List.filter_append, List.map_append]
        simp [hc]
  | false =>
    rw [if_neg Bool.false_ne_true]
    refine ⟨p.1.trans e2, ?_⟩
    rw [List.range_succ, List.filter_append, List.map_append]
    simp [hc, e2 _ _ p.2]
end
/-- a drawn stair -/
structure StB (a b m : Int) : Prop where
  m0 : 0 < m
  m1 : m ≤ 1000000000000000000000000000000000000000000000000000000000000
  za : Sz 620 a
  zb : Sz 620 b
theorem StB.zm {a b m : Int} (S : StB a b m) : Sz 200 m := by
  have := S.m0
  have := S.m1
  show m.natAbs < 2 ^ 200
  omega

section
variable {K : PySem.W.Frag} {σ : L2.St} {H : Hp} {Q : VK} {i : Int}
theorem r_sortI {a : Addr} {ns : List Int} (h : SqL K H a (ns.map V.int)) (k : ∀ (ns' : List Int) p H1, ns'.Perm ns → ns'.Pairwise (· ≤ ·) → H p = none → Ex H H1 → H1 p = some (.lst (ns'.map V.int)) → Q (.ref p) H1) : rSortedI K [.ref a] H Q :=
  ⟨a, ns, rfl, h, fun ns' p h1 h2 hp => k ns' p _ h1 h2 hp (Ex.new hp) upd_same⟩
theorem r_gLst {p : Addr} {xs : List V} {n : Nat} {g : TGs} {QS : L2.St → Hp → Prop} (h : SqL K H p xs) (l : xs.length = n) (k : g xs σ H QS) : gLst K n g (.ref p) σ H QS := ⟨p, xs, rfl, h, l, k⟩
end
theorem sort_2 {ns : List Int} {x y : Int} (h : ns.Perm [x, y]) (s : ns.Pairwise (· ≤ ·)) : ns = [min x y, max x y] := by
  have hl := h.length_eq
  match ns, hl with
  | [u, v], _ =>
    have m1 := h.mem_iff (a := u)
    have m2 := h.mem_iff (a := v)
    have m3 := h.mem_iff (a := x)
    have m4 := h.mem_iff (a := y)
    have huv : u ≤ v := by
      have := List.pairwise_cons.mp s
      exact this.1 v (by simp)
    simp at m1 m2 m3 m4
    have e1 : u = min x y := by omega
    have e2 : v = max x y := by omega
    rw [← e1, ← e2]
theorem sort_3 {ns : List Int} {x y z lo hi : Int} (h : ns.Perm [x, y, z]) (s : ns.Pairwise (· ≤ ·)) (h1 : lo ≤ x ∧ x ≤ hi) (h2 : lo ≤ y ∧ y ≤ hi) (h3 : lo ≤ z ∧ z ≤ hi) : ∃ u v w, ns = [u, v, w] ∧ lo ≤ u ∧ u ≤ v ∧ v ≤ w ∧ w ≤ hi := by
  have hl := h.length_eq
  match ns, hl with
  | [u, v, w], _ =>
    have m1 := h.mem_iff (a := u)
    have m3 := h.mem_iff (a := w)
    have p := List.pairwise_cons.mp s
    have huv : u ≤ v := p.1 v (by simp)
    have hvw : v ≤ w := (List.pairwise_cons.mp p.2).1 w (by simp)
    simp at m1 m3
    exact ⟨u, v, w, rfl, by omega, huv, hvw, by omega⟩
/-! none, True, membership -/
def rIsNn : R2 := fun x y H Q => y = .non ∧ Q (.bl (decide (x = .non))) H
def rNotNn : R2 := fun x y H Q => y = .non ∧ Q (.bl (!decide (x = .non))) H
theorem op_isNn {X : Cx} : OpR X (compareOp .Is) rIsNn := op_isN
theorem op_notNn {X : Cx} : OpR X (compareOp .IsNot) rNotNn := op_notN
section
variable {K : PySem.W.Frag} {H : Hp} {Q : VK} {x : V}
theorem r_isNnI {i : Int} (k : Q (.bl false) H) : rIsNn (.int i) .non H Q := ⟨rfl, k⟩
theorem r_isNnN (k : Q (.bl true) H) : rIsNn .non .non H Q := ⟨rfl, k⟩
theorem r_isNnR {a : Addr} (k : Q (.bl false) H) : rIsNn (.ref a) .non H Q := ⟨rfl, k⟩
theorem r_notNnI {i : Int} (k : Q (.bl true) H) : rNotNn (.int i) .non H Q := ⟨rfl, k⟩
theorem r_notNnN (k : Q (.bl false) H) : rNotNn .non .non H Q := ⟨rfl, k⟩
theorem r_notNnR {a : Addr} (k : Q (.bl true) H) : rNotNn (.ref a) .non H Q := ⟨rfl, k⟩
theorem all_flatI : ∀ ns : List Int, (ns.map V.int).all flatV = true
  | [] => rfl
  | n :: ns => by
    show (true && (ns.map V.int).all flatV) = true
    rw [all_flatI ns]
    rfl
theorem inV_ints (i : Int) : ∀ ns : List Int, inV (.int i) (ns.map V.int) = decide (i ∈ ns)
  | [] => rfl
  | n :: ns => by
    show (eqV (.int n) (.int i) || inV (.int i) (ns.map V.int)) = _
    rw [inV_ints i ns]
    show ((decide (n = i)) || _) = _
    by_cases h : n = i
    · subst h
      rw [decide_eq_true rfl, decide_eq_true (List.mem_cons_self ..)]
      rfl
    · rw [decide_eq_false h, Bool.false_or]
      by_cases h2 : i ∈ ns
      · rw [decide_eq_true h2, decide_eq_true (List.mem_cons_of_mem _ h2)]
      · rw [decide_eq_false h2, decide_eq_false]
        intro z
        rcases List.mem_cons.mp z with z | z
        · exact h z.symm
        · exact h2 z
theorem r_inI {i : Int} {ns : List Int} {p : Addr} (h : SqL K H p (ns.map V.int)) (k : Q (.bl (decide (i ∈ ns))) H) : rIn K false (.int i) (.ref p) H Q :=
  ⟨p, _, rfl, .inl h, rfl, all_flatI ns, by rw [inV_ints]; exact k⟩
end
/-! lists of rows of whole numbers -/
theorem Kp.tupL {H H' : Hp} {d p : Addr} {xs ys : List V} (k : Kp d H H') (D : H d = some (.lst ys)) (h : H p = some (.tup xs)) : H' p = some (.tup xs) :=
  k _ _ (ne_of h D (by intro z; cases z)) h
/-- each value a tuple of whole numbers -/
def RowsA (H : Hp) : List V → List (List Int) → Prop
  | [], [] => True
  | v :: vs, r :: rs => (∃ p, v = .ref p ∧ H p = some (.tup (r.map V.int))) ∧ RowsA H vs rs
  | _, _ => False
theorem RowsA.imp {H H' : Hp} (f : ∀ (p : Addr) (xs : List V), H p = some (.tup xs) → H' p = some (.tup xs)) : ∀ {vs : List V} {rs : List (List Int)}, RowsA H vs rs → RowsA H' vs rs
  | [], [], _ => trivial
  | _ :: _, _ :: _, ⟨⟨p, e, h⟩, r⟩ => ⟨⟨p, e, f _ _ h⟩, RowsA.imp f r⟩
  | [], _ :: _, h => h.elim
  | _ :: _, [], h => h.elim
theorem RowsA.ex {H H' : Hp} {vs : List V} {rs : List (List Int)} (h : RowsA H vs rs) (e : Ex H H') : RowsA H' vs rs := h.imp fun p xs q => e p _ q
theorem RowsA.kp {H H' : Hp} {d : Addr} {vs : List V} {rs : List (List Int)} (h : RowsA H vs rs) (k : Kp d H H') (D : Dr H d) : RowsA H' vs rs := h.imp fun _ _ q => k.tup D q
theorem RowsA.kpL {H H' : Hp} {d : Addr} {ys vs : List V} {rs : List (List Int)} (h : RowsA H vs rs) (k : Kp d H H') (D : H d = some (.lst ys)) : RowsA H' vs rs := h.imp fun _ _ q => k.tupL D q
theorem RowsA.len {H : Hp} : ∀ {vs : List V} {rs : List (List Int)}, RowsA H vs rs → vs.length = rs.length
  | [], [], _ => rfl
  | _ :: _, _ :: _, ⟨_, r⟩ => by
    rw [List.length_cons, List.length_cons, RowsA.len r]
  | [], _ :: _, h => h.elim
  | _ :: _, [], h => h.elim
theorem RowsA.app {H : Hp} {p : Addr} {r : List Int} (hp : H p = some (.tup (r.map V.int))) : ∀ {vs : List V} {rs : List (List Int)}, RowsA H vs rs → RowsA H (vs ++ [.ref p]) (rs ++ [r])
  | [], [], _ => ⟨⟨p, rfl, hp⟩, trivial⟩
  | _ :: _, _ :: _, ⟨h, r⟩ => ⟨h, RowsA.app hp r⟩
  | [], _ :: _, h => h.elim
  | _ :: _, [], h => h.elim
theorem RowsA.get {H : Hp} : ∀ {vs : List V} {rs : List (List Int)} {i : Nat} {v : V}, RowsA H vs rs → vs[i]? = some v → ∃ p r, v = .ref p ∧ rs[i]? = some r ∧ H p = some (.tup (r.map V.int))
  | _ :: _, r :: _, 0, _, ⟨⟨p, e, h⟩, _⟩, g => ⟨p, r, (Option.some.inj g).symm.trans e, rfl, h⟩
  | _ :: _, _ :: _, i + 1, _, ⟨_, h⟩, g => RowsA.get (i := i) h g
  | [], _, _, _, _, g => by simp at g
  | _ :: _, [], _, _, h, _ => h.elim
/-- a list of rows stands at l -/
def RwL (H : Hp) (l : Addr) (rs : List (List Int)) : Prop := ∃ vs, H l = some (.lst vs) ∧ RowsA H vs rs
theorem RwL.ex {H H' : Hp} {l : Addr} {rs : List (List Int)} (h : RwL H l rs) (e : Ex H H') : RwL H' l rs := by
  obtain ⟨vs, h1, h2⟩ := h
  exact ⟨vs, e _ _ h1, h2.ex e⟩
theorem RwL.kp {H H' : Hp} {d l : Addr} {rs : List (List Int)} (h : RwL H l rs) (k : Kp d H H') (D : Dr H d) (n : l ≠ d) : RwL H' l rs := by
  obtain ⟨vs, h1, h2⟩ := h
  exact ⟨vs, k _ _ n h1, h2.kp k D⟩
theorem RwL.app {H H' : Hp} {l p : Addr} {vs : List V} {rs : List (List Int)} {r : List Int} (h0 : H l = some (.lst vs)) (h : RowsA H vs rs) (hp : H p = some (.tup (r.map V.int))) (k : Kp l H H') (h1 : H' l = some (.lst (vs ++ [.ref p]))) : RwL H' l (rs ++ [r]) :=
  ⟨_, h1, RowsA.app (k.tupL h0 hp) (h.kpL k h0)⟩
theorem cutV_whole {xs : List V} {lo hi : Option Int} (w : HT.sIx xs.length 0 lo = 0 ∧ HT.sIx xs.length xs.length hi = xs.length) : cutV xs lo hi = xs := by
  unfold cutV
  rw [w.1, w.2, List.drop_zero, Nat.sub_zero, List.take_length]
theorem mem_cutV {xs : List V} {lo hi : Option Int} {v : V} (h : v ∈ cutV xs lo hi) : v ∈ xs := List.mem_of_mem_drop (List.mem_of_mem_take h)
def rListOf (K : PySem.W.Frag) : List V → Hp → VK → Prop := fun xs H Q => ∃ p ys, xs = [.ref p] ∧ (SqL K H p ys ∨ SqT K H p ys) ∧ ∀ l, H l = none → Q (.ref l) (upd H l (.lst ys))
theorem cl_listOf {X : Cx} : CallR X (.type "list") (rListOf X.K) := call_list_of
section
variable {K : PySem.W.Frag} {σ : L2.St} {H : Hp} {Q : VK} {ta te : TE} {t : TA} {p q l : Addr} {xs ys : List V} {tl th : TO}
theorem r_listL (h : SqL K H p ys) (k : ∀ l H1, H l = none → Ex H H1 → H1 l = some (.lst ys) → Q (.ref l) H1) : rListOf K [.ref p] H Q :=
  ⟨p, ys, rfl, .inl h, fun l n => k l _ n (Ex.new n) upd_same⟩
theorem r_listT (h : SqT K H p ys) (k : ∀ l H1, H l = none → Ex H H1 → H1 l = some (.lst ys) → Q (.ref l) H1) : rListOf K [.ref p] H Q :=
  ⟨p, ys, rfl, .inr h, fun l n => k l _ n (Ex.new n) upd_same⟩
theorem r_bm {T : String} {r : V → List V → Hp → VK → Prop} (k : ta σ H fun x H1 => tyV K T x H1 ∧ t σ H1 fun xs H2 => r x xs H2 Q) : tBM K T r ta t σ H Q := k
theorem r_tyL {R : Prop} (h : SqL K H p xs) (k : R) : tyV K "list" (.ref p) H ∧ R := ⟨.inl ⟨rfl, _, h⟩, k⟩
theorem r_app {y : V} (h : H l = some (.lst xs)) (n : xs.length ≤ 100000) (k : ∀ H1, Kp l H H1 → H1 l = some (.lst (xs ++ [y])) → Q .non H1) : rAppend (.ref l) [y] H Q :=
  ⟨l, xs, y, rfl, rfl, h, len_lt n, k _ Kp.upd upd_same⟩
theorem r_sl {r : V → Option Int → Option Int → Hp → VK → Prop} (k : te σ H fun x H1 => tl σ H1 fun l H2 => th σ H2 fun u H3 => r x l u H3 Q) : tSl r te tl th σ H Q := k
theorem r_noP {R : Option Int → Hp → Prop} (k : R none H) : tNoPart σ H R := k
theorem r_part {R : Option Int → Hp → Prop} (k : te σ H fun x H1 => ∃ i, x = .int i ∧ R (some i) H1) : tPart te σ H R := k
theorem r_partI {i : Int} {R : Int → Prop} (k : R i) : ∃ j, V.int i = .int j ∧ R j := ⟨i, rfl, k⟩
theorem r_slA {lo hi : Option Int} (h : H p = some (.tup xs)) (k : ∀ q H1, Ex H H1 → H1 q = some (.tup (cutV xs lo hi)) → Q (.ref q) H1) : rSlA K (.ref p) lo hi H Q :=
  ⟨p, xs, rfl, SqT.of h, fun w => k p H Ex.refl (by rw [cutV_whole w]; exact h), fun _ q hq => k q _ (Ex.new hq) upd_same⟩
theorem r_sl4 {a b c d e : V} (h : SqT K H p [a, b, c, d, e]) (k : ∀ q H1, H q = none → Ex H H1 → H1 q = some (.tup [a, b, c, d]) → Q (.ref q) H1) : rSlA K (.ref p) none (some 4) H Q :=
  ⟨p, _, rfl, h, fun w => absurd (show (4 : Nat) = 5 from w.2) (by decide), fun _ q hq => k q _ hq (Ex.new hq) upd_same⟩
theorem r_catA (h : H p = some (.tup xs)) (h2 : H q = some (.tup ys)) (n : xs.length + ys.length ≤ sizeLine) (k : ∀ l H1, Ex H H1 → H1 l = some (.tup (xs ++ ys)) → Q (.ref l) H1) : rCatA K (.ref p) (.ref q) H Q :=
  ⟨p, q, xs, ys, rfl, rfl, SqT.of h, SqT.of h2, n, fun e => k q H Ex.refl (by subst e; exact h2), fun _ e => k p H Ex.refl (by subst e; rw [List.append_nil]; exact h), fun _ _ l hl => k l _ (Ex.new hl) upd_same⟩
theorem r_catT {x y : V} {xs ys : List V} (h : SqT K H p (x :: xs)) (h2 : SqT K H q (y :: ys)) (n : (x :: xs).length + (y :: ys).length ≤ sizeLine) (k : ∀ l H1, H l = none → Ex H H1 → H1 l = some (.tup (x :: xs ++ y :: ys)) → Q (.ref l) H1) : rCatA K (.ref p) (.ref q) H Q :=
  ⟨p, q, x :: xs, y :: ys, rfl, rfl, h, h2, n, fun z => absurd z (List.cons_ne_nil _ _), fun _ z => absurd z (List.cons_ne_nil _ _), fun _ _ l hl => k l _ hl (Ex.new hl) upd_same⟩
theorem r_cat13 {x a b c : V} (h : SqT K H p [x]) (h2 : SqT K H q [a, b, c]) (k : ∀ l H1, H l = none → Ex H H1 → H1 l = some (.tup [x, a, b, c]) → Q (.ref l) H1) : rCatA K (.ref p) (.ref q) H Q :=
  r_catT h h2 (show 4 ≤ sizeLine by decide) k
theorem r_cat41 {x a b c y : V} (h : SqT K H p [x, a, b, c]) (h2 : SqT K H q [y]) (k : ∀ l H1, H l = none → Ex H H1 → H1 l = some (.tup [x, a, b, c, y]) → Q (.ref l) H1) : rCatA K (.ref p) (.ref q) H Q :=
  r_catT h h2 (show 5 ≤ sizeLine by decide) k
theorem r_slL {lo hi : Option Int} (h : H p = some (.lst xs)) (k : ∀ q H1, H q = none → Ex H H1 → H1 q = some (.lst (cutV xs lo hi)) → Q (.ref q) H1) : rSlL K (.ref p) lo hi H Q :=
  ⟨p, xs, rfl, SqL.of h, fun q hq => k q _ hq (Ex.new hq) upd_same⟩
theorem r_catL (h : H p = some (.lst xs)) (h2 : H q = some (.lst ys)) (n : xs.length + ys.length ≤ 100000) (k : ∀ l H1, H l = none → Ex H H1 → H1 l = some (.lst (xs ++ ys)) → Q (.ref l) H1) : rCat (.ref p) (.ref q) H Q :=
  ⟨p, q, xs, ys, rfl, rfl, h, h2, Nat.le_of_lt (len_lt n), fun l hl => k l _ hl (Ex.new hl) upd_same⟩
def rRev (K : PySem.W.Frag) (x : V) (H : Hp) (Q : VK) : Prop := ∃ a xs, x = .ref a ∧ SqL K H a xs ∧ ∀ p, H p = none → Q (.ref p) (upd H p (.lst xs.reverse))
theorem r_rev (k : te σ H fun x H1 => rRev K x H1 Q) : tRevL K te σ H Q := k
theorem r_revL (h : H p = some (.lst xs)) (k : ∀ q H1, H q = none → Ex H H1 → H1 q = some (.lst xs.reverse) → Q (.ref q) H1) : rRev K (.ref p) H Q :=
  ⟨p, xs, rfl, SqL.of h, fun q hq => k q _ hq (Ex.new hq) upd_same⟩
theorem ixN_in {n : Nat} {i : Int} (h0 : 0 ≤ i) (h1 : i < n) : ixN n i = some i.toNat := by
  unfold ixN
  rw [if_pos h0, if_pos h1]
theorem r_neT4 {a b c d a' b' c' d' : Int} (h : SqT K H p [.int a, .int b, .int c, .int d]) (h' : SqT K H q [.int a', .int b', .int c', .int d']) (k : Q (.bl (!decide ([a, b, c, d] = [a', b', c', d']))) H) : rNeD K (.ref p) (.ref q) H Q :=
  r_neD (.tup h (dp_ints [a, b, c, d])) (.tup h' (dp_ints [a', b', c', d'])) (shp_tup _) (shp_tup _) (by rw [eqvT]; exact k)
theorem r_notB {a b : Bool} (k : Q (.bl (!decide (a = b))) H) : rNotB (.bl a) (.bl b) H Q := ⟨a, b, rfl, rfl, k⟩
theorem r_isB {a b : Bool} (k : Q (.bl (decide (a = b))) H) : rIsB (.bl a) (.bl b) H Q := ⟨a, b, rfl, rfl, k⟩
end
/-! lists of rows compared -/
def rowD (r : List Int) : PyData := .tuple (r.map PyData.int)
theorem dp_rows {K : PySem.W.Frag} {H : Hp} : ∀ {vs : List V} {rs : List (List Int)}, RowsA H vs rs → DpAll K H vs (rs.map rowD)
  | [], [], _ => .nil
  | _ :: _, r :: _, ⟨⟨p, e, h⟩, g⟩ => by
    subst e
    exact .cons (.tup (SqT.of h) (dp_ints r)) (dp_rows g)
  | [], _ :: _, h => h.elim
  | _ :: _, [], h => h.elim
theorem lay_rows : ∀ rs : List (List Int), PyData.canLayAll0 (rs.map rowD) = true
  | [] => rfl
  | r :: rs => by
    show (PyData.canLay0 (rowD r) && PyData.canLayAll0 (rs.map rowD)) = true
    rw [lay_rows rs]
    show (PyData.canLay0 (.tuple (r.map PyData.int)) && true) = true
    unfold PyData.canLay0
    rw [lay_ints]
    rfl
theorem dep_rows : ∀ rs : List (List Int), PyData.depthAll (rs.map rowD) ≤ 2
  | [] => Nat.zero_le _
  | r :: rs => by
    show max (PyData.depth (rowD r)) (PyData.depthAll (rs.map rowD)) ≤ 2
    have h1 : PyData.depth (rowD r) ≤ 2 := by
      unfold rowD PyData.depth
      have := dep_ints r
      omega
    have := dep_rows rs
    omega
theorem shp_rows (rs : List (List Int)) : SeqAt.shaped (.list (rs.map rowD)) = true := by
  unfold SeqAt.shaped
  rw [Bool.and_eq_true]
  refine ⟨?_, decide_eq_true ?_⟩
  · unfold PyData.canLay0
    exact lay_rows rs
  · unfold PyData.depth
    have := dep_rows rs
    omega
theorem eqv_rows : ∀ xs ys : List (List Int), PyData.eqvAll (xs.map rowD) (ys.map rowD) = decide (xs = ys)
  | [], [] => by rw [decide_eq_true rfl]; rfl
  | [], y :: ys => by rw [decide_eq_false (by intro h; cases h)]; rfl
  | x :: xs, [] => by rw [decide_eq_false (by intro h; cases h)]; rfl
  | x :: xs, y :: ys => by
    show (PyData.eqv (rowD x) (rowD y) && PyData.eqvAll (xs.map rowD) (ys.map rowD)) = _
    rw [eqv_rows xs ys, show PyData.eqv (rowD x) (rowD y) = decide (x = y) from eqvT x y]
    by_cases h : x = y
    · subst h
      by_cases h2 : xs = ys
      · subst h2
        rw [decide_eq_true rfl, decide_eq_true rfl, decide_eq_true rfl]
        rfl
      · rw [decide_eq_false h2, decide_eq_false (fun z => h2 (List.cons.inj z).2), Bool.and_false]
    · rw [decide_eq_false h, decide_eq_false (fun z => h (List.cons.inj z).1), Bool.false_and]
theorem eqvR (xs ys : List (List Int)) : PyData.eqv (.list (xs.map rowD)) (.list (ys.map rowD)) = decide (xs = ys) := by
  unfold PyData.eqv
  exact eqv_rows xs ys
theorem r_neR {K : PySem.W.Frag} {H : Hp} {Q : VK} {p q : Addr} {xs ys : List (List Int)} (h : RwL H p xs) (h' : RwL H q ys) (k : Q (.bl (!decide (xs = ys))) H) : rNeD K (.ref p) (.ref q) H Q := by
  obtain ⟨vs, h1, h2⟩ := h
  obtain ⟨us, g1, g2⟩ := h'
  exact r_neD (.lst (SqL.of h1) (dp_rows h2)) (.lst (SqL.of g1) (dp_rows g2)) (shp_rows _) (shp_rows _) (by rw [eqvR]; exact k)
theorem r_eqR {K : PySem.W.Frag} {H : Hp} {Q : VK} {p q : Addr} {xs ys : List (List Int)} (h : RwL H p xs) (h' : RwL H q ys) (k : Q (.bl (decide (xs = ys))) H) : rEqD K (.ref p) (.ref q) H Q := by
  obtain ⟨vs, h1, h2⟩ := h
  obtain ⟨us, g1, g2⟩ := h'
  exact r_eqD (.lst (SqL.of h1) (dp_rows h2)) (.lst (SqL.of g1) (dp_rows g2)) (shp_rows _) (shp_rows _) (by rw [eqvR]; exact k)
/-- [e for v in a list], e pure, by places -/
theorem lc_lstI {K : PySem.W.Frag} {σ : L2.St} {H : Hp} {Q : VK} {te : TE} {a : Addr} {xs : List V} {j : Nat} {vs : List Nat} (f : Nat → V) (hx : SqL K H a xs) (hn : xs.length ≤ 100000) (hw : ∀ x, wipe ((wipe σ vs).set j (some x)) vs = wipe σ vs)
    (he : ∀ (i : Nat) x, xs[i]? = some x → PureE te ((wipe σ vs).set j (some x)) H (f i)) (k : ∀ p H1, H p = none → Ex H H1 → H1 p = some (.lst ((List.range xs.length).map f)) → Q (.ref p) H1) : LcB (Itl K a) (gName j) tYes te vs σ H Q := fun Dl hD => by
  refine lc_list (xs := xs) (fun i H' => Ex H H' ∧ H' Dl = some (.lst ((List.range i).map f))) ⟨Ex.new hD, upd_same⟩ (fun i H' _ p => sql_up p.1 hx) (fun i x H' hi p => ?_) (fun H' p => k Dl H' hD p.1 p.2)
  refine ⟨hw _, ?_⟩
  refine tYes_k ?_
  rw [if_pos rfl]
  have hl : i < xs.length := (List.getElem?_eq_some_iff.mp hi).1
  refine he i x hi H' p.1 _ fun H2 e2 => ⟨_, e2 _ _ p.2, ?_, ?_⟩
  · rw [List.length_map, List.length_range]
    exact len_lt (by omega)
  · refine ⟨fun a o ha => ?_, ?_⟩
    · rw [upd_ne (ne_of_none ha hD)]
      exact e2 _ _ (p.1 _ _ ha)
    · rw [upd_same, List.range_succ, List.map_append]
      rfl
def RowsZ (rs : List (List Int)) : Prop := ∀ r ∈ rs, ∃ n a b m s : Int, r = [n, a, b, m, s] ∧ 0 < m ∧ Sz 3300 n ∧ Sz 3300 a ∧ Sz 3300 b ∧ Sz 3300 m ∧ Sz 3300 s
theorem RowsZ.at {rs : List (List Int)} {i : Nat} {r : List Int} (h : RowsZ rs) (g : rs[i]? = some r) : ∃ n a b m s : Int, r = [n, a, b, m, s] ∧ 0 < m ∧ Sz 3300 n ∧ Sz 3300 a ∧ Sz 3300 b ∧ Sz 3300 m ∧ Sz 3300 s :=
  h r (List.mem_of_getElem? g)
def RowsY (rs : List (List Int)) : Prop := ∀ r ∈ rs, ∃ n a b m s : Int, r = [n, a, b, m, s] ∧ Sz 6900 n ∧ Sz 6900 a ∧ Sz 6900 b ∧ Sz 6900 m ∧ Sz 6900 s
theorem RowsY.at {rs : List (List Int)} {i : Nat} {r : List Int} (h : RowsY rs) (g : rs[i]? = some r) : ∃ n a b m s : Int, r = [n, a, b, m, s] ∧ Sz 6900 n ∧ Sz 6900 a ∧ Sz 6900 b ∧ Sz 6900 m ∧ Sz 6900 s :=
  h r (List.mem_of_getElem? g)
theorem RowsZ.y {rs : List (List Int)} (h : RowsZ rs) : RowsY rs := fun r hr => by
  obtain ⟨n, a, b, m, s, e, _, z1, z2, z3, z4, z5⟩ := h r hr
  exact ⟨n, a, b, m, s, e, z1.mono (by decide), z2.mono (by decide), z3.mono (by decide), z4.mono (by decide), z5.mono (by decide)⟩
theorem RowsZ.app {rs : List (List Int)} {n a b m s : Int} (h : RowsZ rs) (hm : 0 < m) (zn : Sz 3300 n) (za : Sz 3300 a) (zb : Sz 3300 b) (zm : Sz 3300 m) (zs : Sz 3300 s) : RowsZ (rs ++ [[n, a, b, m, s]]) := fun r hr => by
  rcases List.mem_append.mp hr with hr | hr
  · exact h r hr
  · rw [List.mem_singleton.mp hr]
    exact ⟨n, a, b, m, s, rfl, hm, zn, za, zb, zm, zs⟩
theorem Dr.lst {H : Hp} {d : Addr} (D : Dr H d) : ∃ xs, H d = some (.lst xs) := by
  obtain ⟨x, y, h, _⟩ := D
  exact ⟨_, h⟩
theorem Dr.kp {H H' : Hp} {d l : Addr} (D : Dr H d) (n : d ≠ l) (k : Kp l H H') : Dr H' d := by
  obtain ⟨x, y, h, r⟩ := D
  exact ⟨x, y, k _ _ n h, r⟩
/-- l fresh, then changed: all but d kept -/
theorem Kp.via {H H1 H2 : Hp} {d l : Addr} (k : Kp d H H1) (n : H l = none) (k2 : Kp l H1 H2) : Kp d H H2 := fun x o hx h => k2 x o (ne_of_none h n) (k x o hx h)
/-! the same within a comprehension -/
section
variable {X : Cx} {K : PySem.W.Frag}
theorem pg_tupK {es : List Expr} {k : Nat} {t : TGs} {n : Nat} {pos : Pos} (hc : X.calm = true) (h : PGs X es t) (hK : X.K = K := by rfl)
    (hn : (assignEach es X.env).length = n := by rfl) (hst : (assignEach es X.env).findIdx? (·.1) = none := by rfl) : PG X (.Tuple es k pos) (gTup K n t) := hK ▸ pg_tup hc h hn hst
theorem ix_listK (h : X.K = K := by rfl) : IxR X (rIxL K) := h ▸ ix_list
theorem ix_tupK (h : X.K = K := by rfl) : IxR X (rIxT K) := h ▸ ix_tup
theorem sl_tupAK (h : X.K = K := by rfl) : SlR X (rSlA K) := h ▸ sl_tupA
theorem sl_listK (h : X.K = K := by rfl) : SlR X (rSlL K) := h ▸ sl_list
theorem op_eqDK (hu : X.A.units + 64 < cLine) (h : X.K = K := by rfl) : OpR X (compareOp .Eq) (rEqD K) := h ▸ op_eqD hu
theorem op_neDK (hu : X.A.units + 64 < cLine) (h : X.K = K := by rfl) : OpR X (compareOp .NotEq) (rNeD K) := h ▸ op_neD hu
theorem op_in_seqK (h : X.K = K := by rfl) : OpR X (compareOp .In) (rIn K false) := h ▸ op_in_seq
theorem op_notIn_seqK (h : X.K = K := by rfl) : OpR X (compareOp .NotIn) (rIn K true) := h ▸ op_notIn_seq
theorem pi_listK {tg l : Expr} {tl : TE} (hl : PE X l tl) (h : X.K = K := by rfl) : PI X tg l (iList K tl) := h ▸ pi_list hl
theorem pi_tupK {tg l : Expr} {tl : TE} (hl : PE X l tl) (h : X.K = K := by rfl) : PI X tg l (iTup K tl) := h ▸ pi_tup hl
theorem cl_lenK (h : X.K = K := by rfl) : CallR X (.builtin "len") (rLen K) := h ▸ cl_len
theorem pe_bmK {o e : Expr} {es : List Expr} {to : TE} {t : TA} {name : Str} {apos cpos : Pos} {T id : String} {r : V → List V → Hp → VK → Prop} (pa : PlainAttrs T) (slot : Slot T name id) (hty : typeOf (.builtin id) = pure (.type "method_descriptor")) (hm : MtR X id r) (ho : PE X o to) (ha : PA X (e :: es) t)
    (h : X.K = K := by rfl)
    (hbase : attributeBase o name X.env (eval o X.env) = eval o X.env := by rfl)
    (hfew : ((backTo cpos (starEach (e :: es) X.env)).all (fun x => !x.1) && (backToKw cpos (keywordEach [] X.env)).all (fun x => x.1.isSome)
      && decide ((e :: es).length + ([] : List Keyword).length + (if ([] : List Keyword).isEmpty then 0 else 1) < 30)) = true := by rfl)
    (hline : (apos.endLine == cpos.line) = true := by rfl) (hs : starEach (e :: es) X.env = (false, eval e X.env) :: starEach es X.env := by rfl) (hplain : (backTo cpos (starEach es X.env)).any (·.1) = false := by rfl) :
    PE X (.Call (.Attribute o name apos) (e :: es) [] cpos) (tBM K T r to t) := h ▸ pe_bm pa slot hty hm ho ha hbase hfew hline hs hplain
end
/-- [.. for v in a tuple if t], t never -/
theorem lc_tupN {K : PySem.W.Frag} {σ : L2.St} {H : Hp} {Q : VK} {te : TE} {tt : TT} {a : Addr} {xs : List V} {j : Nat} {vs : List Nat} (hx : SqT K H a xs) (hw : ∀ x, wipe ((wipe σ vs).set j (some x)) vs = wipe σ vs)
    (ht : ∀ (i : Nat) x, xs[i]? = some x → PureT tt ((wipe σ vs).set j (some x)) H false) (k : ∀ p H1, H p = none → Ex H H1 → H1 p = some (.lst []) → Q (.ref p) H1) : LcB (Itt K a) (gName j) tt te vs σ H Q := fun Dl hD => by
  refine lc_tup (xs := xs) (fun i H' => Ex H H' ∧ H' Dl = some (.lst [])) ⟨Ex.new hD, upd_same⟩ (fun i H' _ p => sqt_up p.1 hx) (fun i x H' hi p => ?_) (fun H' p => k Dl H' hD p.1 p.2)
  refine ⟨hw _, ht i x hi H' p.1 _ fun H2 e2 => ?_⟩
  rw [if_neg Bool.false_ne_true]
  exact ⟨p.1.trans e2, e2 _ _ p.2⟩
theorem sz_n {n : Int} (h0 : 0 ≤ n) (h1 : n < 1000000000000000000000000000000) : Sz 110 n := by
  show n.natAbs < 2 ^ 110
  omega
/-- values that are rows of five numbers -/
def RY (k : Nat) (H : Hp) (vs : List V) : Prop := ∀ v ∈ vs, ∃ (p : Addr) (n a b m s : Int), v = .ref p ∧ H p = some (.tup [.int n, .int a, .int b, .int m, .int s]) ∧ Sz k n ∧ Sz k a ∧ Sz k b ∧ Sz k m ∧ Sz k s
theorem RY.imp {k : Nat} {H H' : Hp} {vs : List V} (h : RY k H vs) (f : ∀ (p : Addr) (xs : List V), H p = some (.tup xs) → H' p = some (.tup xs)) : RY k H' vs := fun v hv => by
  obtain ⟨p, n, a, b, m, s, e, hp, z⟩ := h v hv
  exact ⟨p, n, a, b, m, s, e, f _ _ hp, z⟩
theorem RY.ex {k : Nat} {H H' : Hp} {vs : List V} (h : RY k H vs) (e : Ex H H') : RY k H' vs := h.imp fun p _ q => e p _ q
theorem RY.kp {k : Nat} {H H' : Hp} {d : Addr} {vs : List V} (h : RY k H vs) (kp : Kp d H H') (D : Dr H d) : RY k H' vs := h.imp fun _ _ q => kp.tup D q
theorem RY.kpL {k : Nat} {H H' : Hp} {d : Addr} {vs ys : List V} (h : RY k H vs) (kp : Kp d H H') (D : H d = some (.lst ys)) : RY k H' vs := h.imp fun _ _ q => kp.tupL D q
theorem RY.sub {k : Nat} {H : Hp} {vs us : List V} (h : RY k H vs) (f : ∀ v ∈ us, v ∈ vs) : RY k H us := fun v hv => h v (f v hv)
theorem RY.app {k : Nat} {H : Hp} {vs us : List V} (h : RY k H vs) (h' : RY k H us) : RY k H (vs ++ us) := fun v hv => (List.mem_append.mp hv).elim (h v) (h' v)
theorem RY.rows {H : Hp} : ∀ {vs : List V}, RY 6900 H vs → ∃ rs, RowsA H vs rs ∧ RowsY rs
  | [], _ => ⟨[], trivial, fun _ h => by cases h⟩
  | v :: vs, h => by
    obtain ⟨rs, h1, h2⟩ := RY.rows (H := H) (vs := vs) fun u hu => h u (List.mem_cons_of_mem _ hu)
    obtain ⟨p, n, a, b, m, s, e, hp, z⟩ := h v (List.mem_cons_self ..)
    refine ⟨[n, a, b, m, s] :: rs, ⟨⟨p, e, hp⟩, h1⟩, fun r hr => ?_⟩
    rcases List.mem_cons.mp hr with hr | hr
    · exact ⟨n, a, b, m, s, hr, z⟩
    · exact h2 r hr
theorem RowsA.ry {H : Hp} : ∀ {vs : List V} {rs : List (List Int)}, RowsA H vs rs → RowsZ rs → RY 3300 H vs
  | [], [], _, _ => fun _ h => by cases h
  | v :: vs, r :: rs, ⟨⟨p, e, hp⟩, h⟩, z => fun u hu => by
    rcases List.mem_cons.mp hu with hu | hu
    · obtain ⟨n, a, b, m, s, er, _, z'⟩ := z r (List.mem_cons_self ..)
      subst er
      exact ⟨p, n, a, b, m, s, hu.trans e, hp, z'⟩
    · exact RowsA.ry h (fun r hr => z r (List.mem_cons_of_mem _ hr)) u hu
  | [], _ :: _, h, _ => h.elim
  | _ :: _, [], h, _ => h.elim
theorem RY.mono {k j : Nat} {H : Hp} {vs : List V} (h : RY k H vs) (l : k ≤ j) : RY j H vs := fun v hv => by
  obtain ⟨p, n, a, b, m, s, e, hp, z1, z2, z3, z4, z5⟩ := h v hv
  exact ⟨p, n, a, b, m, s, e, hp, z1.mono l, z2.mono l, z3.mono l, z4.mono l, z5.mono l⟩
/-- a paper by a value -/
def PpV (H : Hp) (d : Addr) (v : V) : Prop := ∃ (l : Addr) (vs : List V), v = .ref l ∧ l ≠ d ∧ H l = some (.lst vs) ∧ RY 6900 H vs ∧ vs.length ≤ 6000
theorem PpV.ex {H H' : Hp} {d : Addr} {v : V} (h : PpV H d v) (e : Ex H H') : PpV H' d v := by
  obtain ⟨l, vs, e1, n, h1, h2, h3⟩ := h
  exact ⟨l, vs, e1, n, e _ _ h1, h2.ex e, h3⟩
theorem PpV.kp {H H' : Hp} {d : Addr} {v : V} (h : PpV H d v) (k : Kp d H H') (D : Dr H d) : PpV H' d v := by
  obtain ⟨l, vs, e1, n, h1, h2, h3⟩ := h
  exact ⟨l, vs, e1, n, k _ _ n h1, h2.kp k D, h3⟩
theorem PpV.kpL {H H' : Hp} {d q : Addr} {v : V} {ys : List V} (h : PpV H d v) (k : Kp q H H') (D : H q = some (.lst ys)) (n : v ≠ .ref q) : PpV H' d v := by
  obtain ⟨l, vs, e1, nd, h1, h2, h3⟩ := h
  exact ⟨l, vs, e1, nd, k _ _ (fun z => n (by rw [e1, z])) h1, h2.kpL k D, h3⟩
theorem r_sum {K : PySem.W.Frag} {H : Hp} {Q : VK} {p : Addr} {ns : List Int} (h : SqL K H p (ns.map V.int)) (k : Q (.int ns.sum) H) : rSum K [.ref p] H Q := ⟨p, ns, rfl, h, k⟩
theorem r_tyS {K : PySem.W.Frag} {H : Hp} {z : Str} {R : Prop} (k : R) : tyV K "str" (.str z) H ∧ R := ⟨rfl, k⟩
/-- sep.join(a list of texts) -/
def rJoin (K : PySem.W.Frag) : V → List V → Hp → VK → Prop := fun x xs H Q => ∃ a p, ∃ ys : List Str, x = .str a ∧ xs = [.ref p] ∧ (SqL K H p (ys.map V.str) ∨ SqT K H p (ys.map V.str)) ∧ (ys.map (·.length)).sum + ys.length * a.length ≤ 16777216 ∧ Q (.str (Txt.join a ys)) H
theorem mt_joinR {X : Cx} : MtR X "str.join" (rJoin X.K) := mt_join
theorem mt_joinRK {X : Cx} {K : PySem.W.Frag} (h : X.K = K := by rfl) : MtR X "str.join" (rJoin K) := h ▸ mt_joinR
theorem r_join {K : PySem.W.Frag} {H : Hp} {Q : VK} {a : Str} {p : Addr} {ys : List Str} (h : SqL K H p (ys.map V.str)) (n : (ys.map (·.length)).sum + ys.length * a.length ≤ 16777216) (k : Q (.str (Txt.join a ys)) H) : rJoin K (.str a) [.ref p] H Q := ⟨a, p, ys, rfl, rfl, .inl h, n, k⟩
theorem r_iZip {K : PySem.W.Frag} {ta : TA} {σ : L2.St} {H : Hp} {R : It → Hp → Prop} (k : ta σ H fun vs H1 => ∃ a b xs ys, vs = [.ref a, .ref b] ∧ SqL K H1 a xs ∧ SqL K H1 b ys ∧ R (Itz K a b) H1) : iZip K ta σ H R := k
/-- [e for x, y in zip(two lists of whole numbers)] -/
theorem lc_zipI {K : PySem.W.Frag} {σ : L2.St} {H : Hp} {Q : VK} {te : TE} {a b : Addr} {xs ys : List Int} {j1 j2 : Nat} {vs : List Nat} (f : Int → Int → V) (ha : SqL K H a (xs.map V.int)) (hb : SqL K H b (ys.map V.int)) (hn : xs.length ≤ 100000)
    (hw : ∀ x y, wipe (((wipe σ vs).set j1 (some x)).set j2 (some y)) vs = wipe σ vs)
    (he : ∀ (i : Nat) x y, xs[i]? = some x → ys[i]? = some y → PureE te (((wipe σ vs).set j1 (some (.int x))).set j2 (some (.int y))) H (f x y))
    (k : ∀ p H1, H p = none → Ex H H1 → H1 p = some (.lst ((xs.zip ys).map fun q => f q.1 q.2)) → Q (.ref p) H1) : LcB (Itz K a b) (gTup K 2 (gCons (gName j1) (gCons (gName j2) gNil))) tYes te vs σ H Q := fun Dl hD => by
  have lz : (xs.zip ys).length = min xs.length ys.length := List.length_zip
  refine ⟨fun i m H' => m = (xs.zip ys).length - i ∧ i ≤ (xs.zip ys).length ∧ Ex H H' ∧ H' Dl = some (.lst (((xs.zip ys).take i).map fun q => f q.1 q.2)), ⟨_, rfl, Nat.zero_le _, Ex.new hD, by rw [upd_same]; rfl⟩, ?_⟩
  rintro i m H' ⟨rfl, hi, e, hd⟩
  by_cases hx : i = (xs.zip ys).length
  · subst hx
    refine .inl ⟨⟨_, _, sql_up e ha, sql_up e hb, by rw [List.length_map, List.length_map]; omega⟩, ?_⟩
    rw [List.take_length] at hd
    exact k Dl H' hD e hd
  · have h1 : i < xs.length := by omega
    have h2 : i < ys.length := by omega
    have g1 : (xs.map V.int)[i]? = some (.int xs[i]) := by rw [List.getElem?_map, List.getElem?_eq_getElem h1]; rfl
    have g2 : (ys.map V.int)[i]? = some (.int ys[i]) := by rw [List.getElem?_map, List.getElem?_eq_getElem h2]; rfl
    have gz : (xs.zip ys)[i]? = some (xs[i], ys[i]) := by
      rw [List.getElem?_eq_getElem (by omega), List.getElem_zip]
    refine .inr ⟨⟨_, _, _, _, sql_up e ha, sql_up e hb, g1, g2⟩, fun H3 => Ex H H3 ∧ H3 Dl = some (.lst (((xs.zip ys).take (i + 1)).map fun q => f q.1 q.2)), fun H3 p => ⟨(xs.zip ys).length - (i + 1), by omega, rfl, by omega, p⟩, ?_⟩
    rintro x H2 ⟨T, x1, y1, rfl, hT, rfl, q1, q2⟩
    have e1 : x1 = .int xs[i] := Option.some.inj ((q1 _ (sql_up e ha)).symm.trans g1)
    have e2 : y1 = .int ys[i] := Option.some.inj ((q2 _ (sql_up e hb)).symm.trans g2)
    subst e1 e2
    refine ⟨T, _, rfl, SqT.of upd_same, rfl, _, _, rfl, _, _, rfl, rfl, hw _ _, ?_⟩
    have eT : Ex H' (upd H' T (.tup [.int xs[i], .int ys[i]])) := Ex.new hT
    refine tYes_k ?_
    rw [if_pos rfl]
    refine he i xs[i] ys[i] (List.getElem?_eq_getElem h1) (List.getElem?_eq_getElem h2) _ (e.trans eT) _ fun H4 e4 => ⟨_, e4 _ _ (eT _ _ hd), ?_, ?_⟩
    · rw [List.length_map, List.length_take]
      exact len_lt (by omega)
    · refine ⟨fun a o ho => ?_, ?_⟩
      · rw [upd_ne (ne_of_none ho hD)]
        exact e4 _ _ (eT _ _ (e _ _ ho))
      · rw [upd_same, List.take_add_one, gz, List.map_append]
        rfl
theorem cut_1 (xs : List V) (h : 1 ≤ xs.length) : cutV xs (some 1) none = xs.drop 1 := by
  have e1 : HT.sIx xs.length 0 (some 1) = 1 := by
    unfold HT.sIx
    simp
    omega
  have e2 : HT.sIx xs.length xs.length none = xs.length := rfl
  unfold cutV
  rw [e1, e2, List.take_of_length_le (by rw [List.length_drop]; omega)]
/-- [e for x in a list of whole numbers if t] -/
theorem lc_lstFI {K : PySem.W.Frag} {σ : L2.St} {H : Hp} {Q : VK} {te : TE} {tt : TT} {a : Addr} {ns : List Int} {j : Nat} {vs : List Nat} (c : Int → Bool) (f : Int → V) (hx : SqL K H a (ns.map V.int)) (hn : ns.length ≤ 100000) (hw : ∀ x, wipe ((wipe σ vs).set j (some x)) vs = wipe σ vs)
    (ht : ∀ x ∈ ns, PureT tt ((wipe σ vs).set j (some (.int x))) H (c x)) (he : ∀ x ∈ ns, c x = true → PureE te ((wipe σ vs).set j (some (.int x))) H (f x))
    (k : ∀ p H1, H p = none → Ex H H1 → H1 p = some (.lst ((ns.filter c).map f)) → Q (.ref p) H1) : LcB (Itl K a) (gName j) tt te vs σ H Q := fun Dl hD => by
  refine lc_list (xs := ns.map V.int) (fun i H' => Ex H H' ∧ H' Dl = some (.lst (((ns.take i).filter c).map f))) ⟨Ex.new hD, upd_same⟩ (fun i H' _ p => sql_up p.1 hx) (fun i x H' hi p => ?_) (fun H' p => k Dl H' hD p.1 (by rw [p.2, List.length_map, List.take_length]))
  rw [List.getElem?_map] at hi
  obtain ⟨z, hz, rfl⟩ := Option.map_eq_some_iff.mp hi
  have mem := List.mem_of_getElem? hz
  have tk : ns.take (i + 1) = ns.take i ++ [z] := by rw [List.take_add_one, hz]; rfl
  refine ⟨hw _, ht z mem H' p.1 _ fun H2 e2 => ?_⟩
  cases hc : c z with
  | true =>
    rw [if_pos rfl]
    refine he z mem hc H2 (p.1.trans e2) _ fun H3 e3 => ⟨_, e3 _ _ (e2 _ _ p.2), ?_, ?_⟩
    · rw [List.length_map]
      have := List.length_filter_le c (ns.take i)
      rw [List.length_take] at this
      exact len_lt (by omega)
    · refine ⟨fun b o hb => ?_, ?_⟩
      · rw [upd_ne (ne_of_none hb hD)]
        exact e3 _ _ (e2 _ _ (p.1 _ _ hb))
      · rw [upd_same, tk, List.filter_append, List.map_append]
        simp [hc]
  | false =>
    rw [if_neg Bool.false_ne_true]
    refine ⟨p.1.trans e2, ?_⟩
    rw [tk, List.filter_append, List.map_append]
    simp [hc, e2 _ _ p.2]
/-! ### a def that calls itself: one frame a turn -/
structure RmD (j : Nat) (A : Around) : Prop where
  hd : A.handled = none
  dp : A.depth + j + 20 < recursionLimit
  un : A.units + 3 * j + 300 < cLine
theorem RmD.room {j : Nat} {A : Around} (r : RmD j A) : Room 5 A := ⟨r.hd, by have := r.dp; omega, by have := r.un; omega⟩
theorem RmD.deeper {j : Nat} {A : Around} (r : RmD (j + 1) A) (env : Env) : RmD j (A.deeper env) :=
  ⟨r.hd, by have := r.dp; show A.depth + 1 + j + 20 < _; omega, by have := r.un; show A.units + 3 + 3 * j + 300 < _; omega⟩
theorem RmD.of {k j : Nat} {A : Around} (r : Room k A) (h : j + 40 ≤ 3 * k) : RmD j A := ⟨r.hd, by have := r.dp; omega, by have := r.un; omega⟩
/-- the def named x keeps the promise sp where there is room for j turns -/
def HasD (P : Program) (w : World) (K : PySem.W.Frag) (mg : Str → Option Value) (base : Heap) (j : Nat) (x : Str) (ps : List Str) (sp : Sp) : Prop :=
  ∃ f fd, mg x = some (.ref f) ∧ PySem.W.keepIn K (.ref f) = true ∧ Binds K fd ps [] ∧ (∀ vs H Q E, sp vs H Q E → vs.length = ps.length) ∧
    ∀ (A : Around) (outer : List Env) (s : Shared) (H : Hp) (args : Args) (us : List Value) (vs : List V) (Q : VK) (E : XK), RmD j A → Env0 P w K mg base A outer s H → BindsTo s fd args (ps.zip us) → Vals vs us → sp vs H Q E →
      codeAny (model P w) A (.call (.ref f) args) (CR CX0 outer P w H s Q E) s
section
variable {P : Program} {w : World} {K : PySem.W.Frag} {mg : Str → Option Value} {base : Heap}
theorem DefAt.okD {x : Str} {st : Stmt} {N ps : List Str} {j : Nat} {sp : Sp} (D : DefAt K mg x st ps) (S : FnScope N ps (defScope st)) (len : ∀ vs H Q E, sp vs H Q E → vs.length = ps.length)
    (hbody : ∀ (f : Addr) (cdv : Value) (A : Around) (outer : List Env) (s : Shared) (H : Hp) (vs : List V) (Q : VK) (E : XK), RmD j (A.deeper (envOfC x (defScope st) s.heap.objs.size f cdv)) → sp vs H Q E →
      ∃ t, PSs (cxOf CX0 P w K mg base N x (defScope st) f cdv A outer s H E).nox (defBody st) t ∧ t { nx := fun _ H' => Q .non H', rt := Q } (start N vs) H) : HasD P w K mg base (j + 1) x ps sp := by
  obtain ⟨f, fd, F, m, b⟩ := D
  refine ⟨f, fd, m, F.kp, b, len, fun A outer s H args us vs Q E rm e0 hb rv hs => ?_⟩
  obtain ⟨_, _, _, _, _, _, cdv, _, _, rfl, lk, cd⟩ := F.ex
  have grown : ∀ (a : Addr) (o : Obj), base.get? a = some o → s.heap.get? a = some o := fun a o h => (e0.bs a o h).1
  have locals : ∀ y ∈ ps.zip us, (defScope st).names.lookup y.1 = some .local ∨ ((defScope st).names.lookup y.1 = some .cell ∧ ((cellsFrom (s.heap.objs.size + 1) (defScope st).names []).lookup y.1).isSome = true) := by
    rintro ⟨y, u⟩ hy
    exact (S.par y (List.of_mem_zip hy).1).imp id fun c => ⟨c, PySem.W.cellsFrom_some _ _ _ (.inl c)⟩
  refine codeAny_call_function (by have := rm.dp; omega) (e0.mod.kin.keeps grown _ _ lk) rfl S.co S.gen rfl (PySem.W.codeRec_of (e0.mod.kin.keeps grown) cd) (hb _ _ _ _ ?_)
  refine wpAny_newFunctionEnv_cells S.kind locals ?_
  rintro env rfl s1 ic
  refine ⟨(e0.mod.nolimit.keeps grown).keeps ic.toInCall.keep, codeAny_func ?_⟩
  obtain ⟨t, ht, hq⟩ := hbody f cdv A outer s H vs Q E (rm.deeper _) hs
  refine wpAny_mono (ht.nox.run [] s1 (start N vs) H _ (inv_start S rm.hd e0 (len _ _ _ _ hs) rv ic) hq) (fun fl s' h => ?_) fun _ _ h => h
  cases fl with
  | ret u =>
    obtain ⟨v, _, H', J, r, q⟩ := h
    exact ⟨v, H', J.os, J.bare, J.base, J.hok, r, q⟩
  | next =>
    obtain ⟨_, H', J, q⟩ := h
    exact ⟨.non, H', J.os, J.bare, J.base, J.hok, rfl, q⟩
  | brk =>
    obtain ⟨_, _, _, q⟩ := h
    exact q.elim
  | cont =>
    obtain ⟨_, _, _, q⟩ := h
    exact q.elim
/-- nothing is promised of what never is -/
theorem DefAt.none {x : Str} {st : Stmt} {ps : List Str} {j : Nat} {sp : Sp} (D : DefAt K mg x st ps) (no : ∀ vs H Q E, ¬ sp vs H Q E) : HasD P w K mg base j x ps sp := by
  obtain ⟨f, fd, F, m, b⟩ := D
  exact ⟨f, fd, m, F.kp, b, fun _ _ _ _ h => (no _ _ _ _ h).elim, fun _ _ _ _ _ _ _ _ _ _ _ _ _ h => (no _ _ _ _ h).elim⟩
theorem HasD.has {x : Str} {ps : List Str} {j k : Nat} {sp : Sp} (G : HasD P w K mg base j x ps sp) (h : j + 40 ≤ 3 * k) : Has P w K mg base CX0 k x ps sp := by
  obtain ⟨f, fd, m, kp, b, len, r⟩ := G
  exact ⟨f, fd, m, kp, b, len, fun A outer s H args us vs Q E hr => r A outer s H args us vs Q E (.of hr h)⟩
end
section
variable {X : Cx} {x : Str} {p pos : Pos} {e : Expr} {es : List Expr} {t : TA} {j : Nat} {ps : List Str} {sp : Sp}
/-- f(e, ..), f itself -/
theorem pcallD (G : HasD X.prog X.w X.K X.mg X.base j x ps sp) (rm : RmD j X.A) (ha : PA X (e :: es) t) (hg : Gl X x := by rfl)
    (hdb : (x == ("__debug__" : Str)) = false := by decide) (he : starEach (e :: es) X.env = (false, eval e X.env) :: starEach es X.env := by rfl) (hpl : (backTo pos (starEach es X.env)).any (·.1) = false := by rfl) :
    PE X (.Call (.Name x p) (e :: es) [] pos) (tCal sp E0 t) := by
  obtain ⟨f, fd, m, kp, b, len, run⟩ := G
  refine ⟨fun pins s σ H Q I h => wpAny_Call_Name_kw (ld_glob I hg m ?_ hdb)⟩
  have h' : t σ H fun vs H1 => sp vs H1 Q E0 := h
  refine PySem.W.callWith_K (h₀ := X.base) I.ok.mod.kin kp (thn (ha.run pos pins s σ H _ I h') fun us s1 ⟨vs, H1, I1, rv, q⟩ => ⟨I1.kIn, ?_⟩) he hpl
  have hu : us.length = ps.length := by rw [← rv.length]; exact len _ _ _ _ q
  have hb := b s1 us I1.kIn (by rw [List.append_nil]; exact hu)
  rw [List.append_nil] at hb
  refine wpAny_call (codeAny_mono (run X.A X.stack s1 H1 ⟨us, []⟩ us vs Q E0 rm I1.env0 hb rv q) fun r s2 hr => ?_)
  match r, hr with
  | .error err, hr => exact pass0 pins σ H1 s1 err s2 I1 hr
  | .ok (.ret u), hr => exact I1.after hr
  | .ok .next, hr => exact hr.elim
  | .ok .brk, hr => exact hr.elim
  | .ok .cont, hr => exact hr.elim
end
/-- a tuple of the module -/
def TupC (K : PySem.W.Frag) (mg : Str → Option Value) (x : Str) (a : Addr) (xs : List V) : Prop := mg x = some (.ref a) ∧ ∀ H, SqT K H a xs
theorem sqt_k {K : PySem.W.Frag} {H : Hp} {a : Addr} {xs : List V} {od : Option Addr} {it : Array Value} {n : Nat} {sl : Array (Option Value)} (L : K.lookup a = some ⟨.type "tuple", od, .seq it n, sl⟩) (v : Vals xs it.toList) (z : it.size ≤ sizeLine) : SqT K H a xs := .inr ⟨_, it, n, L, rfl, rfl, z, v⟩
def rTupOf (K : PySem.W.Frag) : List V → Hp → VK → Prop := fun xs H Q => ∃ p ys, xs = [.ref p] ∧ ((SqL K H p ys ∧ ∀ l, H l = none → Q (.ref l) (upd H l (.tup ys))) ∨ (SqT K H p ys ∧ Q (.ref p) H))
theorem cl_tupOf {X : Cx} : CallR X (.type "tuple") (rTupOf X.K) := call_tuple_of
theorem cl_tupOfK {X : Cx} {K : PySem.W.Frag} (h : X.K = K := by rfl) : CallR X (.type "tuple") (rTupOf K) := h ▸ cl_tupOf
theorem r_tupL {K : PySem.W.Frag} {H : Hp} {Q : VK} {p : Addr} {ys : List V} (h : SqL K H p ys) (k : ∀ l H1, H l = none → Ex H H1 → H1 l = some (.tup ys) → Q (.ref l) H1) : rTupOf K [.ref p] H Q :=
  ⟨p, ys, rfl, .inl ⟨h, fun l n => k l _ n (Ex.new n) upd_same⟩⟩
def ZipAs (K : PySem.W.Frag) (R : It → Hp → Prop) (vs : List V) (H1 : Hp) : Prop := ∃ a b xs ys, vs = [.ref a, .ref b] ∧ ((SqL K H1 a xs ∧ SqL K H1 b ys ∧ R (Itz K a b) H1) ∨ (SqT K H1 a xs ∧ SqT K H1 b ys ∧ R (RZ.ItzT K a b) H1))
theorem r_zipT {K : PySem.W.Frag} {H : Hp} {R : It → Hp → Prop} {a b : Addr} {xs ys : List V} (ha : SqT K H a xs) (hb : SqT K H b ys) (k : R (RZ.ItzT K a b) H) : ZipAs K R [.ref a, .ref b] H := ⟨a, b, xs, ys, rfl, .inr ⟨ha, hb, k⟩⟩
theorem r_iZipA {K : PySem.W.Frag} {ta : TA} {σ : L2.St} {H : Hp} {R : It → Hp → Prop} (k : ta σ H fun vs H1 => ZipAs K R vs H1) : RZ.iZipA K ta σ H R := k
/-- [e for x, y in zip(two tuples of whole numbers)] -/
theorem lc_zipT {K : PySem.W.Frag} {σ : L2.St} {H : Hp} {Q : VK} {te : TE} {a b : Addr} {xs ys : List Int} {j1 j2 : Nat} {vs : List Nat} (f : Int → Int → V) (ha : SqT K H a (xs.map V.int)) (hb : SqT K H b (ys.map V.int)) (hn : xs.length ≤ 100000)
    (hw : ∀ x y, wipe (((wipe σ vs).set j1 (some x)).set j2 (some y)) vs = wipe σ vs)
    (he : ∀ (i : Nat) x y, xs[i]? = some x → ys[i]? = some y → PureE te (((wipe σ vs).set j1 (some (.int x))).set j2 (some (.int y))) H (f x y))
    (k : ∀ p H1, H p = none → Ex H H1 → H1 p = some (.lst ((xs.zip ys).map fun q => f q.1 q.2)) → Q (.ref p) H1) : LcB (RZ.ItzT K a b) (gTup K 2 (gCons (gName j1) (gCons (gName j2) gNil))) tYes te vs σ H Q := fun Dl hD => by
  have lz : (xs.zip ys).length = min xs.length ys.length := List.length_zip
  refine ⟨fun i m H' => m = (xs.zip ys).length - i ∧ i ≤ (xs.zip ys).length ∧ Ex H H' ∧ H' Dl = some (.lst (((xs.zip ys).take i).map fun q => f q.1 q.2)), ⟨_, rfl, Nat.zero_le _, Ex.new hD, by rw [upd_same]; rfl⟩, ?_⟩
  rintro i m H' ⟨rfl, hi, e, hd⟩
  by_cases hx : i = (xs.zip ys).length
  · subst hx
    refine .inl ⟨⟨_, _, sqt_up e ha, sqt_up e hb, by rw [List.length_map, List.length_map]; omega⟩, ?_⟩
    rw [List.take_length] at hd
    exact k Dl H' hD e hd
  · have h1 : i < xs.length := by omega
    have h2 : i < ys.length := by omega
    have g1 : (xs.map V.int)[i]? = some (.int xs[i]) := by rw [List.getElem?_map, List.getElem?_eq_getElem h1]; rfl
    have g2 : (ys.map V.int)[i]? = some (.int ys[i]) := by rw [List.getElem?_map, List.getElem?_eq_getElem h2]; rfl
    have gz : (xs.zip ys)[i]? = some (xs[i], ys[i]) := by
      rw [List.getElem?_eq_getElem (by omega), List.getElem_zip]
    refine .inr ⟨⟨_, _, _, _, sqt_up e ha, sqt_up e hb, g1, g2⟩, fun H3 => Ex H H3 ∧ H3 Dl = some (.lst (((xs.zip ys).take (i + 1)).map fun q => f q.1 q.2)), fun H3 p => ⟨(xs.zip ys).length - (i + 1), by omega, rfl, by omega, p⟩, ?_⟩
    rintro x H2 ⟨T, x1, y1, rfl, hT, rfl, q1, q2⟩
    have e1 : x1 = .int xs[i] := Option.some.inj ((q1 _ (sqt_up e ha)).symm.trans g1)
    have e2 : y1 = .int ys[i] := Option.some.inj ((q2 _ (sqt_up e hb)).symm.trans g2)
    subst e1 e2
    refine ⟨T, _, rfl, SqT.of upd_same, rfl, _, _, rfl, _, _, rfl, rfl, hw _ _, ?_⟩
    have eT : Ex H' (upd H' T (.tup [.int xs[i], .int ys[i]])) := Ex.new hT
    refine tYes_k ?_
    rw [if_pos rfl]
    refine he i xs[i] ys[i] (List.getElem?_eq_getElem h1) (List.getElem?_eq_getElem h2) _ (e.trans eT) _ fun H4 e4 => ⟨_, e4 _ _ (eT _ _ hd), ?_, ?_⟩
    · rw [List.length_map, List.length_take]
      exact len_lt (by omega)
    · refine ⟨fun a o ho => ?_, ?_⟩
      · rw [upd_ne (ne_of_none ho hD)]
        exact e4 _ _ (eT _ _ (e _ _ ho))
      · rw [upd_same, List.take_add_one, gz, List.map_append]
        rfl
theorem r_neT2 {K : PySem.W.Frag} {H : Hp} {Q : VK} {p q : Addr} {a b a' b' : Int} (h : H p = some (.tup [.int a, .int b])) (h' : H q = some (.tup [.int a', .int b'])) (k : Q (.bl (!decide ([a, b] = [a', b']))) H) : rNeD K (.ref p) (.ref q) H Q :=
  r_neD (.tup (SqT.of h) (dp_ints [a, b])) (.tup (SqT.of h') (dp_ints [a', b'])) (shp_tup _) (shp_tup _) (by rw [eqvT]; exact k)
theorem r_eqT2 {K : PySem.W.Frag} {H : Hp} {Q : VK} {p q : Addr} {a b a' b' : Int} (h : H p = some (.tup [.int a, .int b])) (h' : H q = some (.tup [.int a', .int b'])) (k : Q (.bl (decide ([a, b] = [a', b']))) H) : rEqD K (.ref p) (.ref q) H Q :=
  r_eqD (.tup (SqT.of h) (dp_ints [a, b])) (.tup (SqT.of h') (dp_ints [a', b'])) (shp_tup _) (shp_tup _) (by rw [eqvT]; exact k)
/-- a comprehension within a comprehension -/
theorem blkN {N : List Str} {q : Str} {sc scope0 scope : Scope} {n f : Addr} {cd : Value} {own : List (Str × Nat)} (h : blkC N (relabel scope0 (envOfC "" sc 0 0 .none)) scope own = true) : BlkOk N (relabel scope0 (envOfC q sc n f cd)) scope own := blkOk_by (sc := relabel scope0 (envOfC "" sc 0 0 .none)) h
/-! ### classes -/
def NAs (K : PySem.W.Frag) (C : Addr) : List Str → Prop
  | [] => True
  | f :: fs => NoAttr K C f ∧ NAs K C fs
/-- the class x of the module, objects of it with the attributes fs -/
structure TxC (K : PySem.W.Frag) (mg : Str → Option Value) (x : Str) (C : Addr) (fs : List Str) : Prop where
  cl : Cls K C
  g : mg x = some (.ref C)
  na : NAs K C fs
def MetAt (K : PySem.W.Frag) (C : Addr) (m q : Str) (st : Stmt) (ps : List Str) : Prop := ∃ f fd, Fun K m q st f fd ∧ Meth K C m f ∧ Binds K fd ps []
def IniAt (K : PySem.W.Frag) (C : Addr) (q : Str) (st : Stmt) (ps : List Str) : Prop := ∃ f fd, Fun K "__init__" q st f fd ∧ Mk K C f ∧ Binds K fd ps []
def HasM (P : Program) (w : World) (K : PySem.W.Frag) (mg : Str → Option Value) (base : Heap) (CX : CXT) (k : Nat) (C : Addr) (m : Str) (ps : List Str) (sp : Sp) : Prop := ∃ f fd, Meth K C m f ∧ Binds K fd ps [] ∧ FnOk P w K mg base CX k f fd ps sp
def HasI (P : Program) (w : World) (K : PySem.W.Frag) (mg : Str → Option Value) (base : Heap) (CX : CXT) (k : Nat) (C : Addr) (ps : List Str) (sp : Sp) : Prop := ∃ f fd, Mk K C f ∧ Binds K fd ps [] ∧ FnOk P w K mg base CX k f fd ps sp
section
variable {P : Program} {w : World} {K : PySem.W.Frag} {mg : Str → Option Value} {base : Heap}
theorem met_mk {C : Addr} {m q : Str} {st : Stmt} {ps : List Str} {f : Addr} {oc : Value} {od an : Option Addr} {osl : Array (Option Value)} {kV doc pm cdv ct : Value}
    (a : PySem.W.findIn K (.ref C) m = some (some (.ref f))) (i : PySem.W.isFn K (.ref f) = true) (l : K.lookup f = some ⟨oc, od, .func (PySem.W.fnOf m q (defArgs st) (defBody st) (defScope st) .none kV doc pm an cdv ct), osl⟩)
    (c : PySem.W.codeIn K cdv q = true) (k : PySem.W.keepIn K (.ref f) = true)
    (b : ∀ (kV doc pm : Value) (an : Option Addr) (cdv ct : Value) (us : List Value), us.length = ps.length → bindArgs (PySem.W.fnOf m q (defArgs st) (defBody st) (defScope st) .none kV doc pm an cdv ct) ⟨us, []⟩ = pure (ps.zip us)) : MetAt K C m q st ps :=
  ⟨f, _, fun_mk l c k, ⟨a, i, k⟩, (fun_mk l c k).binds b⟩
theorem ini_mk {C : Addr} {q : Str} {st : Stmt} {ps : List Str} {f : Addr} {oc : Value} {od an : Option Addr} {osl : Array (Option Value)} {kV doc pm cdv ct : Value} (mk : PySem.W.makesIn K C = true) (kc : PySem.W.keepIn K (.ref C) = true)
    (a : PySem.W.findIn K (.ref C) "__init__" = some (some (.ref f))) (i : PySem.W.isFn K (.ref f) = true) (l : K.lookup f = some ⟨oc, od, .func (PySem.W.fnOf "__init__" q (defArgs st) (defBody st) (defScope st) .none kV doc pm an cdv ct), osl⟩)
    (c : PySem.W.codeIn K cdv q = true) (k : PySem.W.keepIn K (.ref f) = true)
    (b : ∀ (kV doc pm : Value) (an : Option Addr) (cdv ct : Value) (us : List Value), us.length = ps.length → bindArgs (PySem.W.fnOf "__init__" q (defArgs st) (defBody st) (defScope st) .none kV doc pm an cdv ct) ⟨us, []⟩ = pure (ps.zip us)) : IniAt K C q st ps :=
  ⟨f, _, fun_mk l c k, ⟨mk, a, i, kc⟩, (fun_mk l c k).binds b⟩
theorem MetAt.ok {C : Addr} {m q : Str} {st : Stmt} {N ps : List Str} {k : Nat} {sp : Sp} (D : MetAt K C m q st ps) (S : FnScope N ps (defScope st)) (len : ∀ vs H Q E, sp vs H Q E → vs.length = ps.length)
    (hbody : ∀ (f : Addr) (cdv : Value) (A : Around) (outer : List Env) (s : Shared) (H : Hp) (vs : List V) (Q : VK) (E : XK), Room k (A.deeper (envOfC q (defScope st) s.heap.objs.size f cdv)) → sp vs H Q E →
      ∃ t, PSs (cxOf CX0 P w K mg base N q (defScope st) f cdv A outer s H E).nox (defBody st) t ∧ t { nx := fun _ H' => Q .non H', rt := Q } (start N vs) H) : HasM P w K mg base CX0 (k + 1) C m ps sp := by
  obtain ⟨f, fd, F, m, b⟩ := D
  exact ⟨f, fd, m, b, F.ok S len fun cdv A outer s H vs Q E hr h => hbody f cdv A outer s H vs Q E hr h⟩
theorem IniAt.ok {C : Addr} {q : Str} {st : Stmt} {N ps : List Str} {k : Nat} {sp : Sp} (D : IniAt K C q st ps) (S : FnScope N ps (defScope st)) (len : ∀ vs H Q E, sp vs H Q E → vs.length = ps.length)
    (hbody : ∀ (f : Addr) (cdv : Value) (A : Around) (outer : List Env) (s : Shared) (H : Hp) (vs : List V) (Q : VK) (E : XK), Room k (A.deeper (envOfC q (defScope st) s.heap.objs.size f cdv)) → sp vs H Q E →
      ∃ t, PSs (cxOf CX0 P w K mg base N q (defScope st) f cdv A outer s H E).nox (defBody st) t ∧ t { nx := fun _ H' => Q .non H', rt := Q } (start N vs) H) : HasI P w K mg base CX0 (k + 1) C ps sp := by
  obtain ⟨f, fd, F, m, b⟩ := D
  exact ⟨f, fd, m, b, F.ok S len fun cdv A outer s H vs Q E hr h => hbody f cdv A outer s H vs Q E hr h⟩
end
/-- x is an object of the class at C without an attribute m -/
def MObj (C : Addr) (m : Str) (x : V) (H : Hp) (R : Prop) : Prop := ∃ a dx fs, x = .ref a ∧ H a = some (.ins C dx fs) ∧ fs.lookup m = none ∧ R
def tMC (C : Addr) (m : Str) (sp : Sp) (E : XK) (ta : TE) (t : TA) : TE := fun σ H Q => ta σ H fun x H1 => MObj C m x H1 (t σ H1 fun vs H2 => sp (x :: vs) H2 Q E)
/-- a new object of the class at C -/
def NewO (C : Addr) (R : Addr → Hp → Prop) (H : Hp) : Prop := ∀ x dx, H x = none → H dx = none → dx ≠ x → R x (upd (upd H dx (.own x)) x (.ins C dx []))
def tMkC (C : Addr) (sp : Sp) (E : XK) (t : TA) : TE := fun σ H Q => t σ H fun vs H1 => NewO C (fun x H2 => sp (.ref x :: vs) H2 (fun v H3 => v = .non ∧ Q (.ref x) H3) E) H1
theorem tMC_of {K : PySem.W.Frag} {C : Addr} {m : Str} {sp : Sp} {E : XK} {ta : TE} {t : TA} {σ : L2.St} {H : Hp} {Q : VK} (h : tMC C m sp E ta t σ H Q) : tMeth C m sp [] E ta t σ H Q := by
  have h' : ta σ H fun x H1 => ∃ a dx fs, x = .ref a ∧ H1 a = some (.ins C dx fs) ∧ fs.lookup m = none ∧ t σ H1 fun vs H2 => sp (x :: vs) H2 Q E := h
  show ta σ H fun x H1 => ∃ a dx fs, x = .ref a ∧ H1 a = some (.ins C dx fs) ∧ fs.lookup m = none ∧ t σ H1 fun vs H2 => sp (x :: (vs ++ [])) H2 Q E
  simp only [List.append_nil]
  exact h'
theorem tMkC_of {C : Addr} {sp : Sp} {E : XK} {t : TA} {σ : L2.St} {H : Hp} {Q : VK} (h : tMkC C sp E t σ H Q) : tMake C sp [] E t σ H Q := by
  have h' : t σ H fun vs H1 => ∀ x dx, H1 x = none → H1 dx = none → dx ≠ x → sp (.ref x :: vs) (upd (upd H1 dx (.own x)) x (.ins C dx [])) (fun v H2 => v = .non ∧ Q (.ref x) H2) E := h
  show t σ H fun vs H1 => ∀ x dx, H1 x = none → H1 dx = none → dx ≠ x → sp (.ref x :: (vs ++ [])) (upd (upd H1 dx (.own x)) x (.ins C dx [])) (fun v H2 => v = .non ∧ Q (.ref x) H2) E
  simp only [List.append_nil]
  exact h'
section
variable {X : Cx} {x m : Str} {C : Addr} {p pos apos : Pos} {o e : Expr} {es : List Expr} {ta : TE} {t : TA} {k : Nat} {ps : List Str} {sp : Sp} {pl : Sem Bool}
theorem pmeth (c : Cls X.K C) (G : HasM X.prog X.w X.K X.mg X.base CX0 k C m ps sp) (hr : Room k X.A) (ho : PE X o ta) (ha : PA X (e :: es) t)
    (hst : starEach (e :: es) X.env = (false, eval e X.env) :: starEach es X.env := by rfl) (hpl : (backTo pos (starEach es X.env)).any (·.1) = false := by rfl)
    (ht : eval (.Call (.Attribute o m apos) (e :: es) [] pos) X.env = (do
      let ov ← eval o X.env
      standAt apos.atName
      let (f, first) ← holding [ov] (getMethod ov m pl)
      callWith pos f first (backTo pos (starEach (e :: es) X.env)) (backToKw pos (keywordEach [] X.env))) := by rfl) :
    PE X (.Call (.Attribute o m apos) (e :: es) [] pos) (tMC C m sp E0 ta t) := by
  obtain ⟨f, fd, hm, b, F⟩ := G
  have q := pe_meth (pl := pl) (pos := pos) (apos := apos) ho c hm F hr b (dvs := []) .nil pass0 ha hst hpl ht
  exact ⟨fun pins s σ H Q I h => q.run pins s σ H Q I (tMC_of (K := X.K) h)⟩
theorem pmeth0 (c : Cls X.K C) (G : HasM X.prog X.w X.K X.mg X.base CX0 k C m ps sp) (hr : Room k X.A) (ho : PE X o ta)
    (ht : eval (.Call (.Attribute o m apos) [] [] pos) X.env = (do
      let ov ← eval o X.env
      standAt apos.atName
      let (f, first) ← holding [ov] (getMethod ov m pl)
      callWith pos f first (backTo pos (starEach [] X.env)) (backToKw pos (keywordEach [] X.env))) := by rfl) :
    PE X (.Call (.Attribute o m apos) [] [] pos) (tMC C m sp E0 ta tNil) := by
  obtain ⟨f, fd, hm, b, F⟩ := G
  have q := pe_meth0 (pl := pl) (pos := pos) (apos := apos) ho c hm F hr b (dvs := []) .nil pass0 ht
  exact ⟨fun pins s σ H Q I h => q.run pins s σ H Q I (tMC_of (K := X.K) h)⟩
theorem pmake (hm : X.mg x = some (.ref C)) (G : HasI X.prog X.w X.K X.mg X.base CX0 k C ps sp) (hr : Room (k + 1) X.A) (ha : PA X (e :: es) t) (hg : Gl X x := by rfl)
    (hdb : (x == ("__debug__" : Str)) = false := by decide) (he : starEach (e :: es) X.env = (false, eval e X.env) :: starEach es X.env := by rfl) (hpl : (backTo pos (starEach es X.env)).any (·.1) = false := by rfl) :
    PE X (.Call (.Name x p) (e :: es) [] pos) (tMkC C sp E0 t) := by
  obtain ⟨f, fd, M, b, F⟩ := G
  have q := pe_make (p := p) M F hr hg hm b (dvs := []) .nil pass0 ha hdb he hpl
  exact ⟨fun pins s σ H Q I h => q.run pins s σ H Q I (tMkC_of h)⟩
theorem pmake0 (hm : X.mg x = some (.ref C)) (G : HasI X.prog X.w X.K X.mg X.base CX0 k C ps sp) (hr : Room (k + 1) X.A) (hg : Gl X x := by rfl)
    (hdb : (x == ("__debug__" : Str)) = false := by decide) : PE X (.Call (.Name x p) [] [] pos) (tMkC C sp E0 tNil) := by
  obtain ⟨f, fd, M, b, F⟩ := G
  have q := pe_make0 (p := p) (pos := pos) M F hr hg hm b (dvs := []) .nil pass0 hdb
  exact ⟨fun pins s σ H Q I h => q.run pins s σ H Q I (tMkC_of h)⟩
end
def FldR (K : PySem.W.Frag) (f : Str) (x : V) (H : Hp) (Q : VK) : Prop := ∃ a C dx fs v, x = .ref a ∧ H a = some (.ins C dx fs) ∧ Cls K C ∧ NoAttr K C f ∧ fs.lookup f = some v ∧ Q v H
def FldW (K : PySem.W.Frag) (f : Str) (x y : V) (H : Hp) (R : Hp → Prop) : Prop := ∃ a C dx fs, x = .ref a ∧ H a = some (.ins C dx fs) ∧ Cls K C ∧ NoAttr K C f ∧ fs.length < 1000 ∧ R (upd H a (.ins C dx (putF f y fs)))
def FldA (K : PySem.W.Frag) (f : Str) (x : V) (H : Hp) (R : Addr → Addr → V → Prop) : Prop := ∃ a C dx fs v, x = .ref a ∧ H a = some (.ins C dx fs) ∧ Cls K C ∧ NoAttr K C f ∧ fs.lookup f = some v ∧ R a C v
def FldA2 (f : Str) (a C : Addr) (z : V) (H : Hp) (R : Hp → Prop) : Prop := ∃ dx fs, H a = some (.ins C dx fs) ∧ fs.length < 1000 ∧ R (upd H a (.ins C dx (putF f z fs)))
section
variable {K : PySem.W.Frag} {σ : L2.St} {H : Hp} {Q : VK} {ta tv : TE} {t : TA} {a C dx : Addr} {fs fs' : List (Str × V)} {f m : Str} {v y : V} {D : Ends} {sp : Sp} {E : XK} {R : Hp → Prop}
theorem r_meth (k : ta σ H fun x H1 => MObj C m x H1 (t σ H1 fun vs H2 => sp (x :: vs) H2 Q E)) : tMC C m sp E ta t σ H Q := k
theorem r_mobj {R : Prop} (h : H a = some (.ins C dx fs)) (l : fs.lookup m = none) (k : R) : MObj C m (.ref a) H R := ⟨a, dx, fs, rfl, h, l, k⟩
theorem r_make (k : t σ H fun vs H1 => NewO C (fun x H2 => sp (.ref x :: vs) H2 (fun v H3 => v = .non ∧ Q (.ref x) H3) E) H1) : tMkC C sp E t σ H Q := k
theorem r_newO {R : Addr → Hp → Prop} (k : ∀ x dx H', H x = none → Ex H H' → H' x = some (.ins C dx []) → R x H') : NewO C R H := fun x dx hx hd n => k x dx _ hx ((Ex.new hd).trans (Ex.new (by rw [upd_ne (Ne.symm n)]; exact hx))) upd_same
theorem r_fldE (k : ta σ H fun x H1 => FldR K f x H1 Q) : tFld K ta f σ H Q := k
theorem r_fld (h : H a = some (.ins C dx fs)) (c : Cls K C) (n : NoAttr K C f) (l : fs.lookup f = some v) (k : Q v H) : FldR K f (.ref a) H Q := ⟨a, C, dx, fs, v, rfl, h, c, n, l, k⟩
theorem r_fldS (k : tv σ H fun y H1 => ta σ H1 fun x H2 => FldW K f x y H2 (D.nx σ)) : sFld K ta tv f D σ H := k
theorem r_fldW (h : H a = some (.ins C dx fs)) (c : Cls K C) (n : NoAttr K C f) (l : fs.length < 1000) (e : putF f y fs = fs') (k : ∀ H', Kp a H H' → H' a = some (.ins C dx fs') → R H') : FldW K f (.ref a) y H R :=
  ⟨a, C, dx, fs, rfl, h, c, n, l, k _ Kp.upd (by rw [e]; exact upd_same)⟩
theorem r_fldAug {rd : V → V → Hp → VK → Prop} (k : ta σ H fun x H1 => FldA K f x H1 fun a C v => tv σ H1 fun y H2 => rd v y H2 fun z H3 => FldA2 f a C z H3 (D.nx σ)) : sFldAug K ta tv rd f D σ H := k
theorem r_fldA {R : Addr → Addr → V → Prop} (h : H a = some (.ins C dx fs)) (c : Cls K C) (n : NoAttr K C f) (l : fs.lookup f = some v) (k : R a C v) : FldA K f (.ref a) H R := ⟨a, C, dx, fs, v, rfl, h, c, n, l, k⟩
theorem r_fldA2 (h : H a = some (.ins C dx fs)) (l : fs.length < 1000) (e : putF f y fs = fs') (k : ∀ H', Kp a H H' → H' a = some (.ins C dx fs') → R H') : FldA2 f a C y H R := ⟨dx, fs, h, l, k _ Kp.upd (by rw [e]; exact upd_same)⟩
theorem r_rAdd {i j : Int} (k : Q (.int (i + j)) H) : rAdd (.int i) (.int j) H Q := ⟨i, j, rfl, rfl, k⟩
theorem r_rSub {i j : Int} (k : Q (.int (i - j)) H) : rSub (.int i) (.int j) H Q := ⟨i, j, rfl, rfl, k⟩
end
/-- all but what stands at some addresses is kept -/
def Kq (ds : List Addr) (H H' : Hp) : Prop := ∀ a o, a ∉ ds → H a = some o → H' a = some o
theorem Kq.trans {ds : List Addr} {H H1 H2 : Hp} (a : Kq ds H H1) (b : Kq ds H1 H2) : Kq ds H H2 := fun x o n h => b x o n (a x o n h)
theorem Ex.kq {ds : List Addr} {H H' : Hp} (e : Ex H H') : Kq ds H H' := fun a o _ h => e a o h
theorem Kp.kq {d : Addr} {ds : List Addr} {H H' : Hp} (k : Kp d H H') (h : d ∈ ds) : Kq ds H H' := fun a o n e => k a o (fun z => n (by rw [z]; exact h)) e
theorem Kq.refl {ds : List Addr} {H : Hp} : Kq ds H H := fun _ _ _ h => h
theorem rPop_is {l : Addr} {xs : List V} {y : V} {H : Hp} {Q : VK} (h : H l = some (.lst xs)) (e : xs[xs.length - 1]? = some y) (k : ∀ H', Kp l H H' → H' l = some (.lst xs.dropLast) → Q y H') : rPop (.ref l) [] H Q := ⟨l, xs, y, rfl, rfl, h, e, k _ Kp.upd upd_same⟩
theorem r_bm0 {K : PySem.W.Frag} {σ : L2.St} {H : Hp} {Q : VK} {ta : TE} {T : String} {r : V → List V → Hp → VK → Prop} (k : ta σ H fun x H1 => tyV K T x H1 ∧ r x [] H1 Q) : tBM0 K T r ta σ H Q := k
/-! flat data compared: whole numbers, texts, none -/
inductive Fd where
  | i (x : Int)
  | s (x : Str)
  | n
  deriving DecidableEq
def Fd.v : Fd → V
  | .i x => .int x
  | .s x => .str x
  | .n => .non
def Fd.d : Fd → PyData
  | .i x => .int x
  | .s x => .str x
  | .n => .none
theorem eqv_fd : ∀ x y : Fd, PyData.eqv x.d y.d = decide (x = y)
  | .i x, .i y => by
    show (x == y) = _
    by_cases h : x = y
    · subst h
      rw [beq_self_eq_true, decide_eq_true rfl]
    · rw [beq_eq_false_iff_ne.mpr h, decide_eq_false (fun z => h (Fd.i.inj z))]
  | .s x, .s y => by
    show (x == y) = _
    by_cases h : x = y
    · subst h
      rw [beq_self_eq_true, decide_eq_true rfl]
    · rw [beq_eq_false_iff_ne.mpr h, decide_eq_false (fun z => h (Fd.s.inj z))]
  | .n, .n => rfl
  | .i _, .s _ => rfl
  | .i _, .n => rfl
  | .s _, .i _ => rfl
  | .s _, .n => rfl
  | .n, .i _ => rfl
  | .n, .s _ => rfl
theorem eqv_fds : ∀ xs ys : List Fd, PyData.eqvAll (xs.map Fd.d) (ys.map Fd.d) = decide (xs = ys)
  | [], [] => by rw [decide_eq_true rfl]; rfl
  | [], y :: ys => by rw [decide_eq_false (by intro h; cases h)]; rfl
  | x :: xs, [] => by rw [decide_eq_false (by intro h; cases h)]; rfl
  | x :: xs, y :: ys => by
    show (PyData.eqv x.d y.d && PyData.eqvAll (xs.map Fd.d) (ys.map Fd.d)) = _
    rw [eqv_fds xs ys, eqv_fd x y]
    by_cases h : x = y
    · subst h
      by_cases h2 : xs = ys
      · subst h2
        rw [decide_eq_true rfl, decide_eq_true rfl, decide_eq_true rfl]
        rfl
      · rw [decide_eq_false h2, decide_eq_false (fun z => h2 (List.cons.inj z).2), Bool.and_false]
    · rw [decide_eq_false h, decide_eq_false (fun z => h (List.cons.inj z).1), Bool.false_and]
def Fd.ok : Fd → Bool
  | .s x => PyData.canLay0 (.str x)
  | _ => true
theorem lay_fds : ∀ xs : List Fd, xs.all Fd.ok = true → PyData.canLayAll0 (xs.map Fd.d) = true
  | [], _ => rfl
  | x :: xs, h => by
    rw [List.all_cons, Bool.and_eq_true] at h
    show (PyData.canLay0 x.d && PyData.canLayAll0 (xs.map Fd.d)) = true
    rw [lay_fds xs h.2, Bool.and_true]
    have h1 := h.1
    cases x with
    | i _ => rfl
    | s _ => exact h1
    | n => rfl
theorem dep_fds : ∀ xs : List Fd, PyData.depthAll (xs.map Fd.d) ≤ 1
  | [] => Nat.zero_le _
  | x :: xs => by
    show max (PyData.depth x.d) (PyData.depthAll (xs.map Fd.d)) ≤ 1
    have h1 : PyData.depth x.d ≤ 1 := by
      cases x <;> (unfold Fd.d PyData.depth; omega)
    have := dep_fds xs
    omega
theorem shp_fdT (xs : List Fd) (ok : xs.all Fd.ok = true) : SeqAt.shaped (.tuple (xs.map Fd.d)) = true := by
  unfold SeqAt.shaped
  rw [Bool.and_eq_true]
  refine ⟨?_, decide_eq_true ?_⟩
  · unfold PyData.canLay0
    exact lay_fds xs ok
  · unfold PyData.depth
    have := dep_fds xs
    omega
theorem dp_fds {K : PySem.W.Frag} {H : Hp} : ∀ xs : List Fd, DpAll K H (xs.map Fd.v) (xs.map Fd.d)
  | [] => .nil
  | .i x :: xs => .cons (.int x) (dp_fds xs)
  | .s x :: xs => .cons (.str x) (dp_fds xs)
  | .n :: xs => .cons .non (dp_fds xs)
theorem eqv_fdT (xs ys : List Fd) : PyData.eqv (.tuple (xs.map Fd.d)) (.tuple (ys.map Fd.d)) = decide (xs = ys) := by
  unfold PyData.eqv
  exact eqv_fds xs ys
theorem r_neF {K : PySem.W.Frag} {H : Hp} {Q : VK} {p q : Addr} {xs ys : List Fd} (h : SqT K H p (xs.map Fd.v)) (h' : SqT K H q (ys.map Fd.v)) (ok : xs.all Fd.ok = true) (ok' : ys.all Fd.ok = true) (k : Q (.bl (!decide (xs = ys))) H) : rNeD K (.ref p) (.ref q) H Q :=
  r_neD (.tup h (dp_fds xs)) (.tup h' (dp_fds ys)) (shp_fdT _ ok) (shp_fdT _ ok') (by rw [eqv_fdT]; exact k)
theorem r_eqF {K : PySem.W.Frag} {H : Hp} {Q : VK} {p q : Addr} {xs ys : List Fd} (h : SqT K H p (xs.map Fd.v)) (h' : SqT K H q (ys.map Fd.v)) (ok : xs.all Fd.ok = true) (ok' : ys.all Fd.ok = true) (k : Q (.bl (decide (xs = ys))) H) : rEqD K (.ref p) (.ref q) H Q :=
  r_eqD (.tup h (dp_fds xs)) (.tup h' (dp_fds ys)) (shp_fdT _ ok) (shp_fdT _ ok') (by rw [eqv_fdT]; exact k)
theorem at_lastI (fo : List Int) (k : Int) : atI ((fo ++ [k]).map V.int) (-1) = some (.int k) := by
  have hl : ((fo ++ [k]).map V.int).length = fo.length + 1 := by simp
  unfold atI ixN
  rw [if_neg (by decide), if_pos (by omega), hl]
  show ((fo ++ [k]).map V.int)[((-1 : Int) + ((fo.length + 1 : Nat) : Int)).toNat]? = some (.int k)
  rw [show ((-1 : Int) + ((fo.length + 1 : Nat) : Int)).toNat = fo.length by omega]
  simp
theorem ok_iS {x : Int} {z : Str} (h : PyData.canLay0 (.str z) = true := by decide +kernel) : [Fd.i x, Fd.s z].all Fd.ok = true := by
  show (true && (PyData.canLay0 (.str z) && true)) = true
  rw [h]
  rfl
theorem ok_nS {z : Str} (h : PyData.canLay0 (.str z) = true := by decide +kernel) : [Fd.n, Fd.s z].all Fd.ok = true := by
  show (true && (PyData.canLay0 (.str z) && true)) = true
  rw [h]
  rfl
theorem ok_SS {y z : Str} (h : PyData.canLay0 (.str y) = true := by decide +kernel) (h' : PyData.canLay0 (.str z) = true := by decide +kernel) : [Fd.s y, Fd.s z].all Fd.ok = true := by
  show (PyData.canLay0 (.str y) && (PyData.canLay0 (.str z) && true)) = true
  rw [h, h']
  rfl
theorem rPop_I {l : Addr} {fo : List Int} {k : Int} {H : Hp} {Q : VK} (h : H l = some (.lst ((fo ++ [k]).map V.int))) (q : ∀ H', Kp l H H' → H' l = some (.lst (fo.map V.int)) → Q (.int k) H') : rPop (.ref l) [] H Q :=
  rPop_is h (by simp) fun H' kp h' => q H' kp (by rw [h']; simp)
theorem at_last2 (fo : List Int) (k k' : Int) : atI ((fo ++ [k] ++ [k']).map V.int) (-2) = some (.int k) := by
  have hl : ((fo ++ [k] ++ [k']).map V.int).length = fo.length + 2 := by simp
  unfold atI ixN
  rw [if_neg (by decide), if_pos (by omega), hl]
  show ((fo ++ [k] ++ [k']).map V.int)[((-2 : Int) + ((fo.length + 2 : Nat) : Int)).toNat]? = some (.int k)
  rw [show ((-2 : Int) + ((fo.length + 2 : Nat) : Int)).toNat = fo.length by omega]
  simp
theorem at_0 {v : V} {vs : List V} : atI (v :: vs) 0 = some v := at_of (j := 0) rfl rfl
/-- o.f as a target -/
def gFld (K : PySem.W.Frag) (to : TE) (f : Str) : TG := fun v σ H Q => to σ H fun x H1 => FldW K f x v H1 (Q σ)
theorem pg_fld {X : Cx} {o : Expr} {f : Str} {pos : Pos} {to : TE} (ho : PE X o to) : PG X (.Attribute o f pos) (gFld X.K to f) := by
  refine ⟨fun pins s σ H v u Q I r h => ?_⟩
  rw [PySem.assign_Attribute]
  refine wpAny_bind (wpAny_holding (thn (ho.run pins s σ H _ I h) fun ov s1 ⟨x, H1, I1, r1, q1⟩ => ?_))
  obtain ⟨a, C, dx, fs, ex, ea, c, n, l, q⟩ := q1
  subst ex
  obtain rfl : ov = Value.ref a := r1
  refine wpAny_bind (wpAny_standAt (wpAny_bind (wpAny_holding (setattr_ok I1 ea c n l r fun s2 I2 => ?_))))
  exact wpAny_release ⟨σ, _, I2, q⟩
theorem r_gFld {K : PySem.W.Frag} {σ : L2.St} {H : Hp} {to : TE} {f : Str} {v : V} {Q : L2.St → Hp → Prop} (k : to σ H fun x H1 => FldW K f x v H1 (Q σ)) : gFld K to f v σ H Q := k
end Sd

set_option Elab.async false
set_option linter.all false
set_option maxRecDepth 100000
set_option maxHeartbeats 4000000
/-! exceptions: a list walked beside another one while an exception is handled -/
namespace Sd
open PySem PySem.Spec PyProof.Rows L2 HotX
section
variable {prog : Program} {w : World} {A : Around} {E : Value → Shared → Prop} {s : Shared}
theorem hot_but {x1 it : Addr} {h h' : Heap} (hot : HotAt A x1 h) (e : Heap.ExtBut it h h') (n : x1 ≠ it) : HotAt A x1 h' := by
  obtain ⟨hh, o, vs, h1, d1, c1⟩ := hot
  exact ⟨hh, o, vs, e _ _ n h1, d1, c1⟩
/-- the list's iterator is at its end, an exception is handled -/
theorem next_end_hot {it l x1 : Addr} {i : Nat} {items : Array Value} {Q : Value → Shared → Prop} (hot : HotAt A x1 s.heap) (nx : x1 ≠ it)
    (hit : s.heap.IsListIter it l i) (hl : s.heap.IsList l items) (hx : items[i]? = none)
    (hE : ∀ h' e, Heap.ExtBut it s.heap h' → (∃ o, h'.get? e = some o ∧ o.cls = .type "StopIteration") → E (.ref e) { s with heap := h' }) :
    wpAny (model prog w) A (Builtin.SmallTypes.nextOf (.ref it)) Q E s := by
  have hit' := hit
  obtain ⟨o, ho, hc, hd⟩ := hit'
  have hl' := hl
  obtain ⟨ol, hol, _, nl, hdl⟩ := hl'
  unfold Builtin.SmallTypes.nextOf
  refine wpAny_bind (wpAny_callSpecial?_slot (name := Str.ofString "__next__") hit.typeIs slot_listiter_next (wpAny_call_entry slot_listiter_next hit.typeIs entry_listiter_next ?_ (args_listiter_next _)))
  refine (show wpAny _ _ (field (.ref it) 0 >>= _) _ _ s from wpAny_bind (wpAny_field ho hd (x := .ref l) rfl ?_))
  have nn : ¬ ((Value.ref l == Value.none) = true) := fun z => Bool.false_ne_true z
  show wpAny _ _ (if (Value.ref l == Value.none) = true then _ else _) _ _ s
  rw [if_neg nn]
  refine (show wpAny _ _ (field (.ref it) 1 >>= _) _ _ s from wpAny_bind (wpAny_field ho hd (x := .int i 0) rfl ?_))
  refine (show wpAny _ _ (seqItems? (.ref l) >>= _) _ _ s from wpAny_bind (wpAny_seqItems hol hdl ?_))
  simp only [Int.toNat_natCast, hx]
  refine wpAny_bind (wpAny_rule (wpAny_bind (wpAny_setField ho hd (by simp) ?_)))
  have sb : Heap.ExtBut it s.heap (s.heap.update it (Obj.mapFields fun x => x.setIfInBounds 0 Value.none)) := (Heap.SameBut.update ..).extBut
  have hot1 := hot_but hot sb nx
  refine (show wpAny _ _ (newExc (.type "StopIteration") [] >>= _) _ _ _ from wpAny_bind ?_)
  simp only [newExc, newTuple]
  refine wpAny_bind (wpAny_newObj_type ?_ (by size_fits))
  refine wpAny_bind (m := firstArgMember _ _) (wpAny_of_eq (a := Value.none) (by first | rfl | (simp only [firstArgMember]; rfl)) ?_)
  refine wpAny_newObj_type ?_ (by size_fits)
  obtain ⟨hh, o1, vs1, h1, d1, c1⟩ := hot1
  refine raiseNew_hot (x1 := x1) ⟨hh, o1, vs1, Heap.get?_push_of_some _ (Heap.get?_push_of_some _ h1), d1, c1⟩ (Nat.ne_of_lt (Heap.lt_size (Heap.get?_push_of_some _ h1))) (Heap.get?_push_size _ rfl) rfl (by first | (simp; done) | (simp; omega) | (simp only [Array.size_append]; simp; omega)) ?_
  refine hE _ _ (fun c u nc ec => ?_) ⟨_, Heap.get?_update_self _ (Heap.get?_push_size _ rfl) rfl, rfl⟩
  have e1 := Heap.get?_push_of_some { cls := .type "tuple", data := .seq ([] : List Value).toArray } (sb c u nc ec)
  rw [Heap.get?_update_other _ _ (Nat.ne_of_gt (Heap.lt_size (by first | exact e1 | exact Heap.get?_push_of_some _ (sb c u nc ec))))]
  exact Heap.get?_push_of_some _ (Heap.get?_push_of_some _ (sb c u nc ec))
end
section
variable {prog : Program} {w : World} {A : Around} {E : Value → Shared → Prop} {s : Shared}
/-- the zip of two lists is at its end as the first one is -/
theorem zip_stop_hot {x1 z TI TO i1 i2 l1 l2 : Addr} {k1 : Nat} {xs : Array Value} {Q : Option Value → Shared → Prop} (hot : HotAt A x1 s.heap) (nz : x1 ≠ z) (n1 : x1 ≠ i1) (D : ZipApart z TI TO i1 i2 l1 l2)
    (hz : IsZip s.heap z TI TO .none) (hTI : IsPair s.heap TI (.ref i1) (.ref i2)) (h1 : s.heap.IsListIter i1 l1 k1) (hl1 : s.heap.IsList l1 xs) (hx : xs[k1]? = none)
    (hQ : ∀ h', (∀ c o, c ≠ z → c ≠ i1 → s.heap.get? c = some o → h'.get? c = some o) → Q none { s with heap := h' }) : wpAny (model prog w) A (pyNext (.ref z)) Q E s := by
  have hT : s.TypeIs (.ref z) "zip" := ⟨_, hz, rfl⟩
  have way : wpAny (model prog w) A.in1 (Builtin.«zip.__next__» ⟨[.ref z], []⟩) (fun fin s' => ∃ v, fin = .done (.ret v) ∧ False) (fun e s' => ∃ e', e = .ref e' ∧ (∃ o, s'.heap.get? e' = some o ∧ o.cls = .type "StopIteration") ∧ Q none s') s := by
    refine (show wpAny _ _ (field (.ref z) 2 >>= _) _ _ _ from wpAny_bind (wpAny_field hz rfl (x := .bool false) rfl ?_))
    refine (show wpAny _ _ (field (.ref z) 3 >>= _) _ _ _ from wpAny_bind (wpAny_field hz rfl (x := .ref TI) rfl ?_))
    refine wpAny_bind (wpAny_seqItems hTI rfl ?_)
    refine (show wpAny _ _ (Builtin.SmallTypes.ownedTupleIsFree (.ref z) >>= _) _ _ _ from wpAny_bind ?_)
    unfold Builtin.SmallTypes.ownedTupleIsFree
    refine wpAny_bind (wpAny_field hz rfl (x := .none) rfl (wpAny_pure ?_))
    simp only [if_true]
    refine wpAny_bind (wpAny_rule (wpAny_bind (wpAny_field hz rfl (x := .ref TO) rfl (wpAny_bind (wpAny_setField_rec hz (by simp) fun h2 hz2 hs2 => ?_)))))
    replace hz2 : IsZip h2 z TI TO .ellipsis := hz2
    refine wpAny_bind ?_
    simp only [List.zipIdx_cons, List.zipIdx_nil, List.forIn_cons, List.forIn_nil]
    refine wpAny_bind (wpAny_bind (wpAny_onRaise ?_))
    have hot2 : HotAt A x1 h2 := hot_but hot hs2.extBut nz
    refine (show wpAny _ _ (Builtin.SmallTypes.nextOf (.ref i1) >>= _) _ _ _ from wpAny_bind (next_end_hot (x1 := x1) hot2 n1 (h1.extBut hs2.extBut D.i1z) (hl1.extBut hs2.extBut D.l1z) hx fun h3 e hs3 he => ?_))
    obtain ⟨oe, hoe, hce⟩ := he
    have hz3 : IsZip h3 z TI TO .ellipsis := hs3 _ _ D.i1z.symm hz2
    have hez : e ≠ z := fun q => by
      rw [q, hz3] at hoe
      cases hoe
      simp at hce
    refine wpAny_setField_rec hz3 (by simp) fun h4 _ hs4 => ⟨e, rfl, ⟨oe, hs4.extBut _ _ hez hoe, hce⟩, hQ h4 fun c o c1 c2 q => hs4.extBut _ _ c1 (hs3 _ _ c2 (hs2.extBut _ _ c1 q))⟩
  unfold pyNext
  refine wpAny_bind (wpAny_attempt (wpAny_callSpecial?_slot (name := Str.ofString "__next__") hT F.slot_zip_next (wpAny_call_entry F.slot_zip_next hT F.entry_zip_next (wpAny_mono way (fun f s' q => ?_) fun e s' q => ?_) (F.args_zip_next_1 _))))
  · obtain ⟨_, _, q⟩ := q
    exact q.elim
  · obtain ⟨e', rfl, ⟨o, ho, hc⟩, q⟩ := q
    exact wpAny_bind (wpAny_isInstance (T := "StopIteration") (b := true) ⟨o, ho, hc⟩ isSubtype_stop (wpAny_pure q))
end
theorem hot_at {X : Cx} {pins : List (Addr × Obj)} {σ : L2.St} {H : Hp} {s : Shared} (c : L2H.HotC X) (I : Inv X pins σ H s) : ∃ x1, HotAt X.A x1 s.heap ∧ ∃ p ∈ X.pn ++ pins, p.1 = x1 := by
  obtain ⟨p, ⟨hh, v1, e1, c1⟩, hp⟩ := c
  exact ⟨p.1, ⟨hh, p.2, v1, (I.pin p (List.mem_append_left _ hp)).1, e1, c1⟩, p, List.mem_append_left _ hp, rfl⟩
theorem turn_zipH {P : Program} {w : World} {K : PySem.W.Frag} {elts : List Expr} {kk : Nat} {tpos : Pos} {a b z TI TO i1 i2 : Addr} (D : ZipApart z TI TO i1 i2 a b) :
    L2H.TurnH P w K (.Tuple elts kk tpos) ⟨(Itz K a b).go, (Itz K a b).yld, fun i H => ∃ xs : List V, SqL K H a xs ∧ xs.length ≤ i⟩ [z, TI, TO, i1, i2] z (fun i h => IsZip h z TI TO .none ∧ IsPair h TI (.ref i1) (.ref i2) ∧ (∃ x y, IsPair h TO x y) ∧ h.IsListIter i1 a i ∧ h.IsListIter i2 b i) where
  mem := List.mem_cons_self
  obj := fun i h ⟨hz, hTI, ⟨x, y, hTO⟩, ⟨o1, e1, _, d1⟩, ⟨o2, e2, _, d2⟩⟩ c hc => by
    have e' : c = z ∨ c = TI ∨ c = TO ∨ c = i1 ∨ c = i2 := by simpa using hc
    rcases e' with rfl | rfl | rfl | rfl | rfl
    · exact ⟨_, hz, fun v q => nomatch q⟩
    · exact ⟨_, hTI, fun v q => nomatch q⟩
    · exact ⟨_, hTO, fun v q => nomatch q⟩
    · exact ⟨o1, e1, fun v q => by rw [d1] at q; cases q⟩
    · exact ⟨o2, e2, fun v q => by rw [d2] at q; cases q⟩
  keep := fun i h h' ⟨hz, hTI, ⟨x, y, hTO⟩, h1, h2⟩ k =>
    ⟨k z (by simp) _ hz, k TI (by simp) _ hTI, ⟨x, y, k TO (by simp) _ hTO⟩, h1.at fun o q => k i1 (by simp) o q, h2.at fun o q => k i2 (by simp) o q⟩
  item := by
    intro X hP hw hK hc i pins s σ H E I hf st hg
    subst hP hw hK
    obtain ⟨hz, hTI, ⟨x0, y0, hTO⟩, h1, h2⟩ := st
    obtain ⟨xs, ys, x, y, hqx, hqy, hx, hy⟩ := hg
    obtain ⟨its, rv, p, _⟩ := I.list hqx
    obtain ⟨its2, rv2, p2, _⟩ := I.list hqy
    obtain ⟨u, hu, ru⟩ := rv.get hx
    obtain ⟨u2, hu2, ru2⟩ := rv2.get hy
    refine wpAny_pyNext_zip_item D hz hTI hTO h1 h2 p.isList p2.isList (x := u) (y := u2) (by simpa using hu) (by simpa using hu2) fun h' z' TO' h1' h2' hT hsz hk => ⟨_, rfl, ?_⟩
    refine wpAny_letOwnedTupleGo_zip (s := { s with heap := h' }) z' fun h'' z'' sb => ?_
    have big : ∀ c o, s.heap.get? c = some o → s.heap.objs.size ≠ c := fun c o e => Nat.ne_of_gt (Heap.lt_size e)
    have new : ObjOk X.prog X.w (upd H s.heap.objs.size (.tup [x, y])) h'' s.heap.objs.size (.tup [x, y]) :=
      ⟨by show 2 ≤ sizeLine; decide, [u, u2], .cons ru (.cons ru2 .nil), ⟨_, (sb.2 _ (big _ _ hz)).trans hT, rfl, _, rfl⟩⟩
    have I1 : Inv X pins σ (upd H s.heap.objs.size (.tup [x, y])) { s with heap := h'' } :=
      I.turnedNew (t' := s.toks) (ch := [z, TI, TO, i1, i2]) (fun c o hb q => (sb.2 c (fun q' => hb (by simp [q']))).trans (hk c o (fun q' => hb (by simp [q'])) (fun q' => hb (by simp [q'])) (fun q' => hb (by simp [q'])) (fun q' => hb (by simp [q'])) q)) hf (Nat.le_refl _) new
    refine ⟨.ref s.heap.objs.size, _, I1, rfl, ⟨_, x, y, rfl, I.hok.fresh (Nat.le_refl _), rfl, fun l hl => by rw [I.list_inj hl hqx]; exact hx, fun l hl => by rw [I.list_inj hl hqy]; exact hy⟩,
      ⟨z'', (sb.2 _ D.TIz).trans (hk _ _ D.TIz D.TITO D.TIi1 D.TIi2 hTI), ⟨u, u2, (sb.2 _ D.TOz).trans TO'⟩, h1'.at fun o q => (sb.2 _ D.i1z).trans q, h2'.at fun o q => (sb.2 _ D.i2z).trans q⟩, fun c hcm => ?_⟩
    rw [upd_ne]
    · exact (hf c hcm).1
    · intro q
      have e' : c = z ∨ c = TI ∨ c = TO ∨ c = i1 ∨ c = i2 := by simpa using hcm
      obtain ⟨o1, e1, _⟩ := h1
      obtain ⟨o2, e2, _⟩ := h2
      rcases e' with r | r | r | r | r
      · exact big _ _ hz (q.symm.trans r)
      · exact big _ _ hTI (q.symm.trans r)
      · exact big _ _ hTO (q.symm.trans r)
      · exact big _ _ e1 (q.symm.trans r)
      · exact big _ _ e2 (q.symm.trans r)
  done := by
    intro X hP hw hK hc i pins s σ H E I hf st hg
    subst hP hw hK
    obtain ⟨hz, hTI, _, h1, _⟩ := st
    obtain ⟨xs, hqx, hend⟩ := hg
    obtain ⟨its, rv, p, _⟩ := I.list hqx
    obtain ⟨x1, hot, q, hq, e1⟩ := hot_at hc I
    have ap : ∀ c ∈ [z, TI, TO, i1, i2], x1 ≠ c := fun c hc => by
      rw [← e1]
      exact (hf c hc).2.2.2.2.2 q hq
    exact zip_stop_hot hot (ap z (by simp)) (ap i1 (by simp)) D hz hTI h1 p.isList (by have := rv.length; simp; omega) fun h' hk =>
      ⟨rfl, I.turnedL (t' := s.toks) (ch := [z, TI, TO, i1, i2]) (fun c o hb q => hk c o (fun q' => hb (by simp [q'])) (fun q' => hb (by simp [q'])) q) hf⟩
  self := fun A i s Q E st h => wpAny_pyIter_zip st.1 h
def ItzH (K : PySem.W.Frag) (a b : Addr) : It := ⟨(Itz K a b).go, (Itz K a b).yld, fun i H => ∃ xs : List V, SqL K H a xs ∧ xs.length ≤ i⟩
def iZipH (K : PySem.W.Frag) (ta : TA) : TI := fun σ H R => ta σ H fun vs H1 => ∃ a b xs ys, vs = [.ref a, .ref b] ∧ SqL K H1 a xs ∧ SqL K H1 b ys ∧ R (ItzH K a b) H1
theorem pi_zipH {X : Cx} {e e2 : Expr} {ta : TA} {p pos tpos : Pos} {elts : List Expr} {kk : Nat} (hg : Gl X "zip") (hm : X.mg "zip" = none) (ha : PA X [e, e2] ta)
    (hs : starEach [e, e2] X.env = (false, eval e X.env) :: starEach [e2] X.env := by rfl) (hpl : (backTo pos (starEach [e2] X.env)).any (·.1) = false := by rfl) :
    L2H.PIH X (.Tuple elts kk tpos) (.Call (.Name "zip" p) [e, e2] [] pos) (iZipH X.K ta) := by
  refine ⟨fun pins s σ H R I h => Call_ (ld_blt I hg hm PyProof.Rows.boot_zip (PyProof.Rows.callWith_type1 (thn (ha.run pos pins s σ H _ I h) fun us s1 ⟨vs, H1, I1, r1, q1⟩ => ?_) hs hpl))⟩
  obtain ⟨a, b, xs, ys, rfl, hqx, hqy, q⟩ := q1
  cases r1 with
  | cons r rr =>
    cases rr with
    | cons r' rr =>
      cases rr
      cases r
      cases r'
      obtain ⟨its, rv, p1, _⟩ := I1.list hqx
      obtain ⟨its2, rv2, p2, _⟩ := I1.list hqy
      refine call_zip_2 p1.isList p2.isList fun h' hz hTI hTO h1 h2 hsz hk => wpAny_pyIter_zip hz ?_
      have I2 : Inv X pins σ H1 { s1 with heap := h' } := I1.kept (t' := s1.toks) hk
      refine ⟨s1.heap.objs.size + 4, [s1.heap.objs.size + 4, s1.heap.objs.size + 2, s1.heap.objs.size + 3, s1.heap.objs.size, s1.heap.objs.size + 1], _, _, H1, rfl, I2, turn_zipH (PySem.W.ktu_apart s1.heap.objs.size a b p1.lt p2.lt), ⟨hz, hTI, ⟨_, _, hTO⟩, h1, h2⟩, fun c hcm => ?_, q⟩
      have hle : s1.heap.objs.size ≤ c := by
        have e' : c = s1.heap.objs.size + 4 ∨ c = s1.heap.objs.size + 2 ∨ c = s1.heap.objs.size + 3 ∨ c = s1.heap.objs.size ∨ c = s1.heap.objs.size + 1 := by simpa using hcm
        rcases e' with z | z | z | z | z <;> (rw [z]; first | exact Nat.le_refl _ | exact Nat.le_add_right _ _)
      exact I1.fpOk hle (I1.hok.fresh hle)
/-! a list comprehension while an exception is handled -/
abbrev blkP (X : Cx) (s : Shared) (H : Hp) (scope : Scope) (cenv : Env) (fp : List Addr) : Cx := { X with s_0 := s, H_0 := H, env := cenv, outer := X.stack, ex := fp, fn := fun x => scope.names.lookup x == some .cell, xe := fun _ _ => False }
theorem blkP_inv {X : Cx} {pins : List (Addr × Obj)} {σ σ' : L2.St} {H H' : Hp} {s s' : Shared} {s3 : Shared} {H3 : Hp} {scope : Scope} {ce : Env} {fp : List Addr} (I : Inv X pins σ H s) (J : Inv (X.blk s3 H3 scope ce fp) [] σ' H' s')
    (k : ∀ b o, s.heap.get? b = some o → s'.heap.get? b = some o) (kn : ∀ b o, s.heap.get? b = some o → H b = none → H' b = none) (cl : s.heap.objs.size ≤ ce.locals) : Inv (blkP X s3 H3 scope ce fp) [] σ' H' s' := by
  have ok : (blkP X s3 H3 scope ce fp).Ok := ⟨J.ok.mod, J.ok.kind, J.ok.glob, J.ok.blt, J.ok.above, J.ok.inj, J.ok.has, J.ok.cab, J.ok.hd, J.ok.frames, J.ok.stk, J.ok.exf, J.ok.bs, J.ok.bsz, J.ok.noex, J.ok.exfs, J.ok.funs, J.ok.frf⟩
  refine ⟨ok, J.os, J.bare, J.base, J.loc, J.cell, J.free, J.freeC, fun p hp => ?_, J.hok, J.len⟩
  have hp' : p ∈ X.pn := by
    rw [List.append_nil] at hp
    exact hp
  obtain ⟨e, n, nl, nf, d⟩ := I.pin p (List.mem_append_left _ hp')
  refine ⟨k _ _ e, kn _ _ e n, Nat.ne_of_lt (Nat.lt_of_lt_of_le (Heap.lt_size e) cl), fun z => ?_, d⟩
  exact (List.mem_cons.mp (I.stkSub _ z)).elim nl nf
theorem pe_lcH {X : Cx} {elt tg iter : Expr} {ifs : List Expr} {scope : Scope} {own : List (Str × Nat)} {pos : Pos} {wi : TI} {g : TG} {tt : TT} {te : TE} (hc : L2H.HotC X) (hN : X.N.Nodup) (hi : L2H.PIH X tg iter wi) (ok : BlkOk X.N X.env.scope scope own)
    (hg : ∀ (s : Shared) (H : Hp) (C : Addr) (cl : List (Str × Addr)) (fp : List Addr), PG (blkP X s H scope (compEnvC scope cl C X.env) fp) tg g) (ht : ∀ (s : Shared) (H : Hp) (C : Addr) (cl : List (Str × Addr)) (fp : List Addr), PTs (blkP X s H scope (compEnvC scope cl C X.env) fp) ifs tt)
    (he : ∀ (s : Shared) (H : Hp) (C : Addr) (cl : List (Str × Addr)) (fp : List Addr), PE (blkP X s H scope (compEnvC scope cl C X.env) fp) elt te) (hs : ∀ x, foldedSetIterable iter X.env x = pure x := by intro _; rfl) :
    PE X (.ListComp elt [⟨tg, iter, ifs, 0⟩] scope pos) (tLc wi g tt te (own.map (·.2))) := by
  refine ⟨fun pins s σ H Q I h => ?_⟩
  rw [eval_ListComp]
  have fre : ∀ y ∈ scope.names, y.2 = .free → ∃ c, X.env.cells.lookup y.1 = some c := fun y hy e => (ok.free y hy e).elim (fun k => I.ok.has _ (.inl k)) fun k => I.ok.has _ (.inr k)
  refine wpAny_comprehension_free (use := none) rfl hs (closure_ok fre) ok.kind (fun y hy e => by rw [ok.uniq y hy, e]) (thn (hi.run pins s σ H _ I h) fun xv s1 hx => thn hx fun itv s2 h2 => ?_)
  obtain ⟨it, fp, tn, J, H2, rfl, I2, T, st2, f2, q⟩ := h2
  refine wpAny_newObj_type (newEnv_comp ?_) (by show 0 ≤ sizeLine; decide)
  -- the new list
  generalize hD : s2.heap.objs.size = D
  have hDn : H2 D = none := I2.hok.fresh (Nat.le_of_eq hD)
  obtain ⟨W, ⟨m0, w0⟩, turn⟩ := q D hDn
  generalize hs3 : ({ s2 with heap := s2.heap.push { cls := .type "list", data := .seq ([] : List Value).toArray } } : Shared) = s3
  have h3 : s3.heap = s2.heap.push { cls := .type "list", data := .seq ([] : List Value).toArray } := by rw [← hs3]
  have k3 : ∀ b o, s2.heap.get? b = some o → s3.heap.get? b = some o := fun b o e => by
    rw [h3]
    exact Heap.get?_push_of_some _ e
  have I3 : Inv X pins σ (upd H2 D (.lst [])) s3 := by
    rw [← hs3]
    refine I2.laid (t' := s2.toks) (fun b o e => Heap.get?_push_of_some _ e) (Nat.le_of_eq hD) ⟨Nat.zero_le _, [], 0, .nil, ?_⟩
    rw [← hD]
    exact Heap.get?_push_size _ rfl
  have sz : ∀ b ∈ fp, b < s2.heap.objs.size := fun b hb => by
    obtain ⟨o, e, _⟩ := T.obj _ _ st2 b hb
    exact Heap.lt_size e
  have f3 : ∀ b ∈ fp, FpOk X pins (upd H2 D (.lst [])) b ∧ b < s3.heap.objs.size := fun b hb => by
    refine ⟨⟨?_, (f2 b hb).2⟩, by rw [h3, Heap.size_push]; exact Nat.lt_succ_of_lt (sz b hb)⟩
    rw [upd_ne (by rw [← hD]; exact Nat.ne_of_lt (sz b hb))]
    exact (f2 b hb).1
  have I4' := block_start I3 ok hN f3
  generalize hce : compEnvC scope (cellsFrom (s3.heap.objs.size + 1) scope.names (cloFrom X.env.cells scope.names [])) s3.heap.objs.size X.env = ce at I4'
  have pg : PG (blkP X s3 (upd H2 D (.lst [])) scope ce fp) tg g := hce ▸ hg _ _ _ _ _
  have pt : PTs (blkP X s3 (upd H2 D (.lst [])) scope ce fp) ifs tt := hce ▸ ht _ _ _ _ _
  have pe : PE (blkP X s3 (upd H2 D (.lst [])) scope ce fp) elt te := hce ▸ he _ _ _ _ _
  have cL : ce.locals = s3.heap.objs.size := by rw [← hce]; rfl
  have I4 := blkP_inv I3 I4' (fun b o e => pushCells_keeps _ _ _ _ (Heap.get?_push_of_some _ e)) (fun _ _ _ n => n) (by rw [cL]; exact Nat.le_refl _)
  clear I4'
  show codeAny _ _ (.compStart (.ListComp elt [⟨tg, iter, ifs, 0⟩] scope pos) 0 (.ref it) (.ref D) (compEnvC scope (cellsFrom (s3.heap.objs.size + 1) scope.names (cloFrom X.env.cells scope.names [])) s3.heap.objs.size X.env)) (compPost (model X.prog X.w) X.A X.xe none _ (.ref D) s3.heap.objs.size) { s3 with heap := pushCells (s3.heap.push { cls := .type "dict", data := .dict #[] }) scope.names }
  rw [hce]
  have nfp : ∀ b ∈ fp, (upd H2 D (.lst [])) b = none := fun b hb => (f3 b hb).1.1
  have hcB : L2H.HotC (blkP X s3 (upd H2 D (.lst [])) scope ce fp) := hc
  have pnB : ∀ b ∈ fp, ∀ p ∈ X.pn, p.1 ≠ b := fun b hb p hp => (f3 b hb).1.2.2.2.2.2 p (List.mem_append_left _ hp)
  generalize hH3 : upd H2 D (.lst []) = H3 at *
  generalize hs4 : ({ s3 with heap := pushCells (s3.heap.push { cls := .type "dict", data := .dict #[] }) scope.names } : Shared) = s4 at *
  have st4 : tn 0 s4.heap := T.keep _ _ _ st2 fun b _ o e => by
    rw [← hs4]
    exact pushCells_keeps _ _ _ _ (Heap.get?_push_of_some _ (k3 _ _ e))
  have stat : ∀ {σ' : L2.St} {H' : Hp} {s' : Shared}, Inv (blkP X s3 H3 scope ce fp) [] σ' H' s' → (∀ b ∈ fp, H' b = none) → ∀ b ∈ fp, FpOk (blkP X s3 H3 scope ce fp) [] H' b := fun {σ' H' s'} I' hn b hb =>
    ⟨hn b hb, (I'.ok.exf b hb).1, I'.ok.exfs b hb, .inl hb, fun x c e => (I'.ok.exf b hb).2 x c e, fun p hp => pnB b hb p (by rw [List.append_nil] at hp; exact hp)⟩
  have loop : codeAny (model X.prog X.w) X.A (.compLoop (.ListComp elt [⟨tg, iter, ifs, 0⟩] scope pos) 0 (.ref it) (.ref D) ce) (compPost (model X.prog X.w) X.A X.xe none (EP X pins σ Q) (.ref D) s3.heap.objs.size) s4 := by
    refine compLoop_any (fun n s' => ∃ i H', Inv (blkP X s3 H3 scope ce fp) [] (wipe σ (own.map (·.2))) H' s' ∧ tn i s'.heap ∧ (∀ b ∈ fp, H' b = none) ∧ W i n H') ?_ m0 ⟨0, H3, I4, st4, nfp, w0⟩
    rintro n s5 ⟨i, H5, I5, st5, n5, w5⟩
    rcases turn i n H5 w5 with ⟨stop, qq⟩ | ⟨go, Nx, hNx, step⟩
    · refine thnF (T.done (blkP X s3 H3 scope ce fp) rfl rfl rfl hcB i [] s5 _ H5 (fun _ _ => False) I5 (stat I5 n5) st5 stop) fun r s6 ⟨hr, I6⟩ => ?_
      subst hr
      have I7 : Inv X pins σ H5 s6 := I3.call' (ch := fp) I6.os I6.base I6.hok I6.bare fun b hb => ⟨(f3 b hb).1.2.2.2.1, (f3 b hb).1.2.1, (f3 b hb).1.2.2.2.2.1, (f3 b hb).1.2.2.2.2.2⟩
      have nC : H5 s3.heap.objs.size = none := cL ▸ (I6.free : H5 ce.locals = none)
      obtain ⟨m, hn, _⟩ := I6.loc
      have hn' : s6.heap.Ns s3.heap.objs.size m := cL ▸ (hn : s6.heap.Ns ce.locals m)
      obtain ⟨g0, g1, g2, g3, g4, g5⟩ := I3.fpOk (Nat.le_refl _) nC
      exact ⟨m, hn', fun h'' sb => ⟨.ref D, H5, I7.turned (t' := s6.toks) (fun b o hb e => (sb.2 b hb).trans e) g0 g1 g3 g4 g5, rfl, qq⟩⟩
    · refine thnF (T.item (blkP X s3 H3 scope ce fp) rfl rfl rfl hcB i [] s5 _ H5 (fun _ _ => False) I5 (stat I5 n5) st5 go) fun r s6 ⟨u, hr, h6⟩ => ?_
      subst hr
      refine thnF h6 fun _ s7 ⟨x, H7, I7, r7, y7, st7, n7⟩ => ?_
      have I7' := I7.pinned (stat I7 n7) (T.obj _ _ st7)
      refine thnF (pg.run _ s7 _ H7 x u _ I7' r7 (step x H7 y7)) fun _ s8 ⟨σ8, H8, I8, hw8, q8⟩ => ?_
      refine thnF (pt.run _ s8 σ8 H8 _ I8 q8) fun b s9 ⟨H9, I9, q9⟩ => ?_
      have fin : ∀ {s' : Shared} {H' : Hp}, Inv (blkP X s3 H3 scope ce fp) ([] ++ pinsAt fp s7.heap) σ8 H' s' → Nx H' → ∃ m, m < n ∧ ∃ i H', Inv (blkP X s3 H3 scope ce fp) [] (wipe σ (own.map (·.2))) H' s' ∧ tn i s'.heap ∧ (∀ b ∈ fp, H' b = none) ∧ W i m H' := fun {s' H'} I' nx => by
        obtain ⟨m', hm, w'⟩ := hNx H' nx
        have pin' : ∀ b ∈ fp, ∀ o, s7.heap.get? b = some o → s'.heap.get? b = some o ∧ H' b = none := fun b hb o e =>
          ⟨(I'.pin (b, o) (List.mem_append_right _ (List.mem_append_right _ (mem_pinsAt hb e)))).1, (I'.pin (b, o) (List.mem_append_right _ (List.mem_append_right _ (mem_pinsAt hb e)))).2.1⟩
        refine ⟨m', hm, i + 1, H', (I'.unpinned (pins := [])).weak (by rw [← hw8, wipe_length]) (fun j v e => ?_), T.keep _ _ _ st7 fun b hb o e => (pin' b hb o e).1, fun b hb => ?_, w'⟩
        · rw [← hw8] at e
          exact (wipe_some e).1
        · obtain ⟨o, e, _⟩ := T.obj _ _ st7 b hb
          exact (pin' b hb o e).2
      cases b with
      | false =>
        rw [if_neg Bool.false_ne_true] at q9
        simp only [Bool.false_eq_true, if_false]
        exact fin I9 q9
      | true =>
        rw [if_pos rfl] at q9
        simp only [if_true]
        refine thnF (pe.run _ s9 σ8 H9 _ I9 q9) fun z s10 ⟨yv, H10, I10, r10, acc, hD10, hz10, nx⟩ => ?_
        exact app_ok (X := blkP X s3 H3 scope ce fp) I10 hD10 hz10 r10 fun s11 I11 => fin I11 nx
  exact codeAny_compStart_list loop (T.self X.A 0 _ _ _ st4 loop)
/-! a tuple unpacked while an exception is handled -/
section
variable {prog : Program} {w : World} {A : Around} {E : Value → Shared → Prop} {s : Shared}
theorem tup_end_hot {it t x1 : Addr} {i : Nat} {items : Array Value} {Q : Option Value → Shared → Prop} (hot : HotAt A x1 s.heap) (nx : x1 ≠ it)
    (hit : s.heap.IsTupleIter it t i) (ht : s.heap.IsTuple t items) (hx : items[i]? = none)
    (hQ : ∀ h', Heap.ExtBut it s.heap h' → Q none { s with heap := h' }) : wpAny (model prog w) A (pyNext (.ref it)) Q E s := by
  have hit' := hit
  obtain ⟨o, ho, hc, hd⟩ := hit'
  have ht' := ht
  obtain ⟨ol, hol, _, nl, hdl⟩ := ht'
  unfold pyNext
  refine wpAny_bind (wpAny_attempt (wpAny_callSpecial?_slot (name := Str.ofString "__next__") hit.typeIs F.slot_tuple_iterator_next (wpAny_call_entry F.slot_tuple_iterator_next hit.typeIs F.entry_tuple_iterator_next ?_ (F.args_tuple_iterator_next_1 _))))
  refine (show wpAny _ _ (field (.ref it) 0 >>= _) _ _ s from wpAny_bind (wpAny_field ho hd (x := .ref t) rfl ?_))
  have nn : ¬ ((Value.ref t == Value.none) = true) := fun z => Bool.false_ne_true z
  show wpAny _ _ (if (Value.ref t == Value.none) = true then _ else _) _ _ s
  rw [if_neg nn]
  refine (show wpAny _ _ (field (.ref it) 1 >>= _) _ _ s from wpAny_bind (wpAny_field ho hd (x := .int i 0) rfl ?_))
  refine (show wpAny _ _ (seqItems? (.ref t) >>= _) _ _ s from wpAny_bind (wpAny_seqItems hol hdl ?_))
  simp only [Int.toNat_natCast, hx]
  refine wpAny_bind (wpAny_rule (wpAny_bind (wpAny_setField ho hd (by simp) ?_)))
  have sb : Heap.ExtBut it s.heap (s.heap.update it (Obj.mapFields fun x => x.setIfInBounds 0 Value.none)) := (Heap.SameBut.update ..).extBut
  have hot1 := hot_but hot sb nx
  refine (show wpAny _ _ (newExc (.type "StopIteration") [] >>= _) _ _ _ from wpAny_bind ?_)
  simp only [newExc, newTuple]
  refine wpAny_bind (wpAny_newObj_type ?_ (by size_fits))
  refine wpAny_bind (m := firstArgMember _ _) (wpAny_of_eq (a := Value.none) (by first | rfl | (simp only [firstArgMember]; rfl)) ?_)
  refine wpAny_newObj_type ?_ (by size_fits)
  obtain ⟨hh, o1, vs1, h1, d1, c1⟩ := hot1
  refine raiseNew_hot (x1 := x1) ⟨hh, o1, vs1, Heap.get?_push_of_some _ (Heap.get?_push_of_some _ h1), d1, c1⟩ (Nat.ne_of_lt (Heap.lt_size (Heap.get?_push_of_some _ h1))) (Heap.get?_push_size _ rfl) rfl (by first | (simp; done) | (simp; omega) | (simp only [Array.size_append]; simp; omega)) ?_
  refine wpAny_bind (wpAny_isInstance (T := "StopIteration") (b := true) ⟨_, Heap.get?_update_self _ (Heap.get?_push_size _ rfl) rfl, rfl⟩ isSubtype_stop (wpAny_pure (hQ _ fun c u nc ec => ?_)))
  rw [Heap.get?_update_other _ _ (Nat.ne_of_gt (Heap.lt_size (Heap.get?_push_of_some _ (sb c u nc ec))))]
  exact Heap.get?_push_of_some _ (Heap.get?_push_of_some _ (sb c u nc ec))
theorem unpack_hot {env : Env} {elts : List Expr} {k : Nat} {pos : Pos} {t x1 : Addr} {items : Array Value} {Q : Unit → Shared → Prop} (hot : HotAt A x1 s.heap) (ht : s.heap.IsTuple t items)
    (hn : (assignEach elts env).length = items.size) (hstar : (assignEach elts env).findIdx? (·.1) = none)
    (h : ∀ h', Heap.ExtBut s.heap.objs.size s.heap h' → wpAny (model prog w) A (assignInOrder ((assignEach elts env).map (·.2)) items.toList) Q E { s with heap := h' }) :
    wpAny (model prog w) A (assign (.Tuple elts k pos) env (.ref t)) Q E s := by
  have hlt : t ≠ s.heap.objs.size := by
    obtain ⟨o, ho, _⟩ := ht
    exact Nat.ne_of_lt (Heap.lt_size ho)
  have x1lt : x1 ≠ s.heap.objs.size := by
    obtain ⟨_, o1, vs1, h1, _⟩ := hot
    exact Nat.ne_of_lt (Heap.lt_size h1)
  rw [PyProof.Rows.assign_Tuple]
  refine wpAny_bind (wpAny_standAt ?_)
  unfold unpack
  rw [hn, hstar]
  refine wpAny_bind (wpAny_holding ?_)
  unfold unpackItems notIterableAtAll
  refine wpAny_bind (wpAny_bind (wpAny_specialOf ht.typeIs F.slot_tuple_iter.lookup (wpAny_pure ?_)))
  simp only [Bool.false_eq_true, if_false]
  refine wpAny_bind (wpAny_holding (wpAny_pyIter_tuple ht ?_))
  refine wpAny_bind (wpAny_holding (wpAny_draw_tuple hlt items.size 0 _ _ ⟨_, Heap.get?_push_size _ rfl, rfl, rfl⟩ (ht.push _) (by omega) fun h1 hit1 hs1 => ?_))
  rw [List.drop_zero, List.take_of_length_le (by simp), if_neg (by simp)]
  have ht1 : h1.IsTuple t items := (ht.push _).extBut hs1.extBut hlt
  have hot1 : HotAt A x1 h1 := by
    obtain ⟨hh, o, vs, e, d, c⟩ := hot
    exact ⟨hh, o, vs, hs1.extBut _ _ x1lt (Heap.get?_push_of_some _ e), d, c⟩
  refine wpAny_bind (wpAny_holding (tup_end_hot (x1 := x1) hot1 x1lt hit1 ht1 (by simp) fun h2 he2 => ?_))
  simp only [Option.isSome_none, Bool.false_eq_true, if_false]
  exact wpAny_pure (h h2 fun b o hb e => he2 b o hb (hs1.extBut b o hb (Heap.get?_push_of_some _ e)))
end
theorem pg_tupH {X : Cx} {es : List Expr} {k : Nat} {t : TGs} {n : Nat} {pos : Pos} (hc : L2H.HotC X) (h : PGs X es t)
    (hn : (assignEach es X.env).length = n := by rfl) (hst : (assignEach es X.env).findIdx? (·.1) = none := by rfl) : PG X (.Tuple es k pos) (gTup X.K n t) := by
  refine ⟨fun pins s σ H v u Q I r hw => ?_⟩
  obtain ⟨a, xs, rfl, hq, hl, hw⟩ := hw
  cases r
  obtain ⟨its, rv, ht, hz⟩ := I.tuple hq
  obtain ⟨x1, hot⟩ := hc.at I
  have ht' : s.heap.IsTuple a its.toArray := by
    obtain ⟨o, e, c, m, d⟩ := ht
    exact ⟨o, e, c, m, d⟩
  refine unpack_hot (x1 := x1) hot ht' (by simp [hn, ← hl, rv.length]) hst fun h' hx => ?_
  have I1 : Inv X pins σ H { s with heap := h' } := I.kept (t' := s.toks) fun b o e => hx b o (Nat.ne_of_lt (Heap.lt_size e)) e
  exact h.run pins _ σ H xs _ Q I1 (by simpa using rv) hw
/-! the exception that is handled, handed to a def -/
/-- isinstance(e, c), e the exception that is handled -/
theorem call_isH {X : Cx} {p : Addr × Obj} {D : Addr} (hp : p ∈ X.pn) (C : ExcC X.K D) (hz : Zc (.ref D) none p.2) (hf : ∃ vs, p.2.data = .fields vs) : CallR X (.builtin "isinstance") (rIsE X.K D p.1) := by
  intro pins s σ H xs us Q I r h
  obtain ⟨c, cv, b, rfl, hcv, e, q⟩ := h
  cases r with
  | cons rx rr =>
    cases rr with
    | cons rt rr =>
      cases rr
      cases rx
      have ec := hcv _ rt
      subst ec
      have hget := (I.pin p (List.mem_append_left _ hp)).1
      obtain ⟨vs, hv⟩ := hf
      have J : PySem.W.InstAt s.heap p.1 p.2 D none := ⟨hget, hz.1, by unfold PySem.W.notCls; rw [hv] <;> rfl, by rw [hz.2]; trivial⟩
      exact PySem.W.kia_one (PySem.W.handS_kitx_exc C.hg C.hk C.hs C.hd C.ha C.hn C.ht C.hm) I.kIn J e (fun z => nomatch z) fun tk => ⟨.bl b, H, I.kept (t' := tk) fun _ _ z => z, rfl, q⟩
/-! ### defs that raise -/
/-- either reading of one expression -/
def tEi (t u : TE) : TE := fun σ H Q => t σ H Q ∨ u σ H Q
theorem pe_ei {X : Cx} {e : Expr} {t u : TE} (h1 : PE X e t) (h2 : PE X e u) : PE X e (tEi t u) := ⟨fun pins s σ H Q I h => h.elim (h1.run pins s σ H Q I) (h2.run pins s σ H Q I)⟩
theorem r_eiL {t u : TE} {σ : L2.St} {H : Hp} {Q : VK} (k : t σ H Q) : tEi t u σ H Q := .inl k
theorem r_eiR {t u : TE} {σ : L2.St} {H : Hp} {Q : VK} (k : u σ H Q) : tEi t u σ H Q := .inr k
section
variable {P : Program} {w : World} {K : PySem.W.Frag} {mg : Str → Option Value} {base : Heap}
theorem DefAt.okR {x : Str} {st : Stmt} {N ps : List Str} {k : Nat} {sp : Sp} (D : DefAt K mg x st ps) (S : FnScope N ps (defScope st)) (len : ∀ vs H Q E, sp vs H Q E → vs.length = ps.length)
    (hbody : ∀ (f : Addr) (cdv : Value) (A : Around) (outer : List Env) (s : Shared) (H : Hp) (vs : List V) (Q : VK) (E : XK), Room k (A.deeper (envOfC x (defScope st) s.heap.objs.size f cdv)) → sp vs H Q E →
      ∃ t, PSs (cxOf (L2N.CX P w) P w K mg base N x (defScope st) f cdv A outer s H E) (defBody st) t ∧ t { nx := fun _ H' => Q .non H', rt := Q } (start N vs) H) : Has P w K mg base (L2N.CX P w) (k + 1) x ps sp := by
  obtain ⟨f, fd, F, m, b⟩ := D
  obtain ⟨oc, od, kV, doc, pm, an, cdv, ct, osl, rfl, lk, hcd⟩ := F.ex
  exact ⟨f, _, m, F.kp, b, fn_of lk hcd S len fun A outer s H vs Q E hr h => hbody f cdv A outer s H vs Q E hr h⟩
end
section
variable {X : Cx} {x : Str} {p pos : Pos} {e : Expr} {es : List Expr} {t : TA} {k : Nat} {ps : List Str} {sp : Sp} {W : WX}
/-- f(e, ..), what is raised is wished for -/
theorem pcallR (G : Has X.prog X.w X.K X.mg X.base (L2N.CX X.prog X.w) k x ps sp) (hr : Room k X.A) (tk : L2N.Takes X W) (ha : PA X (e :: es) t) (hg : Gl X x := by rfl)
    (hdb : (x == ("__debug__" : Str)) = false := by decide) (he : starEach (e :: es) X.env = (false, eval e X.env) :: starEach es X.env := by rfl) (hpl : (backTo pos (starEach es X.env)).any (·.1) = false := by rfl) :
    PE X (.Call (.Name x p) (e :: es) [] pos) (tCallS sp (WE W) t) := by
  obtain ⟨f, fd, m, kp, b, F⟩ := G
  exact pe_callS (p := p) F hr hg m kp b (fun σ => L2N.passAt tk σ) ha hdb he hpl
theorem r_calS {sp : Sp} {E : L2.St → XK} {σ : L2.St} {H : Hp} {Q : VK} (k : t σ H fun vs H1 => sp vs H1 Q (E σ)) : tCallS sp E t σ H Q := k
end
/-- the class at D, raised by the name x; S the class of all refusals -/
structure XR (K : PySem.W.Frag) (mg : Str → Option Value) (x : Str) (D S : Addr) : Prop where
  g : mg x = some (.ref D)
  kp : PySem.W.keepIn K (.ref D) = true
  ex : PySem.W.excIn K D [.type "ValueError", .type "Exception", .type "BaseException", .type "object"] "ValueError.__new__" = true
  sb : PySem.W.subIn K (.ref D) (.type "BaseException") = some true
  ty : PySem.W.typeIn K (.ref D) = some (.type "type")
  em : PySem.W.exmOne K (.ref D) (.ref S) = some true
theorem XR.mk' {X : Cx} {x m : Str} {j : Nat} {p p2 pos : Pos} {D S : Addr} (C : XR X.K X.mg x D S) (hg : Gl X x) (hdb : (x == ("__debug__" : Str)) = false := by decide) : L2N.PMk X (.Call (.Name x p) [.Constant (.str m) j p2] [] pos) (fun _ H Q => Q (.ref D) none H) :=
  L2N.pmk_own PySem.F.excBase_ValueError C.ex C.g C.kp (raises_own C.sb C.ty) hg hdb
theorem XR.mk0 {K : PySem.W.Frag} {mg : Str → Option Value} {x : Str} {D S : Addr} (g : mg x = some (.ref D)) (kp : PySem.W.keepIn K (.ref D) = true) (ex : PySem.W.excIn K D [.type "ValueError", .type "Exception", .type "BaseException", .type "object"] "ValueError.__new__" = true)
    (sb : PySem.W.subIn K (.ref D) (.type "BaseException") = some true) (ty : PySem.W.typeIn K (.ref D) = some (.type "type")) (s1 : PySem.W.subIn K (.ref S) (.type "BaseException") = some true) (hd : PySem.W.hasDictIn K S = true) (ts : PySem.W.typeIn K (.ref S) = some (.type "type"))
    (s2 : PySem.W.subIn K (.ref D) (.ref S) = some true) : XR K mg x D S := ⟨g, kp, ex, sb, ty, PySem.W.exm_ref s1 hd ts s2⟩
/-- raise X('m') -/
def tRaise (W : WX) (D : Addr) : TS := fun _ σ H => W (.ref D) none σ H
theorem ps_raiseX {X : Cx} {W : WX} {x m : Str} {j : Nat} {p p2 pos pos2 : Pos} {D S : Addr} (hc : X.calm = true) (tk : L2N.Takes X W) (C : XR X.K X.mg x D S) (hg : Gl X x) (hdb : (x == ("__debug__" : Str)) = false := by decide) :
    PS X (.Raise (some (.Call (.Name x p) [.Constant (.str m) j p2] [] pos)) none pos2) (tRaise W D) := L2N.ps_raise hc tk (C.mk' hg hdb)
theorem r_raise {W : WX} {D : Addr} {F : Ends} {σ : L2.St} {H : Hp} (k : W (.ref D) none σ H) : tRaise W D F σ H := k
/-- the clause takes it -/
theorem w_as {K : PySem.W.Frag} {cls c : Value} {i : Nat} {ts : Addr → Value → Option Addr → TS} {Wout : WX} {D : Ends} {d : Option Addr} {σ : L2.St} {H : Hp} (h : PySem.W.exmOne K cls c = some true)
    (k : ∀ a, H a = none → ts a cls d { nx := fun σ' H' => D.nx (σ'.set i none) H', rt := D.rt, bk := fun σ' H' => D.bk (σ'.set i none) H', ct := fun σ' H' => D.ct (σ'.set i none) H' } (σ.set i (some (.ref a))) H) : wAs K c i ts Wout D cls d σ H :=
  ⟨true, h, fun _ => k, fun z => Bool.noConfusion z⟩
/-! ### a def that is handed the exception -/
/-- the def named x, handed an exception of the class cls while it is handled, gives the text z -/
def HasE (P : Program) (w : World) (K : PySem.W.Frag) (mg : Str → Option Value) (base : Heap) (k : Nat) (x : Str) (ps : List Str) (Kd : Value → Str → Prop) : Prop :=
  ∃ f fd, mg x = some (.ref f) ∧ PySem.W.keepIn K (.ref f) = true ∧ Binds K fd ps [] ∧ ps.length = 1 ∧
    ∀ (cls : Value) (z : Str), Kd cls z → ∀ (A : Around) (outer : List Env) (s : Shared) (H : Hp) (args : Args) (us : List Value) (Q : VK) (E : XK) (p : Addr × Obj), L2H.RoomH k A → L2H.Hot1 A p → L2H.PinOk outer H s p → Zc cls none p.2 → Env0 P w K mg base A outer s H → BindsTo s fd args (ps.zip us) → Vals [.ref p.1] us →
      (∀ H', Ex H H' → Q (.str z) H') → codeAny (model P w) A (.call (.ref f) args) (CR CX0 outer P w H s Q E) s
section
variable {P : Program} {w : World} {K : PySem.W.Frag} {mg : Str → Option Value} {base : Heap}
theorem HasE.mono {x : Str} {ps : List Str} {Kd : Value → Str → Prop} {j k : Nat} (G : HasE P w K mg base j x ps Kd) (h : j ≤ k) : HasE P w K mg base k x ps Kd := by
  obtain ⟨f, fd, m, kp, b, len, r⟩ := G
  exact ⟨f, fd, m, kp, b, len, fun cls z kd A outer s H args us Q E p hr => r cls z kd A outer s H args us Q E p (hr.mono h)⟩
theorem DefAt.okE {x : Str} {st : Stmt} {N ps : List Str} {k : Nat} {Kd : Value → Str → Prop} (D : DefAt K mg x st ps) (S : FnScope N ps (defScope st)) (len : ps.length = 1)
    (hbody : ∀ (cls : Value) (z : Str), Kd cls z → ∀ (f : Addr) (cdv : Value) (A : Around) (outer : List Env) (s : Shared) (H : Hp) (Q : VK) (E : XK) (p : Addr × Obj), L2H.Hot1 A p → Zc cls Option.none p.2 → L2H.RoomH k (A.deeper (envOfC x (defScope st) s.heap.objs.size f cdv)) → (∀ H', Ex H H' → Q (.str z) H') →
      ∃ t, PSs (L2H.cxH CX0 P w K mg base N x (defScope st) f cdv A outer s H E p) (defBody st) t ∧ t { nx := fun _ H' => Q .non H', rt := Q } (start N [.ref p.1]) H) : HasE P w K mg base (k + 1) x ps Kd := by
  obtain ⟨f, fd, F, m, b⟩ := D
  obtain ⟨oc, od, kV, doc, pm, an, cdv, ct, osl, rfl, lk, hcd⟩ := F.ex
  refine ⟨f, _, m, F.kp, b, len, fun cls z kd A outer s H args us Q E p hr hot hpin zc e0 hb r hq => ?_⟩
  have KX : K.In s.heap := e0.mod.kin.keeps fun b o e => (e0.bs b o e).1
  have lim : s.heap.NoLimit := e0.mod.nolimit.keeps fun b o e => (e0.bs b o e).1
  have kinds : ∀ y ∈ ps.zip us, (defScope st).names.lookup y.1 = some .local ∨ ((defScope st).names.lookup y.1 = some .cell ∧ ((cellsFrom (s.heap.objs.size + 1) (defScope st).names []).lookup y.1).isSome = true) := fun ⟨n, v⟩ hy =>
    (S.par n (List.of_mem_zip hy).1).elim .inl fun q => .inr ⟨q, PySem.W.cellsFrom_some _ _ _ (.inl q)⟩
  refine codeAny_call_function hr.depth (KX _ _ lk) rfl S.co S.gen rfl (PySem.W.codeRec_of KX hcd) (hb _ _ _ _ (wpAny_newFunctionEnv_cells S.kind kinds fun env he s1 ic => ?_))
  subst he
  refine ⟨lim.keeps ic.toInCall.keep, codeAny_func ?_⟩
  obtain ⟨t, ht, hq'⟩ := hbody cls z kd f cdv A outer s H Q E p hot zc (hr.deeper _) hq
  have I := L2H.inv_startH (CX := CX0) (mg := mg) (qual := x) (f := f) (cd := cdv) (A := A) (E := E) (vs := [.ref p.1]) S hpin e0 len.symm r ic
  refine wpAny_mono (ht.run [] s1 (start N [.ref p.1]) H _ I hq') (fun fl s' hs => ?_) fun e s' hs => hs
  cases fl with
  | ret u =>
    obtain ⟨v, σ', H', J, rv, q⟩ := hs
    exact ⟨v, H', J.os, J.bare, J.base, J.hok, rv, q⟩
  | next =>
    obtain ⟨σ', H', J, q⟩ := hs
    exact ⟨.non, H', J.os, J.bare, J.base, J.hok, rfl, q⟩
  | brk =>
    obtain ⟨_, _, _, q⟩ := hs
    exact q.elim
  | cont =>
    obtain ⟨_, _, _, q⟩ := hs
    exact q.elim
end
/-- f(e), within the suite that handles e -/
def tKind (Kd : Value → Str → Prop) (a : Addr) (cls : Value) (d : Option Addr) (t : TA) : TE := fun σ H Q => t σ H fun vs H1 => vs = [.ref a] ∧ d = none ∧ ∃ z, Kd cls z ∧ ∀ H', Ex H1 H' → Q (.str z) H'
theorem pcallE {X : Cx} {x : Str} {q pos : Pos} {e : Expr} {t : TA} {k : Nat} {ps : List Str} {Kd : Value → Str → Prop} {a : Addr} {oe : Obj} {cls : Value} {d : Option Addr} {pn : List (Addr × Obj)}
    (G : HasE X.prog X.w X.K X.mg X.base k x ps Kd) (hr : Room k X.A) (hz : L2N.Zn cls d oe) (hf : ∃ vs, oe.data = .fields vs) (ha : PA (X.suite a ((a, oe) :: pn)) [e] t) (hg : Gl X x := by rfl)
    (hdb : (x == ("__debug__" : Str)) = false := by decide) (he : starEach [e] X.env = (false, eval e X.env) :: starEach [] X.env := by rfl) (hpl : (backTo pos (starEach [] X.env)).any (·.1) = false := by rfl) :
    PE (X.suite a ((a, oe) :: pn)) (.Call (.Name x q) [e] [] pos) (tKind Kd a cls d t) := by
  obtain ⟨f, fd, m, kp, b, len, run⟩ := G
  refine ⟨fun pins s σ H Q I h => wpAny_Call_Name_kw (ld_glob (X := X.suite a ((a, oe) :: pn)) I hg m ?_ hdb)⟩
  have h' : t σ H fun vs H1 => vs = [.ref a] ∧ d = none ∧ ∃ z, Kd cls z ∧ ∀ H', Ex H1 H' → Q (.str z) H' := h
  refine PySem.W.callWith_K (h₀ := X.base) I.ok.mod.kin kp (thn (ha.run pos pins s σ H _ I h') fun us s1 ⟨vs, H1, I1, rv, ev, ed, z, kd, q⟩ => ⟨I1.kIn, ?_⟩) he hpl
  subst ev ed
  have hu : us.length = ps.length := by rw [← rv.length, len]; rfl
  have hb := b s1 us I1.kIn (by rw [List.append_nil]; exact hu)
  rw [List.append_nil] at hb
  obtain ⟨vs, hv⟩ := hf
  have P1 := I1.pin (a, oe) (List.mem_append_left _ List.mem_cons_self)
  have hpin : L2H.PinOk X.stack H1 s1 (a, oe) := ⟨P1.1, P1.2.1, fun hm => (List.mem_cons.mp (I1.stkSub a hm)).elim P1.2.2.1 P1.2.2.2.1, P1.2.2.2.2⟩
  have hot : L2H.Hot1 (X.suite a ((a, oe) :: pn)).A (a, oe) := ⟨rfl, vs, hv, hz.2.2 vs hv⟩
  refine wpAny_call (codeAny_mono (run cls z kd (X.suite a ((a, oe) :: pn)).A X.stack s1 H1 ⟨us, []⟩ us Q E0 (a, oe) ⟨hr.dp, hr.un⟩ hot hpin hz.zc I1.env0 hb rv q) fun r s2 hr => ?_)
  match r, hr with
  | .error err, hr => exact hr.elim
  | .ok (.ret u), hr => exact I1.after hr
  | .ok .next, hr => exact hr.elim
  | .ok .brk, hr => exact hr.elim
  | .ok .cont, hr => exact hr.elim
theorem r_kind {Kd : Value → Str → Prop} {a : Addr} {cls : Value} {t : TA} {σ : L2.St} {H : Hp} {Q : VK} (k : t σ H fun vs H1 => vs = [.ref a] ∧ (none : Option Addr) = none ∧ ∃ z, Kd cls z ∧ ∀ H', Ex H1 H' → Q (.str z) H') : tKind Kd a cls none t σ H Q := k
theorem takesN0 {X : Cx} : L2N.Takes X (fun _ _ _ _ => False) := fun _ _ x => by
  obtain ⟨_, _, _, _, _, _, _, _, _, _, _, _, _, _, _, _, z⟩ := x
  exact z.elim
/-- try: .. except X as n: .. -/
def tTry (K : PySem.W.Frag) (c : Value) (i : Nat) (tb : WX → TS) (ts : Addr → Value → Option Addr → TS) : TS := fun D σ H => tb (wAs K c i ts (fun _ _ _ _ => False) D) D σ H
theorem r_try {K : PySem.W.Frag} {c : Value} {i : Nat} {tb : WX → TS} {ts : Addr → Value → Option Addr → TS} {D : Ends} {σ : L2.St} {H : Hp} (k : tb (wAs K c i ts (fun _ _ _ _ => False) D) D σ H) : tTry K c i tb ts D σ H := k
theorem ps_tryX {X : Cx} {x n : Str} {S : Addr} {i : Nat} {body suite : List Stmt} {b₀ : Stmt} {np pos pos' : Pos} {tb : WX → TS} {ts : Addr → Value → Option Addr → TS} (hs : X.stack = X.env :: X.outer) (hf : X.env.frame = some X.env.locals) (hN : X.N.Nodup) (hi : X.N[i]? = some n) (hln : X.env.kindOf n = some .local)
    (hg : Gl X x) (hd : (x == ("__debug__" : Str)) = false) (gS : X.mg x = some (.ref S))
    (hb : ∀ (W : WX) (pn : List (Addr × Obj)) (xe : Value → Shared → Prop), L2N.Takes (X.tr pn xe) W → PSs (X.tr pn xe) body (tb W))
    (hsu : ∀ (a : Addr) (oe : Obj) (cls : Value) (d : Option Addr) (pn : List (Addr × Obj)), L2N.Zn cls d oe → (∃ vs, oe.data = .fields vs) → PSs (X.suite a ((a, oe) :: pn)) (b₀ :: suite) (ts a cls d)) :
    PS X (.Try body [.ExceptHandler (some (.Name x np)) (some n) (b₀ :: suite) pos'] [] [] pos) (tTry X.K (.ref S) i tb ts) :=
  L2N.ps_try_as hs hf hN hi hln ⟨hg, hd, .inl gS⟩ takesN0 (fun W pn xe tk _ => hb W pn xe tk) hsu
/-! ### the table of refusals -/
abbrev vE : List Value := [.type "ValueError", .type "Exception", .type "BaseException", .type "object"]
/-- a class without own __init__, behind itself bm -/
def CT (K : PySem.W.Frag) (C : Addr) (bm : List Value) : Prop := ∃ nm q N bs sn sub ab col dd k0 k1 k2 k3 k5, K.lookup C = some (excClassObj nm q C N bs bm true sn sub ab col dd k0 k1 k2 k3 k5 "ValueError.__new__")
section
variable {K : PySem.W.Frag} {C : Addr} {bm : List Value}
theorem CT.ty (h : CT K C bm) : PySem.W.typeIn K (.ref C) = some (.type "type") := by
  obtain ⟨_, _, _, _, _, _, _, _, _, _, _, _, _, _, l⟩ := h
  show (K.lookup C).map (·.cls) = _
  rw [l]
  rfl
theorem CT.cls (h : CT K C bm) : ∃ cd, PySem.W.clsIn K C = some cd ∧ cd.mro = .ref C :: bm ∧ cd.hasDict = true := by
  obtain ⟨_, _, _, _, _, _, _, _, _, _, _, _, _, _, l⟩ := h
  unfold PySem.W.clsIn
  rw [l]
  exact ⟨_, rfl, rfl, rfl⟩
theorem CT.mro (h : CT K C bm) (base : Value) : PySem.W.mroIn K C base = some ((Value.ref C :: bm).contains base) := by
  obtain ⟨cd, e, m, _⟩ := h.cls
  unfold PySem.W.mroIn
  rw [e]
  show (if cd.mro.isEmpty = true then none else some (cd.mro.contains base)) = _
  rw [m]
  rfl
theorem CT.sub (h : CT K C bm) (base : Value) : PySem.W.subIn K (.ref C) base = some ((Value.ref C :: bm).contains base) := h.mro base
theorem CT.dct (h : CT K C bm) : PySem.W.hasDictIn K C = true := by
  obtain ⟨cd, e, _, d⟩ := h.cls
  unfold PySem.W.hasDictIn
  rw [e]
  exact d
end
structure Cl where
  S : Addr
  NoBounds : Addr
  NoCoins : Addr
  NoCount : Addr
  NoEntry : Addr
  NoName : Addr
  NoPartner : Addr
  NoPower : Addr
  NoRing : Addr
  NoRise : Addr
  NoRow : Addr
  NoStair : Addr
  NoSteps : Addr
  NoText : Addr
  NoWalker : Addr
  NothingLeft : Addr
  TooMany : Addr
structure XT (K : PySem.W.Frag) (mg : Str → Option Value) (c : Cl) : Prop where
  gS : mg "StairError" = some (.ref c.S)
  tS : CT K c.S vE
  g_NoBounds : mg "NoBounds" = some (.ref c.NoBounds)
  t_NoBounds : CT K c.NoBounds (.ref c.S :: vE)
  g_NoCoins : mg "NoCoins" = some (.ref c.NoCoins)
  t_NoCoins : CT K c.NoCoins (.ref c.S :: vE)
  g_NoCount : mg "NoCount" = some (.ref c.NoCount)
  t_NoCount : CT K c.NoCount (.ref c.S :: vE)
  g_NoEntry : mg "NoEntry" = some (.ref c.NoEntry)
  t_NoEntry : CT K c.NoEntry (.ref c.S :: vE)
  g_NoName : mg "NoName" = some (.ref c.NoName)
  t_NoName : CT K c.NoName (.ref c.S :: vE)
  g_NoPartner : mg "NoPartner" = some (.ref c.NoPartner)
  t_NoPartner : CT K c.NoPartner (.ref c.S :: vE)
  g_NoPower : mg "NoPower" = some (.ref c.NoPower)
  t_NoPower : CT K c.NoPower (.ref c.S :: vE)
  g_NoRing : mg "NoRing" = some (.ref c.NoRing)
  t_NoRing : CT K c.NoRing (.ref c.S :: vE)
  g_NoRise : mg "NoRise" = some (.ref c.NoRise)
  t_NoRise : CT K c.NoRise (.ref c.S :: vE)
  g_NoRow : mg "NoRow" = some (.ref c.NoRow)
  t_NoRow : CT K c.NoRow (.ref c.S :: vE)
  g_NoStair : mg "NoStair" = some (.ref c.NoStair)
  t_NoStair : CT K c.NoStair (.ref c.S :: vE)
  g_NoSteps : mg "NoSteps" = some (.ref c.NoSteps)
  t_NoSteps : CT K c.NoSteps (.ref c.S :: vE)
  g_NoText : mg "NoText" = some (.ref c.NoText)
  t_NoText : CT K c.NoText (.ref c.S :: vE)
  g_NoWalker : mg "NoWalker" = some (.ref c.NoWalker)
  t_NoWalker : CT K c.NoWalker (.ref c.S :: vE)
  g_NothingLeft : mg "NothingLeft" = some (.ref c.NothingLeft)
  t_NothingLeft : CT K c.NothingLeft (.ref c.S :: vE)
  g_TooMany : mg "TooMany" = some (.ref c.TooMany)
  t_TooMany : CT K c.TooMany (.ref c.S :: vE)
  ne : [c.S, c.NoBounds, c.NoCoins, c.NoCount, c.NoEntry, c.NoName, c.NoPartner, c.NoPower, c.NoRing, c.NoRise, c.NoRow, c.NoStair, c.NoSteps, c.NoText, c.NoWalker, c.NothingLeft, c.TooMany].Nodup
  hn : PySem.W.specialIn K (.builtin "object.__class__") "__get__" = some (some (.builtin "getset_descriptor.__get__"))
  ht : PySem.W.takesIn K (.builtin "object.__class__") = some true
/-- what is needed of a class that is raised -/
structure XD (K : PySem.W.Frag) (D : Addr) : Prop where
  kp : PySem.W.keepIn K (.ref D) = true
  ex : PySem.W.excIn K D vE "ValueError.__new__" = true
  hg : PySem.W.findIn K (.ref D) "__getattribute__" = some (some (.builtin "BaseException.__getattribute__"))
  hk : PySem.W.findIn K (.ref D) "__getattr__" = some none
  ha : PySem.W.findIn K (.ref D) "__class__" = some (some (.builtin "object.__class__"))
section
variable {K : PySem.W.Frag} {mg : Str → Option Value} {c : Cl} {D : Addr}
theorem ct_has {S D : Addr} {T : String} (h : vE.contains (.type T) = true) : (Value.ref D :: Value.ref S :: vE).contains (.type T) = true := by
  rw [List.contains_cons, List.contains_cons, h, Bool.or_true, Bool.or_true]
theorem ct_ne {S D C : Addr} (h1 : C ≠ D) (h2 : C ≠ S) : (Value.ref D :: Value.ref S :: vE).contains (.ref C) = false := by
  have e1 : (Value.ref C == Value.ref D) = false := beq_eq_false_iff_ne.mpr fun z => h1 (Value.ref.inj z)
  have e2 : (Value.ref C == Value.ref S) = false := beq_eq_false_iff_ne.mpr fun z => h2 (Value.ref.inj z)
  rw [List.contains_cons, List.contains_cons, e1, e2]
  rfl
theorem XT.exc (X : XT K mg c) (t : CT K D (.ref c.S :: vE)) (d : XD K D) : ExcC K D :=
  ⟨d.hg, d.hk, by rw [t.sub, ct_has (by decide)], t.dct, d.ha, X.hn, X.ht, by rw [t.mro, ct_has (by decide)]⟩
theorem XT.xr (X : XT K mg c) {x : Str} (g : mg x = some (.ref D)) (t : CT K D (.ref c.S :: vE)) (d : XD K D) : XR K mg x D c.S :=
  XR.mk0 g d.kp d.ex (by rw [t.sub, ct_has (by decide)]) t.ty (by
    rw [X.tS.sub, List.contains_cons]
    exact congrArg some (Bool.or_eq_true_iff.mpr (.inr (by decide)))) X.tS.dct X.tS.ty (by
    rw [t.sub, List.contains_cons, List.contains_cons, beq_self_eq_true, Bool.true_or, Bool.or_true])
theorem kit_same {t : Value} : PySem.W.kitOne K t t = some true := if_pos (beq_self_eq_true t)
theorem kit_ref {C S : Addr} (tD : CT K D (.ref S :: vE)) (tC : CT K C (.ref S :: vE)) (h : C ≠ D) (h2 : C ≠ S) : PySem.W.kitOne K (.ref D) (.ref C) = some false := by
  have e1 : ¬ (Value.ref D == Value.ref C) = true := fun z => h (Value.ref.inj (beq_iff_eq.mp z)).symm
  obtain ⟨cd, ec, _⟩ := tC.cls
  have e2 : ((PySem.W.clsIn K C).isSome && PySem.W.typeIn K (.ref C) == some (.type "type")) = true := by
    rw [ec, tC.ty]
    rfl
  unfold PySem.W.kitOne
  rw [if_neg e1]
  show (if ((PySem.W.clsIn K C).isSome && PySem.W.typeIn K (.ref C) == some (.type "type")) = true then PySem.W.subIn K (.ref D) (.ref C) else none) = some false
  rw [if_pos e2, tD.sub, ct_ne h h2]
theorem kit_val {S : Addr} (tD : CT K D (.ref S :: vE)) : PySem.W.kitOne K (.ref D) (.type "ValueError") = some true := by
  have e1 : ¬ (Value.ref D == Value.type "ValueError") = true := fun z => by
    have := beq_iff_eq.mp z
    cases this
  unfold PySem.W.kitOne
  rw [if_neg e1]
  show (if PySem.W.kitMeta "ValueError" = true then PySem.W.subIn K (.ref D) (.type "ValueError") else none) = some true
  rw [if_pos (by decide +kernel), tD.sub, ct_has (by decide)]
end
theorem nd_ne {l : List Addr} {i j : Nat} {a b : Addr} (h : l.Nodup) (hi : l[i]? = some a) (hj : l[j]? = some b) (n : i ≠ j) : a ≠ b := by
  obtain ⟨h1, e1⟩ := List.getElem?_eq_some_iff.mp hi
  obtain ⟨h2, e2⟩ := List.getElem?_eq_some_iff.mp hj
  have p := List.pairwise_iff_getElem.mp h
  intro z
  rw [← e1, ← e2] at z
  rcases Nat.lt_or_gt_of_ne n with q | q
  · exact p i j h1 h2 q z
  · exact p j i h2 h1 q z.symm
/-- the class D is the i-th one -/
def Nth (c : Cl) (i : Nat) (D : Addr) : Prop := [c.NoBounds, c.NoCoins, c.NoCount, c.NoEntry, c.NoName, c.NoPartner, c.NoPower, c.NoRing, c.NoRise, c.NoRow, c.NoStair, c.NoSteps, c.NoText, c.NoWalker, c.NothingLeft, c.TooMany][i]? = some D
def kindT (i : Nat) : Str := (["NoBounds+", "NoCoins+", "NoCount+", "NoEntry+", "NoName+", "NoPartner+", "NoPower+", "NoRing+", "NoRise+", "NoRow+", "NoStair+", "NoSteps+", "NoText+", "NoWalker+", "NothingLeft+", "TooMany+"] : List Str).getD i ""

theorem XT.kit {K : PySem.W.Frag} {mg : Str → Option Value} {c : Cl} {D : Addr} (X : XT K mg c) {i : Nat} (n : Nth c i D) : i < 16 ∧ CT K D (.ref c.S :: vE) ∧ PySem.W.kitOne K (.ref D) (.ref c.NoBounds) = some (decide (i = 0)) ∧ PySem.W.kitOne K (.ref D) (.ref c.NoCoins) = some (decide (i = 1)) ∧ PySem.W.kitOne K (.ref D) (.ref c.NoCount) = some (decide (i = 2)) ∧ PySem.W.kitOne K (.ref D) (.ref c.NoEntry) = some (decide (i = 3)) ∧ PySem.W.kitOne K (.ref D) (.ref c.NoName) = some (decide (i = 4)) ∧ PySem.W.kitOne K (.ref D) (.ref c.NoPartner) = some (decide (i = 5)) ∧ PySem.W.kitOne K (.ref D) (.ref c.NoPower) = some (decide (i = 6)) ∧ PySem.W.kitOne K (.ref D) (.ref c.NoRing) = some (decide (i = 7)) ∧ PySem.W.kitOne K (.ref D) (.ref c.NoRise) = some (decide (i = 8)) ∧ PySem.W.kitOne K (.ref D) (.ref c.NoRow) = some (decide (i = 9)) ∧ PySem.W.kitOne K (.ref D) (.ref c.NoStair) = some (decide (i = 10)) ∧ PySem.W.kitOne K (.ref D) (.ref c.NoSteps) = some (decide (i = 11)) ∧ PySem.W.kitOne K (.ref D) (.ref c.NoText) = some (decide (i = 12)) ∧ PySem.W.kitOne K (.ref D) (.ref c.NoWalker) = some (decide (i = 13)) ∧ PySem.W.kitOne K (.ref D) (.ref c.NothingLeft) = some (decide (i = 14)) ∧ PySem.W.kitOne K (.ref D) (.ref c.TooMany) = some (decide (i = 15)) := by
  unfold Nth at n
  match i, n with
  | 0, n =>
    cases n
    refine ⟨by decide, X.t_NoBounds, kit_same, kit_ref X.t_NoBounds X.t_NoCoins (nd_ne X.ne (i := 2) (j := 1) rfl rfl (by decide)) (nd_ne X.ne (i := 2) (j := 0) rfl rfl (by decide)), kit_ref X.t_NoBounds X.t_NoCount (nd_ne X.ne (i := 3) (j := 1) rfl rfl (by decide)) (nd_ne X.ne (i := 3) (j := 0) rfl rfl (by decide)), kit_ref X.t_NoBounds X.t_NoEntry (nd_ne X.ne (i := 4) (j := 1) rfl rfl (by decide)) (nd_ne X.ne (i := 4) (j := 0) rfl rfl (by decide)), kit_ref X.t_NoBounds X.t_NoName (nd_ne X.ne (i := 5) (j := 1) rfl rfl (by decide)) (nd_ne X.ne (i := 5) (j := 0) rfl rfl (by decide)), kit_ref X.t_NoBounds X.t_NoPartner (nd_ne X.ne (i := 6) (j := 1) rfl rfl (by decide)) (nd_ne X.ne (i := 6) (j := 0) rfl rfl (by decide)), kit_ref X.t_NoBounds X.t_NoPower (nd_ne X.ne (i := 7) (j := 1) rfl rfl (by decide)) (nd_ne X.ne (i := 7) (j := 0) rfl rfl (by decide)), kit_ref X.t_NoBounds X.t_NoRing (nd_ne X.ne (i := 8) (j := 1) rfl rfl (by decide)) (nd_ne X.ne (i := 8) (j := 0) rfl rfl (by decide)), kit_ref X.t_NoBounds X.t_NoRise (nd_ne X.ne (i := 9) (j := 1) rfl rfl (by decide)) (nd_ne X.ne (i := 9) (j := 0) rfl rfl (by decide)), kit_ref X.t_NoBounds X.t_NoRow (nd_ne X.ne (i := 10) (j := 1) rfl rfl (by decide)) (nd_ne X.ne (i := 10) (j := 0) rfl rfl (by decide)), kit_ref X.t_NoBounds X.t_NoStair (nd_ne X.ne (i := 11) (j := 1) rfl rfl (by decide)) (nd_ne X.ne (i := 11) (j := 0) rfl rfl (by decide)), kit_ref X.t_NoBounds X.t_NoSteps (nd_ne X.ne (i := 12) (j := 1) rfl rfl (by decide)) (nd_ne X.ne (i := 12) (j := 0) rfl rfl (by decide)), kit_ref X.t_NoBounds X.t_NoText (nd_ne X.ne (i := 13) (j := 1) rfl rfl (by decide)) (nd_ne X.ne (i := 13) (j := 0) rfl rfl (by decide)), kit_ref X.t_NoBounds X.t_NoWalker (nd_ne X.ne (i := 14) (j := 1) rfl rfl (by decide)) (nd_ne X.ne (i := 14) (j := 0) rfl rfl (by decide)), kit_ref X.t_NoBounds X.t_NothingLeft (nd_ne X.ne (i := 15) (j := 1) rfl rfl (by decide)) (nd_ne X.ne (i := 15) (j := 0) rfl rfl (by decide)), kit_ref X.t_NoBounds X.t_TooMany (nd_ne X.ne (i := 16) (j := 1) rfl rfl (by decide)) (nd_ne X.ne (i := 16) (j := 0) rfl rfl (by decide))⟩
  | 1, n =>
    cases n
    refine ⟨by decide, X.t_NoCoins, kit_ref X.t_NoCoins X.t_NoBounds (nd_ne X.ne (i := 1) (j := 2) rfl rfl (by decide)) (nd_ne X.ne (i := 1) (j := 0) rfl rfl (by decide)), kit_same, kit_ref X.t_NoCoins X.t_NoCount (nd_ne X.ne (i := 3) (j := 2) rfl rfl (by decide)) (nd_ne X.ne (i := 3) (j := 0) rfl rfl (by decide)), kit_ref X.t_NoCoins X.t_NoEntry (nd_ne X.ne (i := 4) (j := 2) rfl rfl (by decide)) (nd_ne X.ne (i := 4) (j := 0) rfl rfl (by decide)), kit_ref X.t_NoCoins X.t_NoName (nd_ne X.ne (i := 5) (j := 2) rfl rfl (by decide)) (nd_ne X.ne (i := 5) (j := 0) rfl rfl (by decide)), kit_ref X.t_NoCoins X.t_NoPartner (nd_ne X.ne (i := 6) (j := 2) rfl rfl (by decide)) (nd_ne X.ne (i := 6) (j := 0) rfl rfl (by decide)), kit_ref X.t_NoCoins X.t_NoPower (nd_ne X.ne (i := 7) (j := 2) rfl rfl (by decide)) (nd_ne X.ne (i := 7) (j := 0) rfl rfl (by decide)), kit_ref X.t_NoCoins X.t_NoRing (nd_ne X.ne (i := 8) (j := 2) rfl rfl (by decide)) (nd_ne X.ne (i := 8) (j := 0) rfl rfl (by decide)), kit_ref X.t_NoCoins X.t_NoRise (nd_ne X.ne (i := 9) (j := 2) rfl rfl (by decide)) (nd_ne X.ne (i := 9) (j := 0) rfl rfl (by decide)), kit_ref X.t_NoCoins X.t_NoRow (nd_ne X.ne (i := 10) (j := 2) rfl rfl (by decide)) (nd_ne X.ne (i := 10) (j := 0) rfl rfl (by decide)), kit_ref X.t_NoCoins X.t_NoStair (nd_ne X.ne (i := 11) (j := 2) rfl rfl (by decide)) (nd_ne X.ne (i := 11) (j := 0) rfl rfl (by decide)), kit_ref X.t_NoCoins X.t_NoSteps (nd_ne X.ne (i := 12) (j := 2) rfl rfl (by decide)) (nd_ne X.ne (i := 12) (j := 0) rfl rfl (by decide)), kit_ref X.t_NoCoins X.t_NoText (nd_ne X.ne (i := 13) (j := 2) rfl rfl (by decide)) (nd_ne X.ne (i := 13) (j := 0) rfl rfl (by decide)), kit_ref X.t_NoCoins X.t_NoWalker (nd_ne X.ne (i := 14) (j := 2) rfl rfl (by decide)) (nd_ne X.ne (i := 14) (j := 0) rfl rfl (by decide)), kit_ref X.t_NoCoins X.t_NothingLeft (nd_ne X.ne (i := 15) (j := 2) rfl rfl (by decide)) (nd_ne X.ne (i := 15) (j := 0) rfl rfl (by decide)), kit_ref X.t_NoCoins X.t_TooMany (nd_ne X.ne (i := 16) (j := 2) rfl rfl (by decide)) (nd_ne X.ne (i := 16) (j := 0) rfl rfl (by decide))⟩
  | 2, n =>
    cases n
    refine ⟨by decide, X.t_NoCount, kit_ref X.t_NoCount X.t_NoBounds (nd_ne X.ne (i := 1) (j := 3) rfl rfl (by decide)) (nd_ne X.ne (i := 1) (j := 0) rfl rfl (by decide)), kit_ref X.t_NoCount X.t_NoCoins (nd_ne X.ne (i := 2) (j := 3) rfl rfl (by decide)) (nd_ne X.ne (i := 2) (j := 0) rfl rfl (by decide)), kit_same, kit_ref X.t_NoCount X.t_NoEntry (nd_ne X.ne (i := 4) (j := 3) rfl rfl (by decide)) (nd_ne X.ne (i := 4) (j := 0) rfl rfl (by decide)), kit_ref X.t_NoCount X.t_NoName (nd_ne X.ne (i := 5) (j := 3) rfl rfl (by decide)) (nd_ne X.ne (i := 5) (j := 0) rfl rfl (by decide)), kit_ref X.t_NoCount X.t_NoPartner (nd_ne X.ne (i := 6) (j := 3) rfl rfl (by decide)) (nd_ne X.ne (i := 6) (j := 0) rfl rfl (by decide)), kit_ref X.t_NoCount X.t_NoPower (nd_ne X.ne (i := 7) (j := 3) rfl rfl (by decide)) (nd_ne X.ne (i := 7) (j := 0) rfl rfl (by decide)), kit_ref X.t_NoCount X.t_NoRing (nd_ne X.ne (i := 8) (j := 3) rfl rfl (by decide)) (nd_ne X.ne (i := 8) (j := 0) rfl rfl (by decide)), kit_ref X.t_NoCount X.t_NoRise (nd_ne X.ne (i := 9) (j := 3) rfl rfl (by decide)) (nd_ne X.ne (i := 9) (j := 0) rfl rfl (by decide)), kit_ref X.t_NoCount X.t_NoRow (nd_ne X.ne (i := 10) (j := 3) rfl rfl (by decide)) (nd_ne X.ne (i := 10) (j := 0) rfl rfl (by decide)), kit_ref X.t_NoCount X.t_NoStair (nd_ne X.ne (i := 11) (j := 3) rfl rfl (by decide)) (nd_ne X.ne (i := 11) (j := 0) rfl rfl (by decide)), kit_ref X.t_NoCount X.t_NoSteps (nd_ne X.ne (i := 12) (j := 3) rfl rfl (by decide)) (nd_ne X.ne (i := 12) (j := 0) rfl rfl (by decide)), kit_ref X.t_NoCount X.t_NoText (nd_ne X.ne (i := 13) (j := 3) rfl rfl (by decide)) (nd_ne X.ne (i := 13) (j := 0) rfl rfl (by decide)), kit_ref X.t_NoCount X.t_NoWalker (nd_ne X.ne (i := 14) (j := 3) rfl rfl (by decide)) (nd_ne X.ne (i := 14) (j := 0) rfl rfl (by decide)), kit_ref X.t_NoCount X.t_NothingLeft (nd_ne X.ne (i := 15) (j := 3) rfl rfl (by decide)) (nd_ne X.ne (i := 15) (j := 0) rfl rfl (by decide)), kit_ref X.t_NoCount X.t_TooMany (nd_ne X.ne (i := 16) (j := 3) rfl rfl (by decide)) (nd_ne X.ne (i := 16) (j := 0) rfl rfl (by decide))⟩
  | 3, n =>
    cases n
    refine ⟨by decide, X.t_NoEntry, kit_ref X.t_NoEntry X.t_NoBounds (nd_ne X.ne (i := 1) (j := 4) rfl rfl (by decide)) (nd_ne X.ne (i := 1) (j := 0) rfl rfl (by decide)), kit_ref X.t_NoEntry X.t_NoCoins (nd_ne X.ne (i := 2) (j := 4) rfl rfl (by decide)) (nd_ne X.ne (i := 2) (j := 0) rfl rfl (by decide)), kit_ref X.t_NoEntry X.t_NoCount (nd_ne X.ne (i := 3) (j := 4) rfl rfl (by decide)) (nd_ne X.ne (i := 3) (j := 0) rfl rfl (by decide)), kit_same, kit_ref X.t_NoEntry X.t_NoName (nd_ne X.ne (i := 5) (j := 4) rfl rfl (by decide)) (nd_ne X.ne (i := 5) (j := 0) rfl rfl (by decide)), kit_ref X.t_NoEntry X.t_NoPartner (nd_ne X.ne (i := 6) (j := 4) rfl rfl (by decide)) (nd_ne X.ne (i := 6) (j := 0) rfl rfl (by decide)), kit_ref X.t_NoEntry X.t_NoPower (nd_ne X.ne (i := 7) (j := 4) rfl rfl (by decide)) (nd_ne X.ne (i := 7) (j := 0) rfl rfl (by decide)), kit_ref X.t_NoEntry X.t_NoRing (nd_ne X.ne (i := 8) (j := 4) rfl rfl (by decide)) (nd_ne X.ne (i := 8) (j := 0) rfl rfl (by decide)), kit_ref X.t_NoEntry X.t_NoRise (nd_ne X.ne (i := 9) (j := 4) rfl rfl (by decide)) (nd_ne X.ne (i := 9) (j := 0) rfl rfl (by decide)), kit_ref X.t_NoEntry X.t_NoRow (nd_ne X.ne (i := 10) (j := 4) rfl rfl (by decide)) (nd_ne X.ne (i := 10) (j := 0) rfl rfl (by decide)), kit_ref X.t_NoEntry X.t_NoStair (nd_ne X.ne (i := 11) (j := 4) rfl rfl (by decide)) (nd_ne X.ne (i := 11) (j := 0) rfl rfl (by decide)), kit_ref X.t_NoEntry X.t_NoSteps (nd_ne X.ne (i := 12) (j := 4) rfl rfl (by decide)) (nd_ne X.ne (i := 12) (j := 0) rfl rfl (by decide)), kit_ref X.t_NoEntry X.t_NoText (nd_ne X.ne (i := 13) (j := 4) rfl rfl (by decide)) (nd_ne X.ne (i := 13) (j := 0) rfl rfl (by decide)), kit_ref X.t_NoEntry X.t_NoWalker (nd_ne X.ne (i := 14) (j := 4) rfl rfl (by decide)) (nd_ne X.ne (i := 14) (j := 0) rfl rfl (by decide)), kit_ref X.t_NoEntry X.t_NothingLeft (nd_ne X.ne (i := 15) (j := 4) rfl rfl (by decide)) (nd_ne X.ne (i := 15) (j := 0) rfl rfl (by decide)), kit_ref X.t_NoEntry X.t_TooMany (nd_ne X.ne (i := 16) (j := 4) rfl rfl (by decide)) (nd_ne X.ne (i := 16) (j := 0) rfl rfl (by decide))⟩
  | 4, n =>
    cases n
    refine ⟨by decide, X.t_NoName, kit_ref X.t_NoName X.t_NoBounds (nd_ne X.ne (i := 1) (j := 5) rfl rfl (by decide)) (nd_ne X.ne (i := 1) (j := 0) rfl rfl (by decide)), kit_ref X.t_NoName X.t_NoCoins (nd_ne X.ne (i := 2) (j := 5) rfl rfl (by decide)) (nd_ne X.ne (i := 2) (j := 0) rfl rfl (by decide)), kit_ref X.t_NoName X.t_NoCount (nd_ne X.ne (i := 3) (j := 5) rfl rfl (by decide)) (nd_ne X.ne (i := 3) (j := 0) rfl rfl (by decide)), kit_ref X.t_NoName X.t_NoEntry (nd_ne X.ne (i := 4) (j := 5) rfl rfl (by decide)) (nd_ne X.ne (i := 4) (j := 0) rfl rfl (by decide)), kit_same, kit_ref X.t_NoName X.t_NoPartner (nd_ne X.ne (i := 6) (j := 5) rfl rfl (by decide)) (nd_ne X.ne (i := 6) (j := 0) rfl rfl (by decide)), kit_ref X.t_NoName X.t_NoPower (nd_ne X.ne (i := 7) (j := 5) rfl rfl (by decide)) (nd_ne X.ne (i := 7) (j := 0) rfl rfl (by decide)), kit_ref X.t_NoName X.t_NoRing (nd_ne X.ne (i := 8) (j := 5) rfl rfl (by decide)) (nd_ne X.ne (i := 8) (j := 0) rfl rfl (by decide)), kit_ref X.t_NoName X.t_NoRise (nd_ne X.ne (i := 9) (j := 5) rfl rfl (by decide)) (nd_ne X.ne (i := 9) (j := 0) rfl rfl (by decide)), kit_ref X.t_NoName X.t_NoRow (nd_ne X.ne (i := 10) (j := 5) rfl rfl (by decide)) (nd_ne X.ne (i := 10) (j := 0) rfl rfl (by decide)), kit_ref X.t_NoName X.t_NoStair (nd_ne X.ne (i := 11) (j := 5) rfl rfl (by decide)) (nd_ne X.ne (i := 11) (j := 0) rfl rfl (by decide)), kit_ref X.t_NoName X.t_NoSteps (nd_ne X.ne (i := 12) (j := 5) rfl rfl (by decide)) (nd_ne X.ne (i := 12) (j := 0) rfl rfl (by decide)), kit_ref X.t_NoName X.t_NoText (nd_ne X.ne (i := 13) (j := 5) rfl rfl (by decide)) (nd_ne X.ne (i := 13) (j := 0) rfl rfl (by decide)), kit_ref X.t_NoName X.t_NoWalker (nd_ne X.ne (i := 14) (j := 5) rfl rfl (by decide)) (nd_ne X.ne (i := 14) (j := 0) rfl rfl (by decide)), kit_ref X.t_NoName X.t_NothingLeft (nd_ne X.ne (i := 15) (j := 5) rfl rfl (by decide)) (nd_ne X.ne (i := 15) (j := 0) rfl rfl (by decide)), kit_ref X.t_NoName X.t_TooMany (nd_ne X.ne (i := 16) (j := 5) rfl rfl (by decide)) (nd_ne X.ne (i := 16) (j := 0) rfl rfl (by decide))⟩
  | 5, n =>
    cases n
    refine ⟨by decide, X.t_NoPartner, kit_ref X.t_NoPartner X.t_NoBounds (nd_ne X.ne (i := 1) (j := 6) rfl rfl (by decide)) (nd_ne X.ne (i := 1) (j := 0) rfl rfl (by decide)), kit_ref X.t_NoPartner X.t_NoCoins (nd_ne X.ne (i := 2) (j := 6) rfl rfl (by decide)) (nd_ne X.ne (i := 2) (j := 0) rfl rfl (by decide)), kit_ref X.t_NoPartner X.t_NoCount (nd_ne X.ne (i := 3) (j := 6) rfl rfl (by decide)) (nd_ne X.ne (i := 3) (j := 0) rfl rfl (by decide)), kit_ref X.t_NoPartner X.t_NoEntry (nd_ne X.ne (i := 4) (j := 6) rfl rfl (by decide)) (nd_ne X.ne (i := 4) (j := 0) rfl rfl (by decide)), kit_ref X.t_NoPartner X.t_NoName (nd_ne X.ne (i := 5) (j := 6) rfl rfl (by decide)) (nd_ne X.ne (i := 5) (j := 0) rfl rfl (by decide)), kit_same, kit_ref X.t_NoPartner X.t_NoPower (nd_ne X.ne (i := 7) (j := 6) rfl rfl (by decide)) (nd_ne X.ne (i := 7) (j := 0) rfl rfl (by decide)), kit_ref X.t_NoPartner X.t_NoRing (nd_ne X.ne (i := 8) (j := 6) rfl rfl (by decide)) (nd_ne X.ne (i := 8) (j := 0) rfl rfl (by decide)), kit_ref X.t_NoPartner X.t_NoRise (nd_ne X.ne (i := 9) (j := 6) rfl rfl (by decide)) (nd_ne X.ne (i := 9) (j := 0) rfl rfl (by decide)), kit_ref X.t_NoPartner X.t_NoRow (nd_ne X.ne (i := 10) (j := 6) rfl rfl (by decide)) (nd_ne X.ne (i := 10) (j := 0) rfl rfl (by decide)), kit_ref X.t_NoPartner X.t_NoStair (nd_ne X.ne (i := 11) (j := 6) rfl rfl (by decide)) (nd_ne X.ne (i := 11) (j := 0) rfl rfl (by decide)), kit_ref X.t_NoPartner X.t_NoSteps (nd_ne X.ne (i := 12) (j := 6) rfl rfl (by decide)) (nd_ne X.ne (i := 12) (j := 0) rfl rfl (by decide)), kit_ref X.t_NoPartner X.t_NoText (nd_ne X.ne (i := 13) (j := 6) rfl rfl (by decide)) (nd_ne X.ne (i := 13) (j := 0) rfl rfl (by decide)), kit_ref X.t_NoPartner X.t_NoWalker (nd_ne X.ne (i := 14) (j := 6) rfl rfl (by decide)) (nd_ne X.ne (i := 14) (j := 0) rfl rfl (by decide)), kit_ref X.t_NoPartner X.t_NothingLeft (nd_ne X.ne (i := 15) (j := 6) rfl rfl (by decide)) (nd_ne X.ne (i := 15) (j := 0) rfl rfl (by decide)), kit_ref X.t_NoPartner X.t_TooMany (nd_ne X.ne (i := 16) (j := 6) rfl rfl (by decide)) (nd_ne X.ne (i := 16) (j := 0) rfl rfl (by decide))⟩
  | 6, n =>
    cases n
    refine ⟨by decide, X.t_NoPower, kit_ref X.t_NoPower X.t_NoBounds (nd_ne X.ne (i := 1) (j := 7) rfl rfl (by decide)) (nd_ne X.ne (i := 1) (j := 0) rfl rfl (by decide)), kit_ref X.t_NoPower X.t_NoCoins (nd_ne X.ne (i := 2) (j := 7) rfl rfl (by decide)) (nd_ne X.ne (i := 2) (j := 0) rfl rfl (by decide)), kit_ref X.t_NoPower X.t_NoCount (nd_ne X.ne (i := 3) (j := 7) rfl rfl (by decide)) (nd_ne X.ne (i := 3) (j := 0) rfl rfl (by decide)), kit_ref X.t_NoPower X.t_NoEntry (nd_ne X.ne (i := 4) (j := 7) rfl rfl (by decide)) (nd_ne X.ne (i := 4) (j := 0) rfl rfl (by decide)), kit_ref X.t_NoPower X.t_NoName (nd_ne X.ne (i := 5) (j := 7) rfl rfl (by decide)) (nd_ne X.ne (i := 5) (j := 0) rfl rfl (by decide)), kit_ref X.t_NoPower X.t_NoPartner (nd_ne X.ne (i := 6) (j := 7) rfl rfl (by decide)) (nd_ne X.ne (i := 6) (j := 0) rfl rfl (by decide)), kit_same, kit_ref X.t_NoPower X.t_NoRing (nd_ne X.ne (i := 8) (j := 7) rfl rfl (by decide)) (nd_ne X.ne (i := 8) (j := 0) rfl rfl (by decide)), kit_ref X.t_NoPower X.t_NoRise (nd_ne X.ne (i := 9) (j := 7) rfl rfl (by decide)) (nd_ne X.ne (i := 9) (j := 0) rfl rfl (by decide)), kit_ref X.t_NoPower X.t_NoRow (nd_ne X.ne (i := 10) (j := 7) rfl rfl (by decide)) (nd_ne X.ne (i := 10) (j := 0) rfl rfl (by decide)), kit_ref X.t_NoPower X.t_NoStair (nd_ne X.ne (i := 11) (j := 7) rfl rfl (by decide)) (nd_ne X.ne (i := 11) (j := 0) rfl rfl (by decide)), kit_ref X.t_NoPower X.t_NoSteps (nd_ne X.ne (i := 12) (j := 7) rfl rfl (by decide)) (nd_ne X.ne (i := 12) (j := 0) rfl rfl (by decide)), kit_ref X.t_NoPower X.t_NoText (nd_ne X.ne (i := 13) (j := 7) rfl rfl (by decide)) (nd_ne X.ne (i := 13) (j := 0) rfl rfl (by decide)), kit_ref X.t_NoPower X.t_NoWalker (nd_ne X.ne (i := 14) (j := 7) rfl rfl (by decide)) (nd_ne X.ne (i := 14) (j := 0) rfl rfl (by decide)), kit_ref X.t_NoPower X.t_NothingLeft (nd_ne X.ne (i := 15) (j := 7) rfl rfl (by decide)) (nd_ne X.ne (i := 15) (j := 0) rfl rfl (by decide)), kit_ref X.t_NoPower X.t_TooMany (nd_ne X.ne (i := 16) (j := 7) rfl rfl (by decide)) (nd_ne X.ne (i := 16) (j := 0) rfl rfl (by decide))⟩
  | 7, n =>
    cases n
    refine ⟨by decide, X.t_NoRing, kit_ref X.t_NoRing X.t_NoBounds (nd_ne X.ne (i := 1) (j := 8) rfl rfl (by decide)) (nd_ne X.ne (i := 1) (j := 0) rfl rfl (by decide)), kit_ref X.t_NoRing X.t_NoCoins (nd_ne X.ne (i := 2) (j := 8) rfl rfl (by decide)) (nd_ne X.ne (i := 2) (j := 0) rfl rfl (by decide)), kit_ref X.t_NoRing X.t_NoCount (nd_ne X.ne (i := 3) (j := 8) rfl rfl (by decide)) (nd_ne X.ne (i := 3) (j := 0) rfl rfl (by decide)), kit_ref X.t_NoRing X.t_NoEntry (nd_ne X.ne (i := 4) (j := 8) rfl rfl (by decide)) (nd_ne X.ne (i := 4) (j := 0) rfl rfl (by decide)), kit_ref X.t_NoRing X.t_NoName (nd_ne X.ne (i := 5) (j := 8) rfl rfl (by decide)) (nd_ne X.ne (i := 5) (j := 0) rfl rfl (by decide)), kit_ref X.t_NoRing X.t_NoPartner (nd_ne X.ne (i := 6) (j := 8) rfl rfl (by decide)) (nd_ne X.ne (i := 6) (j := 0) rfl rfl (by decide)), kit_ref X.t_NoRing X.t_NoPower (nd_ne X.ne (i := 7) (j := 8) rfl rfl (by decide)) (nd_ne X.ne (i := 7) (j := 0) rfl rfl (by decide)), kit_same, kit_ref X.t_NoRing X.t_NoRise (nd_ne X.ne (i := 9) (j := 8) rfl rfl (by decide)) (nd_ne X.ne (i := 9) (j := 0) rfl rfl (by decide)), kit_ref X.t_NoRing X.t_NoRow (nd_ne X.ne (i := 10) (j := 8) rfl rfl (by decide)) (nd_ne X.ne (i := 10) (j := 0) rfl rfl (by decide)), kit_ref X.t_NoRing X.t_NoStair (nd_ne X.ne (i := 11) (j := 8) rfl rfl (by decide)) (nd_ne X.ne (i := 11) (j := 0) rfl rfl (by decide)), kit_ref X.t_NoRing X.t_NoSteps (nd_ne X.ne (i := 12) (j := 8) rfl rfl (by decide)) (nd_ne X.ne (i := 12) (j := 0) rfl rfl (by decide)), kit_ref X.t_NoRing X.t_NoText (nd_ne X.ne (i := 13) (j := 8) rfl rfl (by decide)) (nd_ne X.ne (i := 13) (j := 0) rfl rfl (by decide)), kit_ref X.t_NoRing X.t_NoWalker (nd_ne X.ne (i := 14) (j := 8) rfl rfl (by decide)) (nd_ne X.ne (i := 14) (j := 0) rfl rfl (by decide)), kit_ref X.t_NoRing X.t_NothingLeft (nd_ne X.ne (i := 15) (j := 8) rfl rfl (by decide)) (nd_ne X.ne (i := 15) (j := 0) rfl rfl (by decide)), kit_ref X.t_NoRing X.t_TooMany (nd_ne X.ne (i := 16) (j := 8) rfl rfl (by decide)) (nd_ne X.ne (i := 16) (j := 0) rfl rfl (by decide))⟩
  | 8, n =>
    cases n
    refine ⟨by decide, X.t_NoRise, kit_ref X.t_NoRise X.t_NoBounds (nd_ne X.ne (i := 1) (j := 9) rfl rfl (by decide)) (nd_ne X.ne (i := 1) (j := 0) rfl rfl (by decide)), kit_ref X.t_NoRise X.t_NoCoins (nd_ne X.ne (i := 2) (j := 9) rfl rfl (by decide)) (nd_ne X.ne (i := 2) (j := 0) rfl rfl (by decide)), kit_ref X.t_NoRise X.t_NoCount (nd_ne X.ne (i := 3) (j := 9) rfl rfl (by decide)) (nd_ne X.ne (i := 3) (j := 0) rfl rfl (by decide)), kit_ref X.t_NoRise X.t_NoEntry (nd_ne X.ne (i := 4) (j := 9) rfl rfl (by decide)) (nd_ne X.ne (i := 4) (j := 0) rfl rfl (by decide)), kit_ref X.t_NoRise X.t_NoName (nd_ne X.ne (i := 5) (j := 9) rfl rfl (by decide)) (nd_ne X.ne (i := 5) (j := 0) rfl rfl (by decide)), kit_ref X.t_NoRise X.t_NoPartner (nd_ne X.ne (i := 6) (j := 9) rfl rfl (by decide)) (nd_ne X.ne (i := 6) (j := 0) rfl rfl (by decide)), kit_ref X.t_NoRise X.t_NoPower (nd_ne X.ne (i := 7) (j := 9) rfl rfl (by decide)) (nd_ne X.ne (i := 7) (j := 0) rfl rfl (by decide)), kit_ref X.t_NoRise X.t_NoRing (nd_ne X.ne (i := 8) (j := 9) rfl rfl (by decide)) (nd_ne X.ne (i := 8) (j := 0) rfl rfl (by decide)), kit_same, kit_ref X.t_NoRise X.t_NoRow (nd_ne X.ne (i := 10) (j := 9) rfl rfl (by decide)) (nd_ne X.ne (i := 10) (j := 0) rfl rfl (by decide)), kit_ref X.t_NoRise X.t_NoStair (nd_ne X.ne (i := 11) (j := 9) rfl rfl (by decide)) (nd_ne X.ne (i := 11) (j := 0) rfl rfl (by decide)), kit_ref X.t_NoRise X.t_NoSteps (nd_ne X.ne (i := 12) (j := 9) rfl rfl (by decide)) (nd_ne X.ne (i := 12) (j := 0) rfl rfl (by decide)), kit_ref X.t_NoRise X.t_NoText (nd_ne X.ne (i := 13) (j := 9) rfl rfl (by decide)) (nd_ne X.ne (i := 13) (j := 0) rfl rfl (by decide)), kit_ref X.t_NoRise X.t_NoWalker (nd_ne X.ne (i := 14) (j := 9) rfl rfl (by decide)) (nd_ne X.ne (i := 14) (j := 0) rfl rfl (by decide)), kit_ref X.t_NoRise X.t_NothingLeft (nd_ne X.ne (i := 15) (j := 9) rfl rfl (by decide)) (nd_ne X.ne (i := 15) (j := 0) rfl rfl (by decide)), kit_ref X.t_NoRise X.t_TooMany (nd_ne X.ne (i := 16) (j := 9) rfl rfl (by decide)) (nd_ne X.ne (i := 16) (j := 0) rfl rfl (by decide))⟩
  | 9, n =>
    cases n
    refine ⟨by decide, X.t_NoRow, kit_ref X.t_NoRow X.t_NoBounds (nd_ne X.ne (i := 1) (j := 10) rfl rfl (by decide)) (nd_ne X.ne (i := 1) (j := 0) rfl rfl (by decide)), kit_ref X.t_NoRow X.t_NoCoins (nd_ne X.ne (i := 2) (j := 10) rfl rfl (by decide)) (nd_ne X.ne (i := 2) (j := 0) rfl rfl (by decide)), kit_ref X.t_NoRow X.t_NoCount (nd_ne X.ne (i := 3) (j := 10) rfl rfl (by decide)) (nd_ne X.ne (i := 3) (j := 0) rfl rfl (by decide)), kit_ref X.t_NoRow X.t_NoEntry (nd_ne X.ne (i := 4) (j := 10) rfl rfl (by decide)) (nd_ne X.ne (i := 4) (j := 0) rfl rfl (by decide)), kit_ref X.t_NoRow X.t_NoName (nd_ne X.ne (i := 5) (j := 10) rfl rfl (by decide)) (nd_ne X.ne (i := 5) (j := 0) rfl rfl (by decide)), kit_ref X.t_NoRow X.t_NoPartner (nd_ne X.ne (i := 6) (j := 10) rfl rfl (by decide)) (nd_ne X.ne (i := 6) (j := 0) rfl rfl (by decide)), kit_ref X.t_NoRow X.t_NoPower (nd_ne X.ne (i := 7) (j := 10) rfl rfl (by decide)) (nd_ne X.ne (i := 7) (j := 0) rfl rfl (by decide)), kit_ref X.t_NoRow X.t_NoRing (nd_ne X.ne (i := 8) (j := 10) rfl rfl (by decide)) (nd_ne X.ne (i := 8) (j := 0) rfl rfl (by decide)), kit_ref X.t_NoRow X.t_NoRise (nd_ne X.ne (i := 9) (j := 10) rfl rfl (by decide)) (nd_ne X.ne (i := 9) (j := 0) rfl rfl (by decide)), kit_same, kit_ref X.t_NoRow X.t_NoStair (nd_ne X.ne (i := 11) (j := 10) rfl rfl (by decide)) (nd_ne X.ne (i := 11) (j := 0) rfl rfl (by decide)), kit_ref X.t_NoRow X.t_NoSteps (nd_ne X.ne (i := 12) (j := 10) rfl rfl (by decide)) (nd_ne X.ne (i := 12) (j := 0) rfl rfl (by decide)), kit_ref X.t_NoRow X.t_NoText (nd_ne X.ne (i := 13) (j := 10) rfl rfl (by decide)) (nd_ne X.ne (i := 13) (j := 0) rfl rfl (by decide)), kit_ref X.t_NoRow X.t_NoWalker (nd_ne X.ne (i := 14) (j := 10) rfl rfl (by decide)) (nd_ne X.ne (i := 14) (j := 0) rfl rfl (by decide)), kit_ref X.t_NoRow X.t_NothingLeft (nd_ne X.ne (i := 15) (j := 10) rfl rfl (by decide)) (nd_ne X.ne (i := 15) (j := 0) rfl rfl (by decide)), kit_ref X.t_NoRow X.t_TooMany (nd_ne X.ne (i := 16) (j := 10) rfl rfl (by decide)) (nd_ne X.ne (i := 16) (j := 0) rfl rfl (by decide))⟩
  | 10, n =>
    cases n
    refine ⟨by decide, X.t_NoStair, kit_ref X.t_NoStair X.t_NoBounds (nd_ne X.ne (i := 1) (j := 11) rfl rfl (by decide)) (nd_ne X.ne (i := 1) (j := 0) rfl rfl (by decide)), kit_ref X.t_NoStair X.t_NoCoins (nd_ne X.ne (i := 2) (j := 11) rfl rfl (by decide)) (nd_ne X.ne (i := 2) (j := 0) rfl rfl (by decide)), kit_ref X.t_NoStair X.t_NoCount (nd_ne X.ne (i := 3) (j := 11) rfl rfl (by decide)) (nd_ne X.ne (i := 3) (j := 0) rfl rfl (by decide)), kit_ref X.t_NoStair X.t_NoEntry (nd_ne X.ne (i := 4) (j := 11) rfl rfl (by decide)) (nd_ne X.ne (i := 4) (j := 0) rfl rfl (by decide)), kit_ref X.t_NoStair X.t_NoName (nd_ne X.ne (i := 5) (j := 11) rfl rfl (by decide)) (nd_ne X.ne (i := 5) (j := 0) rfl rfl (by decide)), kit_ref X.t_NoStair X.t_NoPartner (nd_ne X.ne (i := 6) (j := 11) rfl rfl (by decide)) (nd_ne X.ne (i := 6) (j := 0) rfl rfl (by decide)), kit_ref X.t_NoStair X.t_NoPower (nd_ne X.ne (i := 7) (j := 11) rfl rfl (by decide)) (nd_ne X.ne (i := 7) (j := 0) rfl rfl (by decide)), kit_ref X.t_NoStair X.t_NoRing (nd_ne X.ne (i := 8) (j := 11) rfl rfl (by decide)) (nd_ne X.ne (i := 8) (j := 0) rfl rfl (by decide)), kit_ref X.t_NoStair X.t_NoRise (nd_ne X.ne (i := 9) (j := 11) rfl rfl (by decide)) (nd_ne X.ne (i := 9) (j := 0) rfl rfl (by decide)), kit_ref X.t_NoStair X.t_NoRow (nd_ne X.ne (i := 10) (j := 11) rfl rfl (by decide)) (nd_ne X.ne (i := 10) (j := 0) rfl rfl (by decide)), kit_same, kit_ref X.t_NoStair X.t_NoSteps (nd_ne X.ne (i := 12) (j := 11) rfl rfl (by decide)) (nd_ne X.ne (i := 12) (j := 0) rfl rfl (by decide)), kit_ref X.t_NoStair X.t_NoText (nd_ne X.ne (i := 13) (j := 11) rfl rfl (by decide)) (nd_ne X.ne (i := 13) (j := 0) rfl rfl (by decide)), kit_ref X.t_NoStair X.t_NoWalker (nd_ne X.ne (i := 14) (j := 11) rfl rfl (by decide)) (nd_ne X.ne (i := 14) (j := 0) rfl rfl (by decide)), kit_ref X.t_NoStair X.t_NothingLeft (nd_ne X.ne (i := 15) (j := 11) rfl rfl (by decide)) (nd_ne X.ne (i := 15) (j := 0) rfl rfl (by decide)), kit_ref X.t_NoStair X.t_TooMany (nd_ne X.ne (i := 16) (j := 11) rfl rfl (by decide)) (nd_ne X.ne (i := 16) (j := 0) rfl rfl (by decide))⟩
  | 11, n =>
    cases n
    refine ⟨by decide, X.t_NoSteps, kit_ref X.t_NoSteps X.t_NoBounds (nd_ne X.ne (i := 1) (j := 12) rfl rfl (by decide)) (nd_ne X.ne (i := 1) (j := 0) rfl rfl (by decide)), kit_ref X.t_NoSteps X.t_NoCoins (nd_ne X.ne (i := 2) (j := 12) rfl rfl (by decide)) (nd_ne X.ne (i := 2) (j := 0) rfl rfl (by decide)), kit_ref X.t_NoSteps X.t_NoCount (nd_ne X.ne (i := 3) (j := 12) rfl rfl (by decide)) (nd_ne X.ne (i := 3) (j := 0) rfl rfl (by decide)), kit_ref X.t_NoSteps X.t_NoEntry (nd_ne X.ne (i := 4) (j := 12) rfl rfl (by decide)) (nd_ne X.ne (i := 4) (j := 0) rfl rfl (by decide)), kit_ref X.t_NoSteps X.t_NoName (nd_ne X.ne (i := 5) (j := 12) rfl rfl (by decide)) (nd_ne X.ne (i := 5) (j := 0) rfl rfl (by decide)), kit_ref X.t_NoSteps X.t_NoPartner (nd_ne X.ne (i := 6) (j := 12) rfl rfl (by decide)) (nd_ne X.ne (i := 6) (j := 0) rfl rfl (by decide)), kit_ref X.t_NoSteps X.t_NoPower (nd_ne X.ne (i := 7) (j := 12) rfl rfl (by decide)) (nd_ne X.ne (i := 7) (j := 0) rfl rfl (by decide)), kit_ref X.t_NoSteps X.t_NoRing (nd_ne X.ne (i := 8) (j := 12) rfl rfl (by decide)) (nd_ne X.ne (i := 8) (j := 0) rfl rfl (by decide)), kit_ref X.t_NoSteps X.t_NoRise (nd_ne X.ne (i := 9) (j := 12) rfl rfl (by decide)) (nd_ne X.ne (i := 9) (j := 0) rfl rfl (by decide)), kit_ref X.t_NoSteps X.t_NoRow (nd_ne X.ne (i := 10) (j := 12) rfl rfl (by decide)) (nd_ne X.ne (i := 10) (j := 0) rfl rfl (by decide)), kit_ref X.t_NoSteps X.t_NoStair (nd_ne X.ne (i := 11) (j := 12) rfl rfl (by decide)) (nd_ne X.ne (i := 11) (j := 0) rfl rfl (by decide)), kit_same, kit_ref X.t_NoSteps X.t_NoText (nd_ne X.ne (i := 13) (j := 12) rfl rfl (by decide)) (nd_ne X.ne (i := 13) (j := 0) rfl rfl (by decide)), kit_ref X.t_NoSteps X.t_NoWalker (nd_ne X.ne (i := 14) (j := 12) rfl rfl (by decide)) (nd_ne X.ne (i := 14) (j := 0) rfl rfl (by decide)), kit_ref X.t_NoSteps X.t_NothingLeft (nd_ne X.ne (i := 15) (j := 12) rfl rfl (by decide)) (nd_ne X.ne (i := 15) (j := 0) rfl rfl (by decide)), kit_ref X.t_NoSteps X.t_TooMany (nd_ne X.ne (i := 16) (j := 12) rfl rfl (by decide)) (nd_ne X.ne (i := 16) (j := 0) rfl rfl (by decide))⟩
  | 12, n =>
    cases n
    refine ⟨by decide, X.t_NoText, kit_ref X.t_NoText X.t_NoBounds (nd_ne X.ne (i := 1) (j := 13) rfl rfl (by decide)) (nd_ne X.ne (i := 1) (j := 0) rfl rfl (by decide)), kit_ref X.t_NoText X.t_NoCoins (nd_ne X.ne (i := 2) (j := 13) rfl rfl (by decide)) (nd_ne X.ne (i := 2) (j := 0) rfl rfl (by decide)), kit_ref X.t_NoText X.t_NoCount (nd_ne X.ne (i := 3) (j := 13) rfl rfl (by decide)) (nd_ne X.ne (i := 3) (j := 0) rfl rfl (by decide)), kit_ref X.t_NoText X.t_NoEntry (nd_ne X.ne (i := 4) (j := 13) rfl rfl (by decide)) (nd_ne X.ne (i := 4) (j := 0) rfl rfl (by decide)), kit_ref X.t_NoText X.t_NoName (nd_ne X.ne (i := 5) (j := 13) rfl rfl (by decide)) (nd_ne X.ne (i := 5) (j := 0) rfl rfl (by decide)), kit_ref X.t_NoText X.t_NoPartner (nd_ne X.ne (i := 6) (j := 13) rfl rfl (by decide)) (nd_ne X.ne (i := 6) (j := 0) rfl rfl (by decide)), kit_ref X.t_NoText X.t_NoPower (nd_ne X.ne (i := 7) (j := 13) rfl rfl (by decide)) (nd_ne X.ne (i := 7) (j := 0) rfl rfl (by decide)), kit_ref X.t_NoText X.t_NoRing (nd_ne X.ne (i := 8) (j := 13) rfl rfl (by decide)) (nd_ne X.ne (i := 8) (j := 0) rfl rfl (by decide)), kit_ref X.t_NoText X.t_NoRise (nd_ne X.ne (i := 9) (j := 13) rfl rfl (by decide)) (nd_ne X.ne (i := 9) (j := 0) rfl rfl (by decide)), kit_ref X.t_NoText X.t_NoRow (nd_ne X.ne (i := 10) (j := 13) rfl rfl (by decide)) (nd_ne X.ne (i := 10) (j := 0) rfl rfl (by decide)), kit_ref X.t_NoText X.t_NoStair (nd_ne X.ne (i := 11) (j := 13) rfl rfl (by decide)) (nd_ne X.ne (i := 11) (j := 0) rfl rfl (by decide)), kit_ref X.t_NoText X.t_NoSteps (nd_ne X.ne (i := 12) (j := 13) rfl rfl (by decide)) (nd_ne X.ne (i := 12) (j := 0) rfl rfl (by decide)), kit_same, kit_ref X.t_NoText X.t_NoWalker (nd_ne X.ne (i := 14) (j := 13) rfl rfl (by decide)) (nd_ne X.ne (i := 14) (j := 0) rfl rfl (by decide)), kit_ref X.t_NoText X.t_NothingLeft (nd_ne X.ne (i := 15) (j := 13) rfl rfl (by decide)) (nd_ne X.ne (i := 15) (j := 0) rfl rfl (by decide)), kit_ref X.t_NoText X.t_TooMany (nd_ne X.ne (i := 16) (j := 13) rfl rfl (by decide)) (nd_ne X.ne (i := 16) (j := 0) rfl rfl (by decide))⟩
  | 13, n =>
    cases n
    refine ⟨by decide, X.t_NoWalker, kit_ref X.t_NoWalker X.t_NoBounds (nd_ne X.ne (i := 1) (j := 14) rfl rfl (by decide)) (nd_ne X.ne (i := 1) (j := 0) rfl rfl (by decide)), kit_ref X.t_NoWalker X.t_NoCoins (nd_ne X.ne (i := 2) (j := 14) rfl rfl (by decide)) (nd_ne X.ne (i := 2) (j := 0) rfl rfl (by decide)), kit_ref X.t_NoWalker X.t_NoCount (nd_ne X.ne (i := 3) (j := 14) rfl rfl (by decide)) (nd_ne X.ne (i := 3) (j := 0) rfl rfl (by decide)), kit_ref X.t_NoWalker X.t_NoEntry (nd_ne X.ne (i := 4) (j := 14) rfl rfl (by decide)) (nd_ne X.ne (i := 4) (j := 0) rfl rfl (by decide)), kit_ref X.t_NoWalker X.t_NoName (nd_ne X.ne (i := 5) (j := 14) rfl rfl (by decide)) (nd_ne X.ne (i := 5) (j := 0) rfl rfl (by decide)), kit_ref X.t_NoWalker X.t_NoPartner (nd_ne X.ne (i := 6) (j := 14) rfl rfl (by decide)) (nd_ne X.ne (i := 6) (j := 0) rfl rfl (by decide)), kit_ref X.t_NoWalker X.t_NoPower (nd_ne X.ne (i := 7) (j := 14) rfl rfl (by decide)) (nd_ne X.ne (i := 7) (j := 0) rfl rfl (by decide)), kit_ref X.t_NoWalker X.t_NoRing (nd_ne X.ne (i := 8) (j := 14) rfl rfl (by decide)) (nd_ne X.ne (i := 8) (j := 0) rfl rfl (by decide)), kit_ref X.t_NoWalker X.t_NoRise (nd_ne X.ne (i := 9) (j := 14) rfl rfl (by decide)) (nd_ne X.ne (i := 9) (j := 0) rfl rfl (by decide)), kit_ref X.t_NoWalker X.t_NoRow (nd_ne X.ne (i := 10) (j := 14) rfl rfl (by decide)) (nd_ne X.ne (i := 10) (j := 0) rfl rfl (by decide)), kit_ref X.t_NoWalker X.t_NoStair (nd_ne X.ne (i := 11) (j := 14) rfl rfl (by decide)) (nd_ne X.ne (i := 11) (j := 0) rfl rfl (by decide)), kit_ref X.t_NoWalker X.t_NoSteps (nd_ne X.ne (i := 12) (j := 14) rfl rfl (by decide)) (nd_ne X.ne (i := 12) (j := 0) rfl rfl (by decide)), kit_ref X.t_NoWalker X.t_NoText (nd_ne X.ne (i := 13) (j := 14) rfl rfl (by decide)) (nd_ne X.ne (i := 13) (j := 0) rfl rfl (by decide)), kit_same, kit_ref X.t_NoWalker X.t_NothingLeft (nd_ne X.ne (i := 15) (j := 14) rfl rfl (by decide)) (nd_ne X.ne (i := 15) (j := 0) rfl rfl (by decide)), kit_ref X.t_NoWalker X.t_TooMany (nd_ne X.ne (i := 16) (j := 14) rfl rfl (by decide)) (nd_ne X.ne (i := 16) (j := 0) rfl rfl (by decide))⟩
  | 14, n =>
    cases n
    refine ⟨by decide, X.t_NothingLeft, kit_ref X.t_NothingLeft X.t_NoBounds (nd_ne X.ne (i := 1) (j := 15) rfl rfl (by decide)) (nd_ne X.ne (i := 1) (j := 0) rfl rfl (by decide)), kit_ref X.t_NothingLeft X.t_NoCoins (nd_ne X.ne (i := 2) (j := 15) rfl rfl (by decide)) (nd_ne X.ne (i := 2) (j := 0) rfl rfl (by decide)), kit_ref X.t_NothingLeft X.t_NoCount (nd_ne X.ne (i := 3) (j := 15) rfl rfl (by decide)) (nd_ne X.ne (i := 3) (j := 0) rfl rfl (by decide)), kit_ref X.t_NothingLeft X.t_NoEntry (nd_ne X.ne (i := 4) (j := 15) rfl rfl (by decide)) (nd_ne X.ne (i := 4) (j := 0) rfl rfl (by decide)), kit_ref X.t_NothingLeft X.t_NoName (nd_ne X.ne (i := 5) (j := 15) rfl rfl (by decide)) (nd_ne X.ne (i := 5) (j := 0) rfl rfl (by decide)), kit_ref X.t_NothingLeft X.t_NoPartner (nd_ne X.ne (i := 6) (j := 15) rfl rfl (by decide)) (nd_ne X.ne (i := 6) (j := 0) rfl rfl (by decide)), kit_ref X.t_NothingLeft X.t_NoPower (nd_ne X.ne (i := 7) (j := 15) rfl rfl (by decide)) (nd_ne X.ne (i := 7) (j := 0) rfl rfl (by decide)), kit_ref X.t_NothingLeft X.t_NoRing (nd_ne X.ne (i := 8) (j := 15) rfl rfl (by decide)) (nd_ne X.ne (i := 8) (j := 0) rfl rfl (by decide)), kit_ref X.t_NothingLeft X.t_NoRise (nd_ne X.ne (i := 9) (j := 15) rfl rfl (by decide)) (nd_ne X.ne (i := 9) (j := 0) rfl rfl (by decide)), kit_ref X.t_NothingLeft X.t_NoRow (nd_ne X.ne (i := 10) (j := 15) rfl rfl (by decide)) (nd_ne X.ne (i := 10) (j := 0) rfl rfl (by decide)), kit_ref X.t_NothingLeft X.t_NoStair (nd_ne X.ne (i := 11) (j := 15) rfl rfl (by decide)) (nd_ne X.ne (i := 11) (j := 0) rfl rfl (by decide)), kit_ref X.t_NothingLeft X.t_NoSteps (nd_ne X.ne (i := 12) (j := 15) rfl rfl (by decide)) (nd_ne X.ne (i := 12) (j := 0) rfl rfl (by decide)), kit_ref X.t_NothingLeft X.t_NoText (nd_ne X.ne (i := 13) (j := 15) rfl rfl (by decide)) (nd_ne X.ne (i := 13) (j := 0) rfl rfl (by decide)), kit_ref X.t_NothingLeft X.t_NoWalker (nd_ne X.ne (i := 14) (j := 15) rfl rfl (by decide)) (nd_ne X.ne (i := 14) (j := 0) rfl rfl (by decide)), kit_same, kit_ref X.t_NothingLeft X.t_TooMany (nd_ne X.ne (i := 16) (j := 15) rfl rfl (by decide)) (nd_ne X.ne (i := 16) (j := 0) rfl rfl (by decide))⟩
  | 15, n =>
    cases n
    refine ⟨by decide, X.t_TooMany, kit_ref X.t_TooMany X.t_NoBounds (nd_ne X.ne (i := 1) (j := 16) rfl rfl (by decide)) (nd_ne X.ne (i := 1) (j := 0) rfl rfl (by decide)), kit_ref X.t_TooMany X.t_NoCoins (nd_ne X.ne (i := 2) (j := 16) rfl rfl (by decide)) (nd_ne X.ne (i := 2) (j := 0) rfl rfl (by decide)), kit_ref X.t_TooMany X.t_NoCount (nd_ne X.ne (i := 3) (j := 16) rfl rfl (by decide)) (nd_ne X.ne (i := 3) (j := 0) rfl rfl (by decide)), kit_ref X.t_TooMany X.t_NoEntry (nd_ne X.ne (i := 4) (j := 16) rfl rfl (by decide)) (nd_ne X.ne (i := 4) (j := 0) rfl rfl (by decide)), kit_ref X.t_TooMany X.t_NoName (nd_ne X.ne (i := 5) (j := 16) rfl rfl (by decide)) (nd_ne X.ne (i := 5) (j := 0) rfl rfl (by decide)), kit_ref X.t_TooMany X.t_NoPartner (nd_ne X.ne (i := 6) (j := 16) rfl rfl (by decide)) (nd_ne X.ne (i := 6) (j := 0) rfl rfl (by decide)), kit_ref X.t_TooMany X.t_NoPower (nd_ne X.ne (i := 7) (j := 16) rfl rfl (by decide)) (nd_ne X.ne (i := 7) (j := 0) rfl rfl (by decide)), kit_ref X.t_TooMany X.t_NoRing (nd_ne X.ne (i := 8) (j := 16) rfl rfl (by decide)) (nd_ne X.ne (i := 8) (j := 0) rfl rfl (by decide)), kit_ref X.t_TooMany X.t_NoRise (nd_ne X.ne (i := 9) (j := 16) rfl rfl (by decide)) (nd_ne X.ne (i := 9) (j := 0) rfl rfl (by decide)), kit_ref X.t_TooMany X.t_NoRow (nd_ne X.ne (i := 10) (j := 16) rfl rfl (by decide)) (nd_ne X.ne (i := 10) (j := 0) rfl rfl (by decide)), kit_ref X.t_TooMany X.t_NoStair (nd_ne X.ne (i := 11) (j := 16) rfl rfl (by decide)) (nd_ne X.ne (i := 11) (j := 0) rfl rfl (by decide)), kit_ref X.t_TooMany X.t_NoSteps (nd_ne X.ne (i := 12) (j := 16) rfl rfl (by decide)) (nd_ne X.ne (i := 12) (j := 0) rfl rfl (by decide)), kit_ref X.t_TooMany X.t_NoText (nd_ne X.ne (i := 13) (j := 16) rfl rfl (by decide)) (nd_ne X.ne (i := 13) (j := 0) rfl rfl (by decide)), kit_ref X.t_TooMany X.t_NoWalker (nd_ne X.ne (i := 14) (j := 16) rfl rfl (by decide)) (nd_ne X.ne (i := 14) (j := 0) rfl rfl (by decide)), kit_ref X.t_TooMany X.t_NothingLeft (nd_ne X.ne (i := 15) (j := 16) rfl rfl (by decide)) (nd_ne X.ne (i := 15) (j := 0) rfl rfl (by decide)), kit_same⟩
  | i + 16, n => simp at n
theorem hotc_of {X : Cx} {A : Around} {p : Addr × Obj} (hot : L2H.Hot1 A p) (h : X.A.handled = A.handled) (hp : p ∈ X.pn) : L2H.HotC X := ⟨p, ⟨h.trans hot.1, hot.2⟩, hp⟩
theorem pg_tupHK {X : Cx} {K : PySem.W.Frag} {es : List Expr} {k : Nat} {t : TGs} {n : Nat} {pos : Pos} (hc : L2H.HotC X) (h : PGs X es t) (hK : X.K = K := by rfl)
    (hn : (assignEach es X.env).length = n := by rfl) (hst : (assignEach es X.env).findIdx? (·.1) = none := by rfl) : PG X (.Tuple es k pos) (gTup K n t) := hK ▸ pg_tupH hc h hn hst
theorem cxH_K {CX : CXT} {P : Program} {w : World} {K : PySem.W.Frag} {mg : Str → Option Value} {base : Heap} {N : List Str} {qual : Str} {scope : Scope} {f : Addr} {cd : Value} {A : Around} {outer : List Env} {s : Shared} {H : Hp} {E : XK} {p : Addr × Obj} : (L2H.cxH CX P w K mg base N qual scope f cd A outer s H E p).K = K := rfl
def kindW : List Str := ["NoBounds", "NoCoins", "NoCount", "NoEntry", "NoName", "NoPartner", "NoPower", "NoRing", "NoRise", "NoRow", "NoStair", "NoSteps", "NoText", "NoWalker", "NothingLeft", "TooMany", "+"]
def kindB (i : Nat) : List Bool := (List.range 16).map (fun j => decide (i = j)) ++ [true]
theorem kind_txt : ∀ i, i < 16 → Txt.join "" (((kindW.zip (kindB i)).filter (·.2)).map (·.1)) = kindT i := by decide +kernel
theorem kind_len : ∀ i, i < 16 → ((((kindW.zip (kindB i)).filter (·.2)).map (·.1)).map (·.length)).sum + (((kindW.zip (kindB i)).filter (·.2)).map (·.1)).length * (Str.ofString "").length ≤ 16777216 := by decide +kernel
theorem r_neSS {a : Str} {H : Hp} {Q : VK} (k : Q (.bl false) H) : rNe (.str a) (.str a) H Q := ⟨rfl, by rw [decide_eq_true rfl]; exact k⟩
theorem r_eqSS {a : Str} {H : Hp} {Q : VK} (k : Q (.bl true) H) : rEq (.str a) (.str a) H Q := ⟨rfl, by rw [decide_eq_true rfl]; exact k⟩
theorem r_neSD {a b : Str} (h : a ≠ b) {H : Hp} {Q : VK} (k : Q (.bl true) H) : rNe (.str a) (.str b) H Q := ⟨rfl, by rw [decide_eq_false (fun z => h (V.str.inj z))]; exact k⟩
theorem r_eqSD {a b : Str} (h : a ≠ b) {H : Hp} {Q : VK} (k : Q (.bl false) H) : rEq (.str a) (.str b) H Q := ⟨rfl, by rw [decide_eq_false (fun z => h (V.str.inj z))]; exact k⟩
theorem eqv_ns (z : Str) : PyData.eqv (.tuple [.none, .str z]) (.tuple [.none, .str z]) = true := by
  show (PyData.eqv .none .none && (PyData.eqv (.str z) (.str z) && true)) = true
  show (true && ((z == z) && true)) = true
  rw [beq_self_eq_true]
  rfl
theorem dp_ns {K : PySem.W.Frag} {H : Hp} {p : Addr} {z : Str} (h : H p = some (.tup [.non, .str z])) : Dp K H (.ref p) (.tuple [.none, .str z]) := .tup (SqT.of h) (.cons .non (.cons (.str z) .nil))
theorem r_neNS {K : PySem.W.Frag} {H : Hp} {Q : VK} {p q : Addr} {z : Str} (h : H p = some (.tup [.non, .str z])) (h' : H q = some (.tup [.non, .str z])) (k : Q (.bl false) H) (hs : SeqAt.shaped (.tuple [.none, .str z]) = true := by decide +kernel) : rNeD K (.ref p) (.ref q) H Q :=
  r_neD (dp_ns h) (dp_ns h') hs hs (by rw [eqv_ns]; exact k)
/-- False in a list of Trues -/
theorem r_inBF {K : PySem.W.Frag} {H : Hp} {Q : VK} {p : Addr} {n : Nat} (h : SqL K H p (List.replicate n (.bl true))) (k : Q (.bl false) H) : rIn K false (.bl false) (.ref p) H Q := by
  refine ⟨p, _, rfl, .inl h, rfl, ?_, ?_⟩
  · rw [List.all_eq_true]
    intro x hx
    rw [List.eq_of_mem_replicate hx]
    rfl
  · have e : inV (.bl false) (List.replicate n (V.bl true)) = false := by
      unfold inV
      rw [List.any_eq_false]
      intro x hx
      rw [List.eq_of_mem_replicate hx]
      decide
    rw [e]
    exact k
/-- a class that is raised, and what is told of it -/
def KdK (K : PySem.W.Frag) (c : Cl) (cls : Value) (z : Str) : Prop := ∃ i D, Nth c i D ∧ cls = .ref D ∧ z = kindT i ∧ XD K D
theorem kd_mk {K : PySem.W.Frag} {c : Cl} {D : Addr} (i : Nat) (d : XD K D) (n : Nth c i D) : KdK K c (.ref D) (kindT i) := ⟨i, D, n, rfl, rfl, d⟩
theorem r_isE {K : PySem.W.Frag} {D a C : Addr} {b : Bool} {H : Hp} {Q : VK} (e : PySem.W.kitOne K (.ref D) (.ref C) = some b) (k : Q (.bl b) H) : rIsE K D a [.ref a, .ref C] H Q :=
  ⟨.ref C, .ref C, b, rfl, fun u r => r, e, k⟩
theorem r_isEV {K : PySem.W.Frag} {D a : Addr} {S : Addr} {H : Hp} {Q : VK} (t : CT K D (.ref S :: vE)) (k : Q (.bl true) H) : rIsE K D a [.ref a, .ty "ValueError"] H Q :=
  ⟨.ty "ValueError", .type "ValueError", true, rfl, fun u r => r, kit_val t, k⟩
/-- [w for w, b in zip(words, flags) if b] -/
theorem lc_zipF {K : PySem.W.Frag} {σ : L2.St} {H : Hp} {Q : VK} {te : TE} {tt : TT} {a b : Addr} {ws : List Str} {bs : List Bool} {j1 j2 : Nat} {vs : List Nat} (ha : SqL K H a (ws.map V.str)) (hb : SqL K H b (bs.map V.bl)) (hl : ws.length = bs.length) (hn : ws.length ≤ 1000)
    (hw : ∀ x y, wipe (((wipe σ vs).set j1 (some x)).set j2 (some y)) vs = wipe σ vs)
    (ht : ∀ w f, PureT tt (((wipe σ vs).set j1 (some (.str w))).set j2 (some (.bl f))) H f) (he : ∀ w f, PureE te (((wipe σ vs).set j1 (some (.str w))).set j2 (some (.bl f))) H (.str w))
    (k : ∀ p H1, H p = none → Ex H H1 → H1 p = some (.lst ((((ws.zip bs).filter (·.2)).map (·.1)).map V.str)) → Q (.ref p) H1) : LcB (ItzH K a b) (gTup K 2 (gCons (gName j1) (gCons (gName j2) gNil))) tt te vs σ H Q := fun Dl hD => by
  have lz : (ws.zip bs).length = ws.length := by rw [List.length_zip, ← hl, Nat.min_self]
  refine ⟨fun i m H' => m = ws.length - i ∧ i ≤ ws.length ∧ Ex H H' ∧ H' Dl = some (.lst (((((ws.zip bs).take i).filter (·.2)).map (·.1)).map V.str)), ⟨_, rfl, Nat.zero_le _, Ex.new hD, by rw [upd_same]; rfl⟩, ?_⟩
  rintro i m H' ⟨rfl, hi, e, hd⟩
  by_cases hx : i = ws.length
  · subst hx
    refine .inl ⟨⟨_, sql_up e ha, by rw [List.length_map]; exact Nat.le_refl _⟩, ?_⟩
    rw [← lz, List.take_length] at hd
    exact k Dl H' hD e hd
  · have h1 : i < ws.length := by omega
    have h2 : i < bs.length := by omega
    have g1 : (ws.map V.str)[i]? = some (.str ws[i]) := by rw [List.getElem?_map, List.getElem?_eq_getElem h1]; rfl
    have g2 : (bs.map V.bl)[i]? = some (.bl bs[i]) := by rw [List.getElem?_map, List.getElem?_eq_getElem h2]; rfl
    have gz : (ws.zip bs)[i]? = some (ws[i], bs[i]) := by
      rw [List.getElem?_eq_getElem (by omega), List.getElem_zip]
    refine .inr ⟨⟨_, _, _, _, sql_up e ha, sql_up e hb, g1, g2⟩, fun H3 => Ex H H3 ∧ H3 Dl = some (.lst (((((ws.zip bs).take (i + 1)).filter (·.2)).map (·.1)).map V.str)), fun H3 p => ⟨ws.length - (i + 1), by omega, rfl, by omega, p⟩, ?_⟩
    rintro x H2 ⟨T, x1, y1, rfl, hT, rfl, q1, q2⟩
    have e1 : x1 = .str ws[i] := Option.some.inj ((q1 _ (sql_up e ha)).symm.trans g1)
    have e2 : y1 = .bl bs[i] := Option.some.inj ((q2 _ (sql_up e hb)).symm.trans g2)
    subst e1 e2
    refine ⟨T, _, rfl, SqT.of upd_same, rfl, _, _, rfl, _, _, rfl, rfl, hw _ _, ?_⟩
    have eT : Ex H' (upd H' T (.tup [.str ws[i], .bl bs[i]])) := Ex.new hT
    refine ht ws[i] bs[i] _ (e.trans eT) _ fun H4 e4 => ?_
    have eD := e4 _ _ (eT _ _ hd)
    have tk : (ws.zip bs).take (i + 1) = (ws.zip bs).take i ++ [(ws[i], bs[i])] := by rw [List.take_add_one, gz]; rfl
    cases hc : bs[i] with
    | true =>
      rw [if_pos rfl]
      have hc' := hc
      refine he ws[i] true H4 ((e.trans eT).trans e4) _ fun H5 e5 => ⟨_, e5 _ _ eD, ?_, ?_⟩
      · rw [List.length_map, List.length_map]
        have := List.length_filter_le (·.2) ((ws.zip bs).take i)
        rw [List.length_take] at this
        exact len_lt (by omega)
      · refine ⟨fun a o ho => ?_, ?_⟩
        · rw [upd_ne (ne_of_none ho hD)]
          exact e5 _ _ (e4 _ _ (eT _ _ (e _ _ ho)))
        · rw [upd_same, tk, List.filter_append, List.map_append, List.map_append, hc]
          rfl
    | false =>
      rw [if_neg Bool.false_ne_true]
      refine ⟨(e.trans eT).trans e4, ?_⟩
      rw [eD, tk, List.filter_append, List.map_append, List.map_append, hc]
      simp
theorem r_iZipH {K : PySem.W.Frag} {ta : TA} {σ : L2.St} {H : Hp} {R : It → Hp → Prop} (k : ta σ H fun vs H1 => ∃ a b xs ys, vs = [.ref a, .ref b] ∧ SqL K H1 a xs ∧ SqL K H1 b ys ∧ R (ItzH K a b) H1) : iZipH K ta σ H R := k
theorem r_zipE {K : PySem.W.Frag} {H : Hp} {a b : Addr} {xs ys : List V} {R : It → Hp → Prop} (ha : SqL K H a xs) (hb : SqL K H b ys) (k : R (ItzH K a b) H) : ∃ a' b' xs ys, [V.ref a, V.ref b] = [.ref a', .ref b'] ∧ SqL K H a' xs ∧ SqL K H b' ys ∧ R (ItzH K a' b') H := ⟨a, b, xs, ys, rfl, ha, hb, k⟩
/-! ### methods that raise -/
section
variable {P : Program} {w : World} {K : PySem.W.Frag} {mg : Str → Option Value} {base : Heap}
theorem MetAt.okR {C : Addr} {m q : Str} {st : Stmt} {N ps : List Str} {k : Nat} {sp : Sp} (D : MetAt K C m q st ps) (S : FnScope N ps (defScope st)) (len : ∀ vs H Q E, sp vs H Q E → vs.length = ps.length)
    (hbody : ∀ (f : Addr) (cdv : Value) (A : Around) (outer : List Env) (s : Shared) (H : Hp) (vs : List V) (Q : VK) (E : XK), Room k (A.deeper (envOfC q (defScope st) s.heap.objs.size f cdv)) → sp vs H Q E →
      ∃ t, PSs (cxOf (L2N.CX P w) P w K mg base N q (defScope st) f cdv A outer s H E) (defBody st) t ∧ t { nx := fun _ H' => Q .non H', rt := Q } (start N vs) H) : HasM P w K mg base (L2N.CX P w) (k + 1) C m ps sp := by
  obtain ⟨f, fd, F, m, b⟩ := D
  obtain ⟨oc, od, kV, doc, pm, an, cdv, ct, osl, rfl, lk, hcd⟩ := F.ex
  exact ⟨f, _, m, b, fn_of lk hcd S len fun A outer s H vs Q E hr h => hbody f cdv A outer s H vs Q E hr h⟩
theorem IniAt.okR {C : Addr} {q : Str} {st : Stmt} {N ps : List Str} {k : Nat} {sp : Sp} (D : IniAt K C q st ps) (S : FnScope N ps (defScope st)) (len : ∀ vs H Q E, sp vs H Q E → vs.length = ps.length)
    (hbody : ∀ (f : Addr) (cdv : Value) (A : Around) (outer : List Env) (s : Shared) (H : Hp) (vs : List V) (Q : VK) (E : XK), Room k (A.deeper (envOfC q (defScope st) s.heap.objs.size f cdv)) → sp vs H Q E →
      ∃ t, PSs (cxOf (L2N.CX P w) P w K mg base N q (defScope st) f cdv A outer s H E) (defBody st) t ∧ t { nx := fun _ H' => Q .non H', rt := Q } (start N vs) H) : HasI P w K mg base (L2N.CX P w) (k + 1) C ps sp := by
  obtain ⟨f, fd, F, m, b⟩ := D
  obtain ⟨oc, od, kV, doc, pm, an, cdv, ct, osl, rfl, lk, hcd⟩ := F.ex
  exact ⟨f, _, m, b, fn_of lk hcd S len fun A outer s H vs Q E hr h => hbody f cdv A outer s H vs Q E hr h⟩
end
def tMCS (C : Addr) (m : Str) (sp : Sp) (E : L2.St → XK) (ta : TE) (t : TA) : TE := fun σ H Q => ta σ H fun x H1 => MObj C m x H1 (t σ H1 fun vs H2 => sp (x :: vs) H2 Q (E σ))
def tMkCS (C : Addr) (sp : Sp) (E : L2.St → XK) (t : TA) : TE := fun σ H Q => t σ H fun vs H1 => NewO C (fun x H2 => sp (.ref x :: vs) H2 (fun v H3 => v = .non ∧ Q (.ref x) H3) (E σ)) H1
theorem r_methS {C : Addr} {m : Str} {sp : Sp} {E : L2.St → XK} {ta : TE} {t : TA} {σ : L2.St} {H : Hp} {Q : VK} (k : ta σ H fun x H1 => MObj C m x H1 (t σ H1 fun vs H2 => sp (x :: vs) H2 Q (E σ))) : tMCS C m sp E ta t σ H Q := k
theorem r_makeS {C : Addr} {sp : Sp} {E : L2.St → XK} {t : TA} {σ : L2.St} {H : Hp} {Q : VK} (k : t σ H fun vs H1 => NewO C (fun x H2 => sp (.ref x :: vs) H2 (fun v H3 => v = .non ∧ Q (.ref x) H3) (E σ)) H1) : tMkCS C sp E t σ H Q := k
section
variable {X : Cx} {x m : Str} {C : Addr} {p pos apos : Pos} {o e : Expr} {es : List Expr} {ta : TE} {t : TA} {k : Nat} {ps : List Str} {sp : Sp} {pl : Sem Bool} {W : WX}
theorem pmethR (c : Cls X.K C) (G : HasM X.prog X.w X.K X.mg X.base (L2N.CX X.prog X.w) k C m ps sp) (hr : Room k X.A) (tk : L2N.Takes X W) (ho : PE X o ta) (ha : PA X (e :: es) t)
    (hst : starEach (e :: es) X.env = (false, eval e X.env) :: starEach es X.env := by rfl) (hpl : (backTo pos (starEach es X.env)).any (·.1) = false := by rfl)
    (ht : eval (.Call (.Attribute o m apos) (e :: es) [] pos) X.env = (do
      let ov ← eval o X.env
      standAt apos.atName
      let (f, first) ← holding [ov] (getMethod ov m pl)
      callWith pos f first (backTo pos (starEach (e :: es) X.env)) (backToKw pos (keywordEach [] X.env))) := by rfl) :
    PE X (.Call (.Attribute o m apos) (e :: es) [] pos) (tMCS C m sp (WE W) ta t) := by
  obtain ⟨f, fd, hm, b, F⟩ := G
  refine ⟨fun pins s σ H Q I h => ?_⟩
  have h : ta σ H fun x H1 => ∃ a dx fs, x = .ref a ∧ H1 a = some (.ins C dx fs) ∧ fs.lookup m = none ∧ t σ H1 fun vs H2 => sp (x :: vs) H2 Q (WE W σ) := h
  refine PySem.W.methodCall_KW (pl := pl) (thn (ho.run pins s σ H _ I h) fun u s1 ⟨x, H1, I1, rx, a, dx, fs, ex, ea, l, q⟩ => ?_) ht
  subst ex
  obtain rfl : u = Value.ref a := rx
  refine getmeth_ok I1 ea c hm l ?_
  refine PySem.W.callWith_K (first := [.ref a]) (h₀ := X.base) I.ok.mod.kin hm.kp (thn (ha.run pos pins s1 σ H1 _ I1 q) fun us s2 ⟨vs, H2, I2, r, q2⟩ => ⟨I2.kIn, ?_⟩) hst hpl
  exact run_fnS (us := .ref a :: us) (vs := .ref a :: vs) F hr b (L2N.passAt tk σ) I2 (.cons rfl r) q2
theorem pmethR0 (c : Cls X.K C) (G : HasM X.prog X.w X.K X.mg X.base (L2N.CX X.prog X.w) k C m ps sp) (hr : Room k X.A) (tk : L2N.Takes X W) (ho : PE X o ta)
    (ht : eval (.Call (.Attribute o m apos) [] [] pos) X.env = (do
      let ov ← eval o X.env
      standAt apos.atName
      let (f, first) ← holding [ov] (getMethod ov m pl)
      callWith pos f first (backTo pos (starEach [] X.env)) (backToKw pos (keywordEach [] X.env))) := by rfl) :
    PE X (.Call (.Attribute o m apos) [] [] pos) (tMCS C m sp (WE W) ta tNil) := by
  obtain ⟨f, fd, hm, b, F⟩ := G
  refine ⟨fun pins s σ H Q I h => ?_⟩
  have h : ta σ H fun x H1 => ∃ a dx fs, x = .ref a ∧ H1 a = some (.ins C dx fs) ∧ fs.lookup m = none ∧ sp [x] H1 Q (WE W σ) := h
  refine PySem.W.methodCall_KW (pl := pl) (thn (ho.run pins s σ H _ I h) fun u s1 ⟨x, H1, I1, rx, a, dx, fs, ex, ea, l, q⟩ => ?_) ht
  subst ex
  obtain rfl : u = Value.ref a := rx
  refine getmeth_ok I1 ea c hm l ?_
  exact PySem.W.callWith_K0 (first := [.ref a]) I1.kIn hm.kp (run_fnS (us := [.ref a]) (vs := [.ref a]) F hr b (L2N.passAt tk σ) I1 (.cons rfl .nil) q)
theorem run_makeS {pins : List (Addr × Obj)} {σ : L2.St} {H : Hp} {s : Shared} {Q : VK} {us : List Value} {vs : List V} {CX : CXT} {f : Addr} {fd : FuncData} {E : XK} (M : Mk X.K C f) (F : FnOk X.prog X.w X.K X.mg X.base CX k f fd ps sp) (hr : Room (k + 1) X.A) (hb : Binds X.K fd ps [])
    (hx : PassesAt CX X σ E) (I : Inv X pins σ H s) (r : Vals vs us)
    (h : ∀ x dx, H x = none → H dx = none → dx ≠ x → sp (.ref x :: vs) (upd (upd H dx (.own x)) x (.ins C dx [])) (fun v H2 => v = .non ∧ Q (.ref x) H2) E) :
    wpAny (model X.prog X.w) X.A (call (.ref C) us) (EP X pins σ Q) X.xe s := by
  have hq := h (s.heap.objs.size + 1) s.heap.objs.size (I.hok.fresh (Nat.le_succ _)) (I.hok.fresh (Nat.le_refl _)) (Nat.ne_of_lt (Nat.lt_succ_self _))
  have I2 := Inv.made (C := C) I
  have r2 : Vals (V.ref (s.heap.objs.size + 1) :: vs) (Value.ref (s.heap.objs.size + 1) :: us) := .cons rfl r
  have hl : (Value.ref (s.heap.objs.size + 1) :: us).length = ps.length := by
    have e := r2.length
    rw [F.len _ _ _ _ hq] at e
    exact e.symm
  have b := hb { s with heap := (s.heap.push PySem.W.emptyDict).push (PySem.W.instObj C s.heap.objs.size) } (Value.ref (s.heap.objs.size + 1) :: us) I2.kIn (by rw [List.append_nil]; exact hl)
  rw [List.append_nil] at b
  refine wpAny_call (make_map (f := f) I.kIn M.makes M.init (beq_iff_eq.mp M.fn) (codeAny_mono (F.run _ X.stack _ _ ⟨Value.ref (s.heap.objs.size + 1) :: us, []⟩ (Value.ref (s.heap.objs.size + 1) :: us) _ _ E (hr.make C us [])
    (I2.env0.make C us []) b r2 hq) fun r s' hq' => ?_))
  cases r with
  | error e => exact hx pins _ _ e s' I2 hq'
  | ok fl =>
    cases fl with
    | ret u =>
      obtain ⟨v, H', I3, rv, ev, q3⟩ := I2.after hq'
      subst ev
      exact ⟨rv, ⟨V.ref (s.heap.objs.size + 1), H', I3, rfl, q3⟩⟩
    | next => exact False.elim hq'
    | brk => exact False.elim hq'
    | cont => exact False.elim hq'
theorem pmakeR (hm : X.mg x = some (.ref C)) (G : HasI X.prog X.w X.K X.mg X.base (L2N.CX X.prog X.w) k C ps sp) (hr : Room (k + 1) X.A) (tk : L2N.Takes X W) (ha : PA X (e :: es) t) (hg : Gl X x := by rfl)
    (hdb : (x == ("__debug__" : Str)) = false := by decide) (he : starEach (e :: es) X.env = (false, eval e X.env) :: starEach es X.env := by rfl) (hpl : (backTo pos (starEach es X.env)).any (·.1) = false := by rfl) :
    PE X (.Call (.Name x p) (e :: es) [] pos) (tMkCS C sp (WE W) t) := by
  obtain ⟨f, fd, M, b, F⟩ := G
  refine ⟨fun pins s σ H Q I h => ?_⟩
  refine wpAny_Call_Name_kw (ld_glob I hg hm ?_ hdb)
  refine PySem.W.callWith_K (h₀ := X.base) I.ok.mod.kin M.kp (thn (ha.run pos pins s σ H _ I h) fun us s1 ⟨vs, H1, I1, r, q⟩ => ⟨I1.kIn, ?_⟩) he hpl
  exact run_makeS M F hr b (L2N.passAt tk σ) I1 r q
end
/-! a function out of a list of functions is called -/
inductive FnsOk (X : Cx) (ps : List Str) (sp : Sp) : List V → Prop
  | nil : FnsOk X ps sp []
  | cons {f : Addr} {fd : FuncData} {k : Nat} {fs : List V} : PySem.W.keepIn X.K (.ref f) = true → Binds X.K fd ps [] → FnOk X.prog X.w X.K X.mg X.base (L2N.CX X.prog X.w) k f fd ps sp → Room k X.A → FnsOk X ps sp fs → FnsOk X ps sp (.ref f :: fs)
theorem FnsOk.at {X : Cx} {ps : List Str} {sp : Sp} {fs : List V} (h : FnsOk X ps sp fs) {v : V} (hv : v ∈ fs) : ∃ f fd k, v = .ref f ∧ PySem.W.keepIn X.K (.ref f) = true ∧ Binds X.K fd ps [] ∧ FnOk X.prog X.w X.K X.mg X.base (L2N.CX X.prog X.w) k f fd ps sp ∧ Room k X.A := by
  induction h with
  | nil => cases hv
  | cons kp b F hr _ ih =>
    rcases List.mem_cons.mp hv with rfl | hv
    · exact ⟨_, _, _, rfl, kp, b, F, hr⟩
    · exact ih hv
def tCallF (fs : List V) (sp : Sp) (E : L2.St → XK) (tf : TE) (t : TA) : TE := fun σ H Q => tf σ H fun v H1 => v ∈ fs ∧ t σ H1 fun vs H2 => sp vs H2 Q (E σ)
theorem r_calF {fs : List V} {sp : Sp} {E : L2.St → XK} {tf : TE} {t : TA} {σ : L2.St} {H : Hp} {Q : VK} (k : tf σ H fun v H1 => v ∈ fs ∧ t σ H1 fun vs H2 => sp vs H2 Q (E σ)) : tCallF fs sp E tf t σ H Q := k
theorem pcallFR {X : Cx} {o i e : Expr} {ip pos : Pos} {es : List Expr} {tf : TE} {t : TA} {ps : List Str} {sp : Sp} {W : WX} {fs : List V} (G : FnsOk X ps sp fs) (tk : L2N.Takes X W) (hf : PE X (.Subscript o i ip) tf) (ha : PA X (e :: es) t)
    (he : starEach (e :: es) X.env = (false, eval e X.env) :: starEach es X.env := by rfl) (hpl : (backTo pos (starEach es X.env)).any (·.1) = false := by rfl) :
    PE X (.Call (.Subscript o i ip) (e :: es) [] pos) (tCallF fs sp (WE W) tf t) := by
  refine ⟨fun pins s σ H Q I h => ?_⟩
  show wpAny (model X.prog X.w) X.A (do callWith pos (← eval (.Subscript o i ip) X.env) [] (backTo pos (starEach (e :: es) X.env)) (backToKw pos (keywordEach [] X.env))) _ _ _
  refine wpAny_bind (thn (hf.run pins s σ H _ I h) fun u s1 ⟨v, H1, I1, r1, hv, q⟩ => ?_)
  obtain ⟨f, fd, k, rfl, kp, b, F, hr⟩ := G.at hv
  cases r1
  refine PySem.W.callWith_K (h₀ := X.base) I1.ok.mod.kin kp (thn (ha.run pos pins s1 σ H1 _ I1 q) fun us s2 ⟨vs, H2, I2, r, q⟩ => ⟨I2.kIn, ?_⟩) he hpl
  exact run_fnS F hr b (L2N.passAt tk σ) I2 r q
end Sd

namespace Sd
open PySem PySem.Spec PyProof.Rows L2
def topS (i : Nat) : Stmt := PySem.Challenge.pw_stairsum_k52_texts_of_papers.main.body.getD i (.Pass ⟨0, 0, 0, 0⟩)
local macro_rules | `(tactic| walk_at "pos") => `(tactic| first | assumption | decide | omega | fail "no step")
local macro_rules | `(tactic| walk_at "sz") => `(tactic| first
  | assumption
  | (with_reducible refine Sz.lit ?_; decide)
  | with_reducible exact Sz.b2
  | (with_reducible refine Sz.mul (n := ?n) (m := ?m) ?a ?b; (case a => walk_at "sz"); (case b => walk_at "sz"))
  | (with_reducible refine Sz.add (n := ?n) (m := ?m) ?a ?b; (case a => walk_at "sz"); (case b => walk_at "sz"))
  | (with_reducible refine Sz.sub (n := ?n) (m := ?m) ?a ?b; (case a => walk_at "sz"); (case b => walk_at "sz"))
  | (with_reducible refine Sz.neg (n := ?n) ?a; (case a => walk_at "sz"))
  | (with_reducible refine Sz.abs (n := ?n) ?a; (case a => walk_at "sz"))
  | (with_reducible refine Sz.div (n := ?n) ?a ?b; (case a => walk_at "sz"); (case b => walk_at "pos"))
  | (with_reducible refine Sz.mod (n := ?n) ?a ?b; (case a => walk_at "sz"); (case b => walk_at "pos"))
  | fail "no step")
local macro_rules | `(tactic| walk_at "mulW") => `(tactic| first
  | exact mulR ⟨by decide, by decide⟩
  | exact mulL ⟨by decide, by decide⟩
  | (refine mulX (n := ?n) (m := ?m) ?a ?b ?h; (case a => walk_at "sz"); (case b => walk_at "sz"); (case h => decide))
  | fail "no step")
local macro_rules | `(tactic| walk_at "divW") => `(tactic| (refine divW (n := ?n) ?p ?a ?h; (case p => walk_at "pos"); (case a => walk_at "sz"); (case h => decide)))
/- H a = some _ at the heap at hand -/
local macro_rules | `(tactic| walk_at "at") => `(tactic| first
  | assumption
  | (with_reducible refine Kp.tup (H := ?H) (d := ?d) ?k ?D ?_; (case k => assumption); (case D => assumption); walk_at "at")
  | (with_reducible refine Ex.at (H := ?H) ?k ?_; (case k => assumption); walk_at "at")
  | fail "no step")
local macro_rules | `(tactic| walk_at "sqt") => `(tactic| first
  | assumption
  | exact SqT.of (by walk_at "at")
  | (with_reducible refine sqt_kp (H := ?H) (d := ?d) ?k ?D ?_; (case k => assumption); (case D => assumption); walk_at "sqt")
  | (with_reducible refine sqt_up (H := ?H) ?k ?_; (case k => assumption); walk_at "sqt")
  | fail "no step")
local macro_rules | `(tactic| walk_at "sql") => `(tactic| first
  | assumption
  | exact SqL.of (by walk_at "at")
  | (with_reducible refine sql_up (H := ?H) ?k ?_; (case k => assumption); walk_at "sql")
  | fail "no step")
local macro_rules | `(tactic| walk_at "dec_f") => `(tactic| first
  | with_reducible rfl | with_reducible assumption
  | (with_reducible refine not_f ?_; walk_at "dec_t")
  | (with_reducible refine decide_eq_false ?_; first | with_reducible assumption | omega | (simp only [List.length_cons, List.length_nil]; omega))
  | fail "no step")
local macro_rules | `(tactic| walk_at "dec_t") => `(tactic| first
  | with_reducible rfl | with_reducible assumption
  | (with_reducible refine not_t ?_; walk_at "dec_f")
  | (with_reducible refine decide_eq_true ?_; first | with_reducible assumption | with_reducible rfl | omega | (simp only [List.length_cons, List.length_nil]; omega))
  | fail "no step")
local macro_rules | `(tactic| walk_at "sets") => `(tactic| first
  | with_reducible exact set_z
  | ((with_reducible refine set_s (l' := ?l) ?a); (case a => walk_at "sets"))
  | ((with_reducible refine set_in (e' := ?e) ?a ?b); (case a => walk_at "sets"); (case b => walk_at "sets"))
  | fail "no step")
local macro_rules | `(tactic| walk_at "lk") => `(tactic| fail "no step")
local macro_rules | `(tactic| walk_at "go1") => `(tactic| first
  | ((with_reducible refine r_nxS (l' := ?l) ?h ?_); (case h => walk_at "sets"))
  | with_reducible refine r_seq ?_
  | with_reducible refine r_asg ?_
  | ((with_reducible refine r_var (v := ?v) ?h ?_); (case h => exact rfl))
  | with_reducible refine r_c ?_
  | with_reducible refine r_nx ?_
  | with_reducible refine r_rt ?_
  | with_reducible refine r_op ?_
  | with_reducible refine r_cons ?_
  | with_reducible refine r_nil ?_
  | with_reducible refine r_cal ?_
  | with_reducible refine r_I0 ?_
  | ((with_reducible refine r_mul ?c ?_); (case c => walk_at "mulW"))
  | ((with_reducible refine r_div ?c ?_); (case c => walk_at "divW"))
  | ((with_reducible refine r_mod ?c ?_); (case c => walk_at "pos"))
  | with_reducible refine r_p6 ?_
  | with_reducible refine r_p18 ?_
  | with_reducible refine r_p29 ?_
  | with_reducible refine r_p30 ?_
  | with_reducible refine r_p60 ?_
  | with_reducible refine r_p15 ?_
  | with_reducible refine r_p24 ?_
  | ((with_reducible refine r_pow ?c ?_); (case c => exact ⟨by decide, by decide, by decide⟩))
  | with_reducible refine r_ifS ?_
  | with_reducible refine r_test ?_
  | with_reducible refine r_tB ?_
  | with_reducible refine r_bl ?_
  | with_reducible refine r_eqI ?_
  | with_reducible refine r_neI ?_
  | with_reducible refine r_not ?_
  | with_reducible refine r_and ?_
  | with_reducible refine r_or ?_
  | with_reducible refine r_notV ?_
  | with_reducible refine r_andV ?_
  | with_reducible refine r_orV ?_
  | with_reducible refine r_blV ?_
  | with_reducible refine r_chain ?_
  | with_reducible refine r_ret ?_
  | with_reducible refine r_retN ?_
  | with_reducible refine r_drop ?_
  | with_reducible refine r_next ?_
  | with_reducible refine r_un ?_
  | with_reducible refine r_U ?_
  | with_reducible refine r_tup ?_
  | with_reducible refine r_lst ?_
  | ((with_reducible refine r_newT ?l ?_); (case l => exact Nat.le_of_ble_eq_true rfl); intro _ _ _ _ _)
  | ((with_reducible refine r_newL ?l ?_); (case l => exact Nat.le_of_ble_eq_true rfl); intro _ _ _ _ _)
  | ((with_reducible refine r_ixT (xs := ?x) (v := ?v) ?h ?a ?_); (case h => walk_at "sqt"); (case a => exact rfl))
  | ((with_reducible refine r_ixL (xs := ?x) (v := ?v) ?h ?a ?_); (case h => walk_at "sql"); (case a => exact rfl))
  | with_reducible refine r_asgG ?_
  | ((with_reducible refine r_gTup (xs := ?x) ?h ?l ?_); (case h => walk_at "sqt"); (case l => exact rfl))
  | with_reducible refine r_gCons ?_
  | with_reducible refine r_gNil ?_
  | with_reducible refine r_gName ?_
  | with_reducible refine r_gSub ?_
  | with_reducible refine r_par ?_
  | with_reducible refine r_parE ?_
  | with_reducible refine r_par3 ?_
  | with_reducible refine r_parE3 ?_
  | ((with_reducible refine r_aug (i := ?i) ?h ?_); (case h => exact rfl))
  | with_reducible refine r_ipI ?_
  | with_reducible refine r_if ?_
  | with_reducible refine r_chain3 ?_
  | ((with_reducible refine r_gLst (xs := ?x) ?h ?l ?_); (case h => walk_at "sql"); (case l => exact rfl))
  | with_reducible refine r_CB ?_
  | with_reducible refine r_isII ?_
  | with_reducible refine r_isIB ?_
  | ((with_reducible refine r_isTT (xs := ?x) ?h ?_); (case h => walk_at "at"))
  | with_reducible refine r_tyS ?_
  | with_reducible refine r_isSS ?_
  | with_reducible refine r_iZip ?_
  | with_reducible refine r_iZipA ?_
  | ((with_reducible refine r_isLL (xs := ?x) ?h ?_); (case h => walk_at "at"))
  | ((with_reducible refine r_lenL (ys := ?x) ?h ?_); (case h => walk_at "sql"))
  | ((with_reducible refine r_lenT (ys := ?x) ?h ?_); (case h => walk_at "sqt"))
  | with_reducible refine r_abs ?_
  | with_reducible refine r_max2 ?_
  | with_reducible refine r_min2 ?_
  | with_reducible refine r_min3 ?_
  | with_reducible refine r_intI ?_
  | with_reducible refine r_intB ?_
  | with_reducible refine r_isBB ?_
  | with_reducible refine r_for ?_
  | ((with_reducible refine r_eqT3 (a := ?a) (b := ?b) (c := ?c) (a' := ?a') (b' := ?b') (c' := ?c') ?h ?h' ?_); (case h => walk_at "sqt"); (case h' => walk_at "sqt"))
  | ((with_reducible refine r_neT3 (a := ?a) (b := ?b) (c := ?c) (a' := ?a') (b' := ?b') (c' := ?c') ?h ?h' ?_); (case h => walk_at "sqt"); (case h' => walk_at "sqt"))
  | with_reducible refine r_notB ?_
  | with_reducible refine r_isB ?_
  | with_reducible refine r_bm ?_
  | ((with_reducible refine r_tyL (xs := ?x) ?h ?_); (case h => walk_at "sql"))
  | with_reducible refine r_sl ?_
  | with_reducible refine r_noP ?_
  | with_reducible refine r_part ?_
  | with_reducible refine r_partI ?_
  | ((with_reducible refine r_sl4 (a := ?a) (b := ?b) (c := ?c) (d := ?d) (e := ?e) ?h ?_); (case h => walk_at "sqt"); intro _ _ _ _ _)
  | ((with_reducible refine r_cat13 (x := ?x) (a := ?a) (b := ?b) (c := ?c) ?h ?h2 ?_); (case h => walk_at "sqt"); (case h2 => walk_at "sqt"); intro _ _ _ _ _)
  | ((with_reducible refine r_cat41 (x := ?x) (a := ?a) (b := ?b) (c := ?c) (y := ?y) ?h ?h2 ?_); (case h => walk_at "sqt"); (case h2 => walk_at "sqt"); intro _ _ _ _ _)
  | ((with_reducible refine r_neT4 (a := ?a) (b := ?b) (c := ?c) (d := ?d) (a' := ?a') (b' := ?b') (c' := ?c') (d' := ?d') ?h ?h' ?_); (case h => walk_at "sqt"); (case h' => walk_at "sqt"))
  | ((with_reducible refine r_listL (ys := ?y) ?h ?_); (case h => walk_at "sql"); intro _ _ _ _ _)
  | with_reducible refine r_rev ?_
  | with_reducible refine r_isNnI ?_
  | with_reducible refine r_isNnR ?_
  | with_reducible refine r_isNnN ?_
  | with_reducible refine r_notNnI ?_
  | with_reducible refine r_notNnR ?_
  | with_reducible refine r_notNnN ?_
  | with_reducible refine r_iRng1 ?_
  | with_reducible refine r_iRng2 ?_
  | with_reducible refine r_iList ?_
  | with_reducible refine r_iTup ?_
  | with_reducible refine r_lc ?_
  | ((with_reducible refine r_ItL (xs := ?x) ?h ?_); (case h => walk_at "sql"))
  | ((with_reducible refine r_ItT (xs := ?x) ?h ?_); (case h => walk_at "sqt"))
  | with_reducible refine r_fldE ?_
  | ((with_reducible refine r_fld (C := ?C) (dx := ?dx) (fs := ?fs) (v := ?v) ?h ?c ?n ?l ?_); (case h => walk_at "at"); (case c => assumption); (case n => assumption); (case l => walk_at "lk"))
  | with_reducible refine r_fldS ?_
  | with_reducible refine r_gFld ?_
  | with_reducible refine r_fldAug ?_
  | ((with_reducible refine r_fldA (C := ?C) (dx := ?dx) (fs := ?fs) (v := ?v) ?h ?c ?n ?l ?_); (case h => walk_at "at"); (case c => assumption); (case n => assumption); (case l => walk_at "lk"))
  | with_reducible refine r_rAdd ?_
  | with_reducible refine r_rSub ?_
  | with_reducible refine r_meth ?_
  | ((with_reducible refine r_mobj (dx := ?dx) (fs := ?fs) ?h ?l ?_); (case h => walk_at "at"); (case l => walk_at "lk"))
  | with_reducible refine r_make ?_
  | with_reducible refine r_bm0 ?_
  | ((with_reducible refine if_T ?h ?_); (case h => walk_at "dec_t"))
  | ((with_reducible refine if_F ?h ?_); (case h => walk_at "dec_f"))
  | fail "no step")
local macro_rules | `(tactic| walk_at "go") => `(tactic| repeat walk_at "go1")
local macro_rules | `(tactic| walk_at "szm") => `(tactic| (refine Sz.mono (n := ?n) ?a ?h; (case a => walk_at "sz"); (case h => decide)))
local macro_rules | `(tactic| walk_at "go1") => `(tactic| first
  | ((with_reducible refine r_isE (b := ?b) ?h ?_); (case h => assumption))
  | ((with_reducible refine r_isEV (S := ?S) ?h ?_); (case h => assumption))
  | with_reducible refine r_iZipH ?_
  | ((with_reducible refine r_zipE (xs := ?x) (ys := ?y) ?h ?h2 ?_); (case h => walk_at "sql"); (case h2 => walk_at "sql"))
  | ((with_reducible refine r_catL (xs := ?x) (ys := ?y) ?h ?h2 ?n ?_); (case h => walk_at "at"); (case h2 => walk_at "at"); (case n => exact Nat.le_of_ble_eq_true rfl); intro _ _ _ _ _)
  | with_reducible refine r_neSS ?_
  | with_reducible refine r_eqSS ?_
  | ((with_reducible refine r_neSD ?h ?_); (case h => decide +kernel))
  | ((with_reducible refine r_eqSD ?h ?_); (case h => decide +kernel))
  | with_reducible refine r_raise ?_
  | with_reducible refine r_try ?_
  | with_reducible refine r_kind ?_
  | with_reducible refine r_calS ?_
  | with_reducible refine r_methS ?_
  | with_reducible refine r_makeS ?_
  | fail "no step")
def sp_law_draws (K : PySem.W.Frag) : Sp := fun vs H Q _ => ∃ (a : Addr) (ns : List Int) (k : Int), vs = [.ref a, .int k] ∧ SqL K H a (ns.map V.int) ∧ 0 ≤ k ∧ k ≤ 1000 ∧ ∀ d H', H d = none → Ex H H' → Dr H' d → Q (.ref d) H'
theorem use_law_draws {K : PySem.W.Frag} {H : Hp} {Q : VK} {E : XK} {a : Addr} {ns : List Int} {k : Int} (h : SqL K H a (ns.map V.int)) (h0 : 0 ≤ k) (h1 : k ≤ 1000) (q : ∀ d H', H d = none → Ex H H' → Dr H' d → Q (.ref d) H') : sp_law_draws K [.ref a, .int k] H Q E := ⟨a, ns, k, rfl, h, h0, h1, q⟩
abbrev s_law_draws : Stmt := topS 40
abbrev nm_law_draws : List Str := ["script", "k", "cell"]
theorem sc_law_draws : FnScope nm_law_draws ["script", "k"] (defScope s_law_draws) := ⟨rfl, rfl, rfl, by decide +kernel, rfl, by decide +kernel, by decide +kernel⟩
theorem st_law_draws {v0 v1 : V} : start nm_law_draws [v0, v1] = [some v0, some v1, none] := rfl
section
variable {P : Program} {w : World} {K : PySem.W.Frag} {mg : Str → Option Value} {base : Heap} {c : Cl}
theorem ok_law_draws (D : DefAt K mg "_law_draws" s_law_draws ["script", "k"]) (B_len : mg "len" = none) (B_int : mg "int" = none) : Has P w K mg base CX0 2 "_law_draws" ["script", "k"] (sp_law_draws K) := by
  refine D.ok sc_law_draws (by rintro _ _ _ _ ⟨_, _, _, rfl, _⟩; rfl) (fun f cdv A outer s H vs Q E hr h => ?_)
  obtain ⟨a, ns, k, rfl, hS, h0, h1, q⟩ := h
  have zk : Sz 200 k := Sz.small (by omega)
  refine ⟨_, (pss_cons (ps_set (i := 2) sc_law_draws.nd rfl (Or.inl rfl) (pe_op op_mulX pe_int (pv 1)))
      (pcut (ps_if (pt_cmpR op_lt (pv 1) (pe_callB cl_len (by rfl) B_len (by decide +kernel) (pa_cons (pv 0) pa_nil)) (nomark _)) (pss_one (ps_set (i := 2) sc_law_draws.nd rfl (Or.inl rfl) (pe_op op_mod (pe_ix ix_list (pv 0) (pv 1) (fun _ _ => rfl)) (pe_op op_mulX (pe_op op_pow pe_int pe_int) (pe_op op_pow pe_int pe_int))))) (pss_one (ps_if (pt_cmpR op_gt (pe_callB cl_len (by rfl) B_len (by decide +kernel) (pa_cons (pv 0) pa_nil)) pe_int (nomark _)) (pss_one (ps_set (i := 2) sc_law_draws.nd rfl (Or.inl rfl) (pe_op op_add (pe_op op_mod (pe_ix ix_list (pv 0) (pe_op op_mod (pv 1) (pe_callB cl_len (by rfl) B_len (by decide +kernel) (pa_cons (pv 0) pa_nil))) (fun _ _ => rfl)) (pe_op op_pow pe_int pe_int)) (pe_op op_mulX pe_int (pv 1))))) pss_nil)))
      (pss_one (ps_ret (pe_lst (pa_cons (pe_op op_mulX (pv 2) (pe_callTy cl_int1 (by rfl) B_int (by decide +kernel) (pa_cons (pe_cmpR op_ge (pv 2) (pe_op op_pow pe_int pe_int) (nomark _)) pa_nil))) (pa_cons (pe_op op_add pe_int (pe_op op_mod (pe_op op_add (pe_op op_mulX (pv 2) pe_int) (pe_op op_mulX pe_int (pe_op op_add (pv 1) pe_int))) pe_int)) pa_nil))))))), ?_⟩
  rw [st_law_draws]
  try dsimp only [Cx.nox, Cx.wish, Cx.blk, cx_K, cxH_K]
  walk_at "go"
  refine r_cut (fun σ H' => H' = H ∧ ∃ c : Int, σ = [some (.ref a), some (.int k), some (.int c)] ∧ Sz 500 c) ?_ ?_
  · walk_at "go"
    refine if_2 (fun hx => ?_) (fun hx => ?_)
    · have hx := of_decide_eq_true hx
      rw [List.length_map] at hx
      obtain ⟨z, hz, _⟩ := at_ints h0 hx
      walk_at "go"
      refine r_ixL hS hz ?_
      walk_at "go"
      exact ⟨rfl, _, rfl, by walk_at "szm"⟩
    · have hx := of_decide_eq_false hx
      rw [List.length_map] at hx
      walk_at "go"
      refine if_2 (fun hy => ?_) (fun hy => ?_)
      · have hy := of_decide_eq_true hy
        obtain ⟨z, hz, _⟩ := at_ints (ns := ns) (i := k % ((ns.map V.int).length : Nat)) (Int.emod_nonneg _ (by omega)) (by
          have := Int.emod_lt_of_pos k hy
          rw [List.length_map] at this ⊢
          exact this)
        walk_at "go"
        refine r_ixL hS hz ?_
        walk_at "go"
        refine ⟨rfl, _, rfl, (Sz.small ?_).mono (by decide)⟩
        omega
      · walk_at "go"
        refine ⟨rfl, _, rfl, (Sz.small ?_).mono (by decide)⟩
        omega
  rintro σ H' ⟨rfl, c, rfl, zc⟩
  walk_at "go"
  rename_i d H1 nd e1 hd
  exact q _ _ nd e1 ⟨_, _, hd, by omega, by omega⟩

end
/-- a digit below n is drawn -/
def sp_law_draw (_ : PySem.W.Frag) : Sp := fun vs H Q _ => ∃ (d : Addr) (n : Int), vs = [.ref d, .int n] ∧ Dr H d ∧ 0 < n ∧ Sz 4000 n ∧ ∀ v H', 0 ≤ v → v < n → Kp d H H' → Dr H' d → Q (.int v) H'
theorem use_law_draw {K : PySem.W.Frag} {H : Hp} {Q : VK} {E : XK} {d : Addr} {n : Int} (D : Dr H d) (p : 0 < n) (z : Sz 4000 n) (k : ∀ v H', 0 ≤ v → v < n → Kp d H H' → Dr H' d → Q (.int v) H') : sp_law_draw K [.ref d, .int n] H Q E := ⟨d, n, rfl, D, p, z, k⟩
abbrev s_law_draw : Stmt := topS 37
abbrev nm_law_draw : List Str := ["draws", "many", "found"]
theorem sc_law_draw : FnScope nm_law_draw ["draws", "many"] (defScope s_law_draw) := ⟨rfl, rfl, rfl, by decide +kernel, rfl, by decide +kernel, by decide +kernel⟩
theorem st_law_draw {v0 v1 : V} : start nm_law_draw [v0, v1] = [some v0, some v1, none] := rfl
section
variable {P : Program} {w : World} {K : PySem.W.Frag} {mg : Str → Option Value} {base : Heap} {c : Cl}
theorem ok_law_draw (D : DefAt K mg "_law_draw" s_law_draw ["draws", "many"]) : Has P w K mg base CX0 2 "_law_draw" ["draws", "many"] (sp_law_draw K) := by
  refine D.ok sc_law_draw (by rintro _ _ _ _ ⟨_, _, rfl, _⟩; rfl) (fun f cdv A outer s H vs Q E hr h => ?_)
  obtain ⟨d, n, rfl, ⟨x, y, hd, y0, y1⟩, hn, zn, k⟩ := h
  have zy : Sz 200 y := by
    show y.natAbs < 2 ^ 200
    omega
  refine ⟨_, (pss_cons (ps_if (pt_cmpR op_gt (pe_ix ix_list (pv 0) pe_int (fun _ _ => rfl)) pe_int (nomark _)) (pss_cons (ps_set (i := 2) sc_law_draw.nd rfl (Or.inl rfl) (pe_op op_mod (pe_ix ix_list (pv 0) pe_int (fun _ _ => rfl)) (pv 1)))
        (pss_cons (ps_asg (pe_op op_fdivW (pe_ix ix_list (pv 0) pe_int (fun _ _ => rfl)) (pv 1)) (pg_sub (pv 0) pe_int set_list))
        (pss_one (ps_ret (pv 2))))) pss_nil)
      (pss_cons (ps_asg (pe_op op_mod (pe_op op_mulX (pe_ix ix_list (pv 0) pe_int (fun _ _ => rfl)) pe_int) pe_int) (pg_sub (pv 0) pe_int set_list))
      (pss_one (ps_ret (pe_op op_mod (pe_op op_fdivW (pe_op op_mod (pe_op op_mulX (pe_ix ix_list (pv 0) pe_int (fun _ _ => rfl)) (pe_op op_add (pe_op op_fdivW (pe_ix ix_list (pv 0) pe_int (fun _ _ => rfl)) pe_int) pe_int)) pe_int) pe_int) (pv 1)))))), ?_⟩
  rw [st_law_draw]
  try dsimp only [Cx.nox, Cx.wish, Cx.blk, cx_K, cxH_K]
  walk_at "go"
  refine if_2 (fun hx => ?_) (fun hx => ?_)
  · walk_at "go"
    refine r_setL (k0 := 0) hd (by rfl) ?_
    walk_at "go"
    exact k _ _ (Int.emod_nonneg _ (by omega)) (Int.emod_lt_of_pos _ hn) Kp.upd ⟨_, _, upd_same, y0, y1⟩
  · walk_at "go"
    refine r_setL (k0 := 1) hd (by rfl) ?_
    have hd2 : (upd H d (.lst [.int x, .int (y * 69621 % 2147483647)])) d = some (.lst [.int x, .int (y * 69621 % 2147483647)]) := upd_same
    walk_at "go"
    exact k _ _ (Int.emod_nonneg _ (by omega)) (Int.emod_lt_of_pos _ hn) Kp.upd ⟨_, _, upd_same, Int.emod_nonneg _ (by decide), Int.emod_lt_of_pos _ (by decide)⟩

end
def sp_law_figures (_ : PySem.W.Frag) : Sp := fun vs H Q _ => ∃ (d : Addr) (n : Int), vs = [.ref d, .int n] ∧ Dr H d ∧ 0 < n ∧ n ≤ 20 ∧ ∀ v H', Sz 600 v → v.natAbs < 1000000 ^ n.toNat → Kp d H H' → Dr H' d → Q (.int v) H'
theorem use_law_figuresB {K : PySem.W.Frag} {H : Hp} {Q : VK} {E : XK} {d : Addr} {n : Int} (D : Dr H d) (p : 0 < n) (z : n ≤ 20) (k : ∀ v H', Sz 600 v → v.natAbs < 1000000 ^ n.toNat → Kp d H H' → Dr H' d → Q (.int v) H') : sp_law_figures K [.ref d, .int n] H Q E := ⟨d, n, rfl, D, p, z, k⟩
theorem use_law_figures {K : PySem.W.Frag} {H : Hp} {Q : VK} {E : XK} {d : Addr} {n : Int} (D : Dr H d) (p : 0 < n) (z : n ≤ 20) (k : ∀ v H', Sz 600 v → Kp d H H' → Dr H' d → Q (.int v) H') : sp_law_figures K [.ref d, .int n] H Q E := ⟨d, n, rfl, D, p, z, fun v H' z _ => k v H' z⟩
abbrev s_law_figures : Stmt := topS 41
abbrev nm_law_figures : List Str := ["draws", "most", "number", "k"]
theorem sc_law_figures : FnScope nm_law_figures ["draws", "most"] (defScope s_law_figures) := ⟨rfl, rfl, rfl, by decide +kernel, rfl, by decide +kernel, by decide +kernel⟩
theorem st_law_figures {v0 v1 : V} : start nm_law_figures [v0, v1] = [some v0, some v1, none, none] := rfl
section
variable {P : Program} {w : World} {K : PySem.W.Frag} {mg : Str → Option Value} {base : Heap} {c : Cl}
theorem ok_law_figures (D : DefAt K mg "_law_figures" s_law_figures ["draws", "most"]) (B_range : mg "range" = none) (G__law_draw : Has P w K mg base CX0 2 "_law_draw" ["draws", "many"] (sp_law_draw K)) : Has P w K mg base CX0 3 "_law_figures" ["draws", "most"] (sp_law_figures K) := by
  refine D.ok sc_law_figures (by rintro _ _ _ _ ⟨_, _, rfl, _⟩; rfl) (fun f cdv A outer s H vs Q E hr h => ?_)
  obtain ⟨d, n, rfl, D, hn, h20, k⟩ := h
  refine ⟨_, (pss_cons (ps_set (i := 2) sc_law_figures.nd rfl (Or.inl rfl) (pcall G__law_draw (hr.mono (by decide)) (pa_cons (pv 0) (pa_cons (pe_op op_pow pe_int pe_int) pa_nil))))
      (pss_cons (ps_for PassesOwn.never rfl (pi_range1 rfl B_range (pa_cons (pcall G__law_draw (hr.mono (by decide)) (pa_cons (pv 0) (pa_cons (pv 1) pa_nil))) pa_nil)) (pg_name (i := 3) sc_law_figures.nd rfl (Or.inl rfl))
        (pss_one (ps_set (i := 2) sc_law_figures.nd rfl (Or.inl rfl) (pe_op op_add (pe_op op_mulX (pv 2) (pe_op op_pow pe_int pe_int)) (pcall G__law_draw (hr.mono (by decide)) (pa_cons (pv 0) (pa_cons (pe_op op_pow pe_int pe_int) pa_nil)))))))
      (pss_one (ps_ret (pe_ix ix_list (pe_lst (pa_cons (pv 2) (pa_cons (pe_op op_sub pe_int (pv 2)) (pa_cons (pe_op op_sub (pe_op op_mod (pv 2) pe_int) pe_int) pa_nil)))) (pcall G__law_draw (hr.mono (by decide)) (pa_cons (pv 0) (pa_cons pe_int pa_nil))) (fun _ _ => rfl)))))), ?_⟩
  rw [st_law_figures]
  try dsimp only [Cx.nox, Cx.wish, Cx.blk, cx_K, cxH_K]
  walk_at "go"
  refine use_law_draw D (by decide) (Sz.mono (n := 200) Sz.lit (by decide)) fun v1 H1 a1 b1 k1 D1 => ?_
  walk_at "go"
  refine use_law_draw D1 hn (Sz.mono (n := 200) (Sz.small (by omega)) (by decide)) fun v2 H2 a2 b2 k2 D2 => ?_
  walk_at "go"
  refine r_rng1 (by omega) (by omega) ?_
  refine for_rng (fun i σ H' => ∃ (w : Int) (o : Option V), σ = [some (.ref d), some (.int n), some (.int w), o] ∧ Kp d H H' ∧ Dr H' d ∧ 0 ≤ w ∧ w < ((1000000 ^ (i + 1) : Nat) : Int)) ⟨v1, none, rfl, k1.trans k2, D2, a1, b1⟩ ?_ ?_
  · rintro i σ H' hi ⟨w', o, rfl, kk, DD, w0, w1⟩
    have zw : Sz 600 w' := by
      refine Sz.lt (y := ((1000000 ^ 22 : Nat) : Int)) ?_ w0 (Int.lt_of_lt_of_le w1 (Int.ofNat_le.mpr (Nat.pow_le_pow_right (by decide) (by omega))))
      show ((1000000 ^ 22 : Nat) : Int).natAbs < 2 ^ 600
      decide +kernel
    walk_at "go"
    refine use_law_draw DD (by decide) (Sz.mono (n := 200) Sz.lit (by decide)) fun v3 H3 a3 b3 k3 D3 => ?_
    walk_at "go"
    refine ⟨_, _, rfl, kk.trans k3, D3, ?_, ?_⟩
    · omega
    · rw [Nat.pow_succ]
      generalize 1000000 ^ (i + 1) = z at w1 ⊢
      omega
  · rintro σ H' ⟨w', o, rfl, kk, DD, w0, w1⟩
    have zw : Sz 598 w' := by
      refine Sz.lt (y := ((1000000 ^ 22 : Nat) : Int)) ?_ w0 (Int.lt_of_lt_of_le w1 (Int.ofNat_le.mpr (Nat.pow_le_pow_right (by decide) (by omega))))
      show ((1000000 ^ 22 : Nat) : Int).natAbs < 2 ^ 598
      decide +kernel
    walk_at "go"
    rename_i l H3 nl e3 hl
    refine use_law_draw (DD.up e3) (by decide) (Sz.mono (n := 200) Sz.lit (by decide)) fun v3 H4 a3 b3 k3 D3 => ?_
    walk_at "go"
    obtain ⟨v, hv, hv'⟩ := at_3 (x := .int w') (y := .int (0 - w')) (z := .int (w' % 7 - 3)) a3 b3
    have ndl : l ≠ d := DD.free nl
    refine r_ixL (SqL.of (k3 _ _ ndl hl)) hv ?_
    walk_at "go"
    have w2 : w'.natAbs < 1000000 ^ n.toNat := by
      have l1 : (1000000 : Nat) ^ (v2.toNat + 1) ≤ 1000000 ^ n.toNat := Nat.pow_le_pow_right (by decide) (by omega)
      generalize (1000000 : Nat) ^ (v2.toNat + 1) = z1 at w1 l1
      generalize (1000000 : Nat) ^ n.toNat = z2 at l1 ⊢
      omega
    have l2 : (1000000 : Nat) ^ 1 ≤ 1000000 ^ n.toNat := Nat.pow_le_pow_right (by decide) (by omega)
    obtain ⟨u, rfl, zu, bu⟩ : ∃ u, v = .int u ∧ Sz 600 u ∧ u.natAbs < 1000000 ^ n.toNat := by
      generalize (1000000 : Nat) ^ n.toNat = z2 at w2 l2 ⊢
      rcases hv' with rfl | rfl | rfl
      · exact ⟨_, rfl, zw.mono (by decide), w2⟩
      · refine ⟨_, rfl, ?_, by omega⟩
        rw [Int.zero_sub]
        exact zw.neg.mono (by decide)
      · exact ⟨_, rfl, (Sz.small (by omega)).mono (by decide), by omega⟩
    exact k _ _ zu bu (kk.trans (e3.kp.trans k3)) D3

end
def sp_law_great_count (_ : PySem.W.Frag) : Sp := fun vs H Q _ => ∃ (d : Addr), vs = [.ref d] ∧ Dr H d ∧ ∀ n H', 0 ≤ n → n < 1000000000000000000000000000000 → Kp d H H' → Dr H' d → Q (.int n) H'
theorem use_law_great_count {K : PySem.W.Frag} {H : Hp} {Q : VK} {E : XK} {d : Addr} (D : Dr H d) (k : ∀ n H', 0 ≤ n → n < 1000000000000000000000000000000 → Kp d H H' → Dr H' d → Q (.int n) H') : sp_law_great_count K [.ref d] H Q E := ⟨d, rfl, D, k⟩
abbrev s_law_great_count : Stmt := topS 42
abbrev nm_law_great_count : List Str := ["draws", "some"]
theorem sc_law_great_count : FnScope nm_law_great_count ["draws"] (defScope s_law_great_count) := ⟨rfl, rfl, rfl, by decide +kernel, rfl, by decide +kernel, by decide +kernel⟩
theorem st_law_great_count {v0 : V} : start nm_law_great_count [v0] = [some v0, none] := rfl
section
variable {P : Program} {w : World} {K : PySem.W.Frag} {mg : Str → Option Value} {base : Heap} {c : Cl}
theorem ok_law_great_count (D : DefAt K mg "_law_great_count" s_law_great_count ["draws"]) (B_abs : mg "abs" = none) (G__law_figures : Has P w K mg base CX0 3 "_law_figures" ["draws", "most"] (sp_law_figures K)) (G__law_draw : Has P w K mg base CX0 2 "_law_draw" ["draws", "many"] (sp_law_draw K)) : Has P w K mg base CX0 4 "_law_great_count" ["draws"] (sp_law_great_count K) := by
  refine D.ok sc_law_great_count (by rintro _ _ _ _ ⟨_, rfl, _⟩; rfl) (fun f cdv A outer s H vs Q E hr h => ?_)
  obtain ⟨d, rfl, D0, k⟩ := h
  refine ⟨_, (pss_cons (ps_set (i := 1) sc_law_great_count.nd rfl (Or.inl rfl) (pe_lst (pa_cons (pcall G__law_draw (hr.mono (by decide)) (pa_cons (pv 0) (pa_cons pe_int pa_nil))) (pa_cons (pcall G__law_draw (hr.mono (by decide)) (pa_cons (pv 0) (pa_cons pe_int pa_nil))) (pa_cons (pe_callB cl_abs (by rfl) B_abs (by decide +kernel) (pa_cons (pcall G__law_figures (hr.mono (by decide)) (pa_cons (pv 0) (pa_cons pe_int pa_nil))) pa_nil)) (pa_cons (pe_op op_sub (pe_op op_pow pe_int pe_int) pe_int) pa_nil))))))
      (pss_one (ps_ret (pe_ix ix_list (pv 1) (pe_op op_fdivW (pcall G__law_draw (hr.mono (by decide)) (pa_cons (pv 0) (pa_cons pe_int pa_nil))) pe_int) (fun _ _ => rfl))))), ?_⟩
  rw [st_law_great_count]
  try dsimp only [Cx.nox, Cx.wish, Cx.blk, cx_K, cxH_K]
  walk_at "go"
  refine use_law_draw D0 (by decide) (by walk_at "szm") fun v1 H1 a1 b1 k1 D1 => ?_
  walk_at "go"
  refine use_law_draw D1 (by decide) (by walk_at "szm") fun v2 H2 a2 b2 k2 D2 => ?_
  walk_at "go"
  refine use_law_figuresB D2 (by decide) (by decide) fun v3 H3 z3 b3 k3 D3 => ?_
  walk_at "go"
  rename_i l H4 nl e4 hl
  refine use_law_draw (D3.up e4) (by decide) (by walk_at "szm") fun v5 H5 a5 b5 k5 D5 => ?_
  walk_at "go"
  have hl5 := k5 _ _ (D3.free nl) hl
  have kk : Kp d H H5 := k1.trans (k2.trans (k3.trans (e4.kp.trans k5)))
  have b3' : v3.natAbs < 1000000 ^ 5 := b3
  obtain ⟨u, hu, u0, u1⟩ : ∃ u, atI [V.int v1, V.int v2, V.int (v3.natAbs : Int), V.int (1000000000000000000000000000000 - 1)] (v5 / 2) = some (V.int u) ∧ 0 ≤ u ∧ u < 1000000000000000000000000000000 := by
    obtain h | h | h | h : v5 / 2 = 0 ∨ v5 / 2 = 1 ∨ v5 / 2 = 2 ∨ v5 / 2 = 3 := by omega
    · rw [h]
      exact ⟨_, rfl, by omega, by omega⟩
    · rw [h]
      exact ⟨_, rfl, by omega, by omega⟩
    · rw [h]
      exact ⟨_, rfl, by omega, by omega⟩
    · rw [h]
      exact ⟨_, rfl, by omega, by omega⟩
  refine r_ixL (SqL.of hl5) hu ?_
  walk_at "go"
  exact k _ _ u0 u1 kk D5

end
def sp_law_bottom (_ : PySem.W.Frag) : Sp := fun vs H Q _ => ∃ (d : Addr), vs = [.ref d] ∧ Dr H d ∧ ∀ m H', 1 ≤ m → m ≤ 100000000000000000000000000000 → Kp d H H' → Dr H' d → Q (.int m) H'
theorem use_law_bottom {K : PySem.W.Frag} {H : Hp} {Q : VK} {E : XK} {d : Addr} (D : Dr H d) (k : ∀ m H', 1 ≤ m → m ≤ 100000000000000000000000000000 → Kp d H H' → Dr H' d → Q (.int m) H') : sp_law_bottom K [.ref d] H Q E := ⟨d, rfl, D, k⟩
abbrev s_law_bottom : Stmt := topS 43
abbrev nm_law_bottom : List Str := ["draws", "way"]
theorem sc_law_bottom : FnScope nm_law_bottom ["draws"] (defScope s_law_bottom) := ⟨rfl, rfl, rfl, by decide +kernel, rfl, by decide +kernel, by decide +kernel⟩
theorem st_law_bottom {v0 : V} : start nm_law_bottom [v0] = [some v0, none] := rfl
section
variable {P : Program} {w : World} {K : PySem.W.Frag} {mg : Str → Option Value} {base : Heap} {c : Cl}
theorem ok_law_bottom (D : DefAt K mg "_law_bottom" s_law_bottom ["draws"]) (B_abs : mg "abs" = none) (G__law_draw : Has P w K mg base CX0 2 "_law_draw" ["draws", "many"] (sp_law_draw K)) (G__law_figures : Has P w K mg base CX0 3 "_law_figures" ["draws", "most"] (sp_law_figures K)) : Has P w K mg base CX0 4 "_law_bottom" ["draws"] (sp_law_bottom K) := by
  refine D.ok sc_law_bottom (by rintro _ _ _ _ ⟨_, rfl, _⟩; rfl) (fun f cdv A outer s H vs Q E hr h => ?_)
  obtain ⟨d, rfl, D0, k⟩ := h
  refine ⟨_, (pss_cons (ps_set (i := 1) sc_law_bottom.nd rfl (Or.inl rfl) (pcall G__law_draw (hr.mono (by decide)) (pa_cons (pv 0) (pa_cons pe_int pa_nil))))
      (pss_cons (ps_if (pt_cmpR op_eq (pv 1) pe_int (nomark _)) (pss_one (ps_ret (pe_op op_add pe_int (pe_op op_mod (pe_callB cl_abs (by rfl) B_abs (by decide +kernel) (pa_cons (pcall G__law_figures (hr.mono (by decide)) (pa_cons (pv 0) (pa_cons pe_int pa_nil))) pa_nil)) (pe_op op_pow pe_int pe_int))))) pss_nil)
      (pss_one (ps_ret (pe_op op_add pe_int (pcall G__law_draw (hr.mono (by decide)) (pa_cons (pv 0) (pa_cons (pe_ix ix_list (pe_lst (pa_cons pe_int (pa_cons pe_int (pa_cons (pe_op op_pow pe_int pe_int) pa_nil)))) (pv 1) (fun _ _ => rfl)) pa_nil)))))))), ?_⟩
  rw [st_law_bottom]
  try dsimp only [Cx.nox, Cx.wish, Cx.blk, cx_K, cxH_K]
  walk_at "go"
  refine use_law_draw D0 (by decide) (Sz.mono (n := 200) Sz.lit (by decide)) fun v1 H1 a1 b1 k1 D1 => ?_
  walk_at "go"
  refine if_2 (fun hx => ?_) (fun hx => ?_)
  · walk_at "go"
    refine use_law_figures D1 (by decide) (by decide) fun v2 H2 z2 k2 D2 => ?_
    walk_at "go"
    exact k _ _ (by omega) (by omega) (k1.trans k2) D2
  · have hx := of_decide_eq_false hx
    walk_at "go"
    rename_i l H2 nl e2 hl
    obtain ⟨v, hv, hv'⟩ := at_3 (x := .int 9) (y := .int 60) (z := .int 1000000) a1 (show v1 < 3 by omega)
    refine r_ixL (SqL.of hl) hv ?_
    walk_at "go"
    obtain ⟨u, rfl, u0, u1⟩ : ∃ u : Int, v = .int u ∧ 0 < u ∧ u ≤ 1000000 := by
      rcases hv' with rfl | rfl | rfl
      · exact ⟨_, rfl, by decide, by decide⟩
      · exact ⟨_, rfl, by decide, by decide⟩
      · exact ⟨_, rfl, by decide, by decide⟩
    refine use_law_draw (D1.up e2) u0 (Sz.mono (n := 200) (Sz.small (by omega)) (by decide)) fun v3 H3 a3 b3 k3 D3 => ?_
    walk_at "go"
    exact k _ _ (by omega) (by omega) (k1.trans (e2.kp.trans k3)) D3

end
def sp_law_stair (_ : PySem.W.Frag) : Sp := fun vs H Q _ => ∃ (d : Addr), vs = [.ref d] ∧ Dr H d ∧ ∀ p a b m H', StB a b m → H p = none → Kp d H H' → Dr H' d → H' p = some (.tup [.int a, .int b, .int m]) → Q (.ref p) H'
theorem use_law_stair {K : PySem.W.Frag} {H : Hp} {Q : VK} {E : XK} {d : Addr} (D : Dr H d) (k : ∀ p a b m H', StB a b m → H p = none → Kp d H H' → Dr H' d → H' p = some (.tup [.int a, .int b, .int m]) → Q (.ref p) H') : sp_law_stair K [.ref d] H Q E := ⟨d, rfl, D, k⟩
abbrev s_law_stair : Stmt := topS 44
abbrev nm_law_stair : List Str := ["draws", "m", "a", "b", "by"]
theorem sc_law_stair : FnScope nm_law_stair ["draws"] (defScope s_law_stair) := ⟨rfl, rfl, rfl, by decide +kernel, rfl, by decide +kernel, by decide +kernel⟩
theorem st_law_stair {v0 : V} : start nm_law_stair [v0] = [some v0, none, none, none, none] := rfl
section
variable {P : Program} {w : World} {K : PySem.W.Frag} {mg : Str → Option Value} {base : Heap} {c : Cl}
theorem ok_law_stair (D : DefAt K mg "_law_stair" s_law_stair ["draws"]) (B_abs : mg "abs" = none) (G__law_bottom : Has P w K mg base CX0 4 "_law_bottom" ["draws"] (sp_law_bottom K)) (G__law_draw : Has P w K mg base CX0 2 "_law_draw" ["draws", "many"] (sp_law_draw K)) (G__law_figures : Has P w K mg base CX0 3 "_law_figures" ["draws", "most"] (sp_law_figures K)) : Has P w K mg base CX0 5 "_law_stair" ["draws"] (sp_law_stair K) := by
  refine D.ok sc_law_stair (by rintro _ _ _ _ ⟨_, rfl, _⟩; rfl) (fun f cdv A outer s H vs Q E hr h => ?_)
  obtain ⟨d, rfl, D0, k⟩ := h
  refine ⟨_, (pss_cons (ps_set (i := 1) sc_law_stair.nd rfl (Or.inl rfl) (pcall G__law_bottom (hr.mono (by decide)) (pa_cons (pv 0) pa_nil)))
      (pcut (ps_if (pt_cmpR op_eq (pcall G__law_draw (hr.mono (by decide)) (pa_cons (pv 0) (pa_cons pe_int pa_nil))) pe_int (nomark _)) (pss_one (ps_set (i := 1) sc_law_stair.nd rfl (Or.inl rfl) (pe_op op_add (pe_op op_mulX (pv 1) (pe_op op_pow pe_int pe_int)) (pcall G__law_draw (hr.mono (by decide)) (pa_cons (pv 0) (pa_cons (pe_op op_pow pe_int pe_int) pa_nil)))))) pss_nil)
      (pss_cons (ps_set (i := 2) sc_law_stair.nd rfl (Or.inl rfl) (pe_ix ix_list (pe_lst (pa_cons (pcall G__law_figures (hr.mono (by decide)) (pa_cons (pv 0) (pa_cons pe_int pa_nil))) (pa_cons (pe_op op_sub (pcall G__law_draw (hr.mono (by decide)) (pa_cons (pv 0) (pa_cons (pe_op op_add (pe_op op_mulX pe_int (pv 1)) pe_int) pa_nil))) (pv 1)) (pa_cons (pcall G__law_draw (hr.mono (by decide)) (pa_cons (pv 0) (pa_cons (pe_op op_add (pv 1) pe_int) pa_nil))) pa_nil)))) (pcall G__law_draw (hr.mono (by decide)) (pa_cons (pv 0) (pa_cons pe_int pa_nil))) (fun _ _ => rfl)))
      (pss_cons (ps_set (i := 3) sc_law_stair.nd rfl (Or.inl rfl) (pe_ix ix_list (pe_lst (pa_cons (pcall G__law_figures (hr.mono (by decide)) (pa_cons (pv 0) (pa_cons pe_int pa_nil))) (pa_cons (pe_op op_sub (pcall G__law_draw (hr.mono (by decide)) (pa_cons (pv 0) (pa_cons (pe_op op_add (pe_op op_mulX pe_int (pv 1)) pe_int) pa_nil))) (pe_op op_mulX pe_int (pv 1))) (pa_cons pe_int pa_nil)))) (pcall G__law_draw (hr.mono (by decide)) (pa_cons (pv 0) (pa_cons pe_int pa_nil))) (fun _ _ => rfl)))
      (pss_cons (ps_set (i := 4) sc_law_stair.nd rfl (Or.inl rfl) (pe_ix ix_list (pe_lst (pa_cons pe_int (pa_cons pe_int (pa_cons (pe_op op_add pe_int (pcall G__law_draw (hr.mono (by decide)) (pa_cons (pv 0) (pa_cons pe_int pa_nil)))) pa_nil)))) (pcall G__law_draw (hr.mono (by decide)) (pa_cons (pv 0) (pa_cons pe_int pa_nil))) (fun _ _ => rfl)))
      (pss_cons (ps_if (PW.pt (pw_and (pt_cmpR op_lt (pe_op op_mulX (pv 1) (pv 4)) (pe_op op_pow pe_int pe_int) (nomark _)) (pw_and1 (pt_cmpR op_lt (pe_op op_mulX (pe_callB cl_abs (by rfl) B_abs (by decide +kernel) (pa_cons (pv 2) pa_nil)) (pv 4)) (pe_op op_pow pe_int pe_int) (nomark _))))) (pss_one (ps_ret (pe_tup (pa_cons (pe_op op_mulX (pv 2) (pv 4)) (pa_cons (pv 3) (pa_cons (pe_op op_mulX (pv 1) (pv 4)) pa_nil)))))) pss_nil)
      (pss_one (ps_ret (pe_tup (pa_cons (pv 2) (pa_cons (pv 3) (pa_cons (pv 1) pa_nil)))))))))))), ?_⟩
  rw [st_law_stair]
  try dsimp only [Cx.nox, Cx.wish, Cx.blk, cx_K, cxH_K]
  walk_at "go"
  refine use_law_bottom D0 fun m0 H1 a1 b1 k1 D1 => ?_
  walk_at "go"
  refine r_cut (fun σ H' => ∃ m : Int, σ = [some (.ref d), some (.int m), none, none, none] ∧ Kp d H H' ∧ Dr H' d ∧ 1 ≤ m ∧ m ≤ 500000000000000000000000000000000000000000000000000000000000) ?_ ?_
  walk_at "go"
  refine use_law_draw D1 (by decide) (Sz.mono (n := 200) Sz.lit (by decide)) fun v2 H2 a2 b2 k2 D2 => ?_
  walk_at "go"
  refine if_2 (fun hx => ?_) (fun hx => ?_)
  · have zm : Sz 200 m0 := by
      show m0.natAbs < 2 ^ 200
      omega
    walk_at "go"
    refine use_law_draw D2 (by decide) (Sz.mono (n := 200) Sz.lit (by decide)) fun v3 H3 a3 b3 k3 D3 => ?_
    walk_at "go"
    exact ⟨_, rfl, k1.trans (k2.trans k3), D3, by omega, by omega⟩
  · walk_at "go"
    exact ⟨_, rfl, k1.trans k2, D2, a1, by omega⟩
  rintro σ H3 ⟨m, rfl, k3, D3, m1, m2⟩
  have zm : Sz 200 m := by
    show m.natAbs < 2 ^ 200
    omega
  walk_at "go"
  refine use_law_figures D3 (by decide) (by decide) fun v4 H4 z4 k4 D4 => ?_
  walk_at "go"
  refine use_law_draw D4 (by omega) (by walk_at "szm") fun v5 H5 a5 b5 k5 D5 => ?_
  walk_at "go"
  refine use_law_draw D5 (by omega) (by walk_at "szm") fun v6 H6 a6 b6 k6 D6 => ?_
  walk_at "go"
  rename_i l H7 nl e7 hl
  refine use_law_draw (D6.up e7) (by decide) (Sz.mono (n := 200) Sz.lit (by decide)) fun v8 H8 a8 b8 k8 D8 => ?_
  walk_at "go"
  obtain ⟨x, hx, hx'⟩ := at_3 (x := .int v4) (y := .int (v5 - m)) (z := .int v6) a8 b8
  refine r_ixL (SqL.of (k8 _ _ (D6.free nl) hl)) hx ?_
  obtain ⟨a, rfl, za⟩ : ∃ a, x = .int a ∧ Sz 600 a := by
    rcases hx' with rfl | rfl | rfl
    · exact ⟨_, rfl, z4⟩
    · exact ⟨_, rfl, (zm.le (by omega) (by omega)).mono (by decide)⟩
    · exact ⟨_, rfl, (zm.le (by omega) (by omega)).mono (by decide)⟩
  clear hx hx'
  have kk : Kp d H H8 := k3.trans (k4.trans (k5.trans (k6.trans (e7.kp.trans k8))))
  clear k1 k3 k4 k5 k6 k8 e7 nl hl D0 D1 D3 D4 D5 D6
  walk_at "go"
  refine use_law_figures D8 (by decide) (by decide) fun v9 H9 z9 k9 D9 => ?_
  walk_at "go"
  refine use_law_draw D9 (by omega) (by walk_at "szm") fun v10 H10 a10 b10 k10 D10 => ?_
  walk_at "go"
  rename_i l H11 nl e11 hl
  refine use_law_draw (D10.up e11) (by decide) (Sz.mono (n := 200) Sz.lit (by decide)) fun v12 H12 a12 b12 k12 D12 => ?_
  walk_at "go"
  obtain ⟨x, hx, hx'⟩ := at_3 (x := .int v9) (y := .int (v10 - 2 * m)) (z := .int 0) a12 b12
  refine r_ixL (SqL.of (k12 _ _ (D10.free nl) hl)) hx ?_
  obtain ⟨b, rfl, zb⟩ : ∃ a, x = .int a ∧ Sz 600 a := by
    rcases hx' with rfl | rfl | rfl
    · exact ⟨_, rfl, z9⟩
    · refine ⟨_, rfl, Sz.mono (n := 202) ?_ (by decide)⟩
      show (v10 - 2 * m).natAbs < 2 ^ 202
      omega
    · exact ⟨_, rfl, Sz.mono (n := 200) Sz.lit (by decide)⟩
  clear hx hx'
  have kk2 : Kp d H H12 := kk.trans (k9.trans (k10.trans (e11.kp.trans k12)))
  clear kk k9 k10 k12 e11 nl hl D8 D9 D10
  walk_at "go"
  refine use_law_draw D12 (by decide) (Sz.mono (n := 200) Sz.lit (by decide)) fun v13 H13 a13 b13 k13 D13 => ?_
  walk_at "go"
  rename_i l H14 nl e14 hl
  refine use_law_draw (D13.up e14) (by decide) (Sz.mono (n := 200) Sz.lit (by decide)) fun v15 H15 a15 b15 k15 D15 => ?_
  walk_at "go"
  obtain ⟨x, hx, hx'⟩ := at_3 (x := .int 1) (y := .int 1) (z := .int (1 + v13)) a15 b15
  refine r_ixL (SqL.of (k15 _ _ (D13.free nl) hl)) hx ?_
  obtain ⟨y, rfl, y0, y1⟩ : ∃ a : Int, x = .int a ∧ 1 ≤ a ∧ a ≤ 9 := by
    rcases hx' with rfl | rfl | rfl
    · exact ⟨_, rfl, by decide, by decide⟩
    · exact ⟨_, rfl, by decide, by decide⟩
    · exact ⟨_, rfl, by omega, by omega⟩
  have zy : Sz 5 y := by
    show y.natAbs < 2 ^ 5
    omega
  clear hx hx'
  have kk3 : Kp d H H15 := kk2.trans (k13.trans (e14.kp.trans k15))
  clear kk2 k13 k15 e14 nl hl D12 D13
  walk_at "go"
  refine if_2 (fun q1 => ?_) (fun q1 => ?_)
  · have q1 := of_decide_eq_true q1
    walk_at "go"
    refine if_2 (fun q2 => ?_) (fun q2 => ?_)
    · walk_at "go"
      rename_i p H16 np e16 hp
      have mp : 0 < m * y := Int.mul_pos (by omega) (by omega)
      exact k _ _ _ _ _ ⟨mp, by omega, Sz.mono (za.mul zy) (by decide), zb.mono (by decide)⟩ (free_kp kk3 D15 np) (kk3.trans e16.kp) (D15.up e16) hp
    · walk_at "go"
      rename_i p H16 np e16 hp
      exact k _ _ _ _ _ ⟨by omega, by omega, za.mono (by decide), zb.mono (by decide)⟩ (free_kp kk3 D15 np) (kk3.trans e16.kp) (D15.up e16) hp
  · walk_at "go"
    rename_i p H16 np e16 hp
    exact k _ _ _ _ _ ⟨by omega, by omega, za.mono (by decide), zb.mono (by decide)⟩ (free_kp kk3 D15 np) (kk3.trans e16.kp) (D15.up e16) hp

end
structure Sh (a b m : Int) : Prop where
  ha : a.natAbs < 10 ^ 30
  hb : b.natAbs < 10 ^ 30
  hm : m.natAbs < 10 ^ 30
  m0 : 0 < m
theorem pm1 (c : Bool) : ∃ s : Int, atI [V.int 1, V.int (-1)] (if c = true then 1 else 0) = some (.int s) ∧ (s = 1 ∨ s = -1) := by
  cases c
  · exact ⟨1, rfl, .inl rfl⟩
  · exact ⟨-1, rfl, .inr rfl⟩
def sp_law_short_stair (_ : PySem.W.Frag) : Sp := fun vs H Q _ => ∃ (d : Addr), vs = [.ref d] ∧ Dr H d ∧ ∀ p a b m H', Sh a b m → H p = none → Kp d H H' → Dr H' d → H' p = some (.tup [.int a, .int b, .int m]) → Q (.ref p) H'
theorem use_law_short_stair {K : PySem.W.Frag} {H : Hp} {Q : VK} {E : XK} {d : Addr} (D : Dr H d) (q : ∀ p a b m H', Sh a b m → H p = none → Kp d H H' → Dr H' d → H' p = some (.tup [.int a, .int b, .int m]) → Q (.ref p) H') : sp_law_short_stair K [.ref d] H Q E := ⟨d, rfl, D, q⟩
abbrev s_law_short_stair : Stmt := topS 45
abbrev nm_law_short_stair : List Str := ["draws", "a", "b", "m"]
theorem sc_law_short_stair : FnScope nm_law_short_stair ["draws"] (defScope s_law_short_stair) := ⟨rfl, rfl, rfl, by decide +kernel, rfl, by decide +kernel, by decide +kernel⟩
theorem st_law_short_stair {v0 : V} : start nm_law_short_stair [v0] = [some v0, none, none, none] := rfl
section
variable {P : Program} {w : World} {K : PySem.W.Frag} {mg : Str → Option Value} {base : Heap} {c : Cl}
theorem ok_law_short_stair (D : DefAt K mg "_law_short_stair" s_law_short_stair ["draws"]) (B_int : mg "int" = none) (G__law_stair : Has P w K mg base CX0 5 "_law_stair" ["draws"] (sp_law_stair K)) : Has P w K mg base CX0 6 "_law_short_stair" ["draws"] (sp_law_short_stair K) := by
  refine D.ok sc_law_short_stair (by rintro _ _ _ _ ⟨_, rfl, _⟩; rfl) (fun f cdv A outer s H vs Q E hr h => ?_)
  obtain ⟨d, rfl, D, q⟩ := h
  refine ⟨_, (pss_cons (ps_asg (pcall G__law_stair (hr.mono (by decide)) (pa_cons (pv 0) pa_nil)) (pg_tup (by rfl) (pgs_cons (pg_name (i := 1) sc_law_short_stair.nd rfl (Or.inl rfl)) (pgs_cons (pg_name (i := 2) sc_law_short_stair.nd rfl (Or.inl rfl)) (pgs_cons (pg_name (i := 3) sc_law_short_stair.nd rfl (Or.inl rfl)) pgs_nil)))))
      (pss_one (ps_ret (pe_tup (pa_cons (pe_op op_mulX (pe_op op_mod (pv 1) (pe_op op_pow pe_int pe_int)) (pe_ix ix_list (pe_lst (pa_cons pe_int (pa_cons (pe_un un_neg pe_int) pa_nil))) (pe_callTy cl_int1 (by rfl) B_int (by decide +kernel) (pa_cons (pe_cmpR op_lt (pv 1) pe_int (nomark _)) pa_nil)) (fun _ _ => rfl))) (pa_cons (pe_op op_mulX (pe_op op_mod (pv 2) (pe_op op_pow pe_int pe_int)) (pe_ix ix_list (pe_lst (pa_cons pe_int (pa_cons (pe_un un_neg pe_int) pa_nil))) (pe_callTy cl_int1 (by rfl) B_int (by decide +kernel) (pa_cons (pe_cmpR op_lt (pv 2) pe_int (nomark _)) pa_nil)) (fun _ _ => rfl))) (pa_cons (pe_op op_add pe_int (pe_op op_mod (pe_op op_sub (pv 3) pe_int) (pe_op op_pow pe_int pe_int))) pa_nil))))))), ?_⟩
  rw [st_law_short_stair]
  try dsimp only [Cx.nox, Cx.wish, Cx.blk, cx_K, cxH_K]
  walk_at "go"
  refine use_law_stair D fun p a b m H1 S np k1 D1 hp => ?_
  have za := S.za
  have zb := S.zb
  have zm := S.zm
  have m0 := S.m0
  walk_at "go"
  rename_i p2 H2 n2 e2 h2
  obtain ⟨s, gs, hs⟩ := pm1 (decide (a < 0))
  refine r_ixL (SqL.of h2) gs ?_
  have zs : Sz 200 s := Sz.small (by omega)
  walk_at "go"
  rename_i p3 H3 n3 e3 h3
  obtain ⟨u, gu, hu⟩ := pm1 (decide (b < 0))
  refine r_ixL (SqL.of h3) gu ?_
  have zu : Sz 200 u := Sz.small (by omega)
  walk_at "go"
  rename_i p4 H4 n4 e4 h4
  have x4 := (e2.trans e3).trans e4
  refine q _ _ _ _ _ ⟨?_, ?_, ?_, ?_⟩ (free_kp (k1.trans (e2.trans e3).kp) (D1.up (e2.trans e3)) n4) (k1.trans x4.kp) (D1.up x4) h4
  · show _ < 1000000000000000000000000000000
    rcases hs with rfl | rfl <;> omega
  · show _ < 1000000000000000000000000000000
    rcases hu with rfl | rfl <;> omega
  · show _ < 1000000000000000000000000000000
    omega
  · omega

end
/-! things of any kind -/
def isW : V → Bool
  | .int _ => true
  | _ => false
/-- a thing by its kind -/
def Kd1 (H : Hp) (v : V) : Prop := (∃ i, v = .int i) ∨ (∃ b, v = .bl b) ∨ v = .non ∨ (∃ z, v = .str z) ∨ (∃ p xs, v = .ref p ∧ H p = some (.lst xs)) ∨ ∃ p xs, v = .ref p ∧ H p = some (.tup xs)
theorem Kd1.ex {H H' : Hp} {v : V} (h : Kd1 H v) (e : Ex H H') : Kd1 H' v := by
  rcases h with h | h | h | h | ⟨p, xs, h1, h2⟩ | ⟨p, xs, h1, h2⟩
  · exact .inl h
  · exact .inr (.inl h)
  · exact .inr (.inr (.inl h))
  · exact .inr (.inr (.inr (.inl h)))
  · exact .inr (.inr (.inr (.inr (.inl ⟨p, xs, h1, e _ _ h2⟩))))
  · exact .inr (.inr (.inr (.inr (.inr ⟨p, xs, h1, e _ _ h2⟩))))
def stB : List V → Bool
  | [.int _, .int _, .int m] => decide (1 ≤ m)
  | _ => false
section
variable {K : PySem.W.Frag} {H : Hp} {Q : VK}
theorem r_isi {x : V} {t : Value} {n : String} {b : Bool} (ty : TyOf K H x t) (e : PySem.W.kitOne K t (.type n) = some b) (k : Q (.bl b) H) : rIsi K [x, .ty n] H Q := ⟨_, _, _, _, _, rfl, .ty _, .base ty, e, k⟩
end
/-- what is no stair -/
def NoSt (H : Hp) (v : V) : Prop := (∃ p xs, v = .ref p ∧ H p = some (.tup xs) ∧ xs.length ≤ 1000 ∧ (∀ x ∈ xs, Kd1 H x) ∧ stB xs = false) ∨ (Kd1 H v ∧ ∀ p xs, v = .ref p → H p ≠ some (.tup xs))
theorem NoSt.ex {H H' : Hp} {v : V} (h : NoSt H v) (e : Ex H H') (nd : ∃ o, ∀ p, v = .ref p → H p = some o) : NoSt H' v := by
  rcases h with ⟨p, xs, h1, h2, h3, h4, h5⟩ | ⟨h1, h2⟩
  · exact .inl ⟨p, xs, h1, e _ _ h2, h3, fun x hx => (h4 x hx).ex e, h5⟩
  · refine .inr ⟨h1.ex e, fun p xs hp h' => ?_⟩
    obtain ⟨o, ho⟩ := nd
    have := ho p hp
    rw [e _ _ this] at h'
    cases h'
    exact h2 p xs hp this
theorem NoSt.up {H H' : Hp} {v : V} (h : NoSt H v) (e : Ex H H') : NoSt H' v := by
  refine h.ex e ?_
  rcases h with ⟨p, xs, h1, h2, _⟩ | ⟨h1, _⟩
  · exact ⟨_, fun q hq => by rw [h1] at hq; cases hq; exact h2⟩
  · rcases h1 with ⟨i, rfl⟩ | ⟨b, rfl⟩ | rfl | ⟨z, rfl⟩ | ⟨p, xs, h1, h2⟩ | ⟨p, xs, h1, h2⟩
    · exact ⟨.lst [], by intro p z; cases z⟩
    · exact ⟨.lst [], by intro p z; cases z⟩
    · exact ⟨.lst [], by intro p z; cases z⟩
    · exact ⟨.lst [], by intro p z; cases z⟩
    · exact ⟨_, fun q hq => by rw [h1] at hq; cases hq; exact h2⟩
    · exact ⟨_, fun q hq => by rw [h1] at hq; cases hq; exact h2⟩

def sp_is_whole (_ : PySem.W.Frag) : Sp := fun vs H Q _ => ∃ v : V, vs = [v] ∧ Kd1 H v ∧ Q (.bl (isW v)) H
theorem use_is_whole {K : PySem.W.Frag} {H : Hp} {Q : VK} {E : XK} {i : Int} (k : Q (.bl true) H) : sp_is_whole K [.int i] H Q E := ⟨.int i, rfl, .inl ⟨i, rfl⟩, k⟩
theorem use_is_wholeV {K : PySem.W.Frag} {H : Hp} {Q : VK} {E : XK} {v : V} (h : Kd1 H v) (k : Q (.bl (isW v)) H) : sp_is_whole K [v] H Q E := ⟨v, rfl, h, k⟩
abbrev s_is_whole : Stmt := topS 19
abbrev nm_is_whole : List Str := ["thing"]
theorem sc_is_whole : FnScope nm_is_whole ["thing"] (defScope s_is_whole) := ⟨rfl, rfl, rfl, by decide +kernel, rfl, by decide +kernel, by decide +kernel⟩
theorem st_is_whole {v0 : V} : start nm_is_whole [v0] = [some v0] := rfl
section
variable {P : Program} {w : World} {K : PySem.W.Frag} {mg : Str → Option Value} {base : Heap} {c : Cl}
theorem ok_is_whole (D : DefAt K mg "is_whole" s_is_whole ["thing"]) (B_isinstance : mg "isinstance" = none) (B_int : mg "int" = none) (B_bool : mg "bool" = none) : Has P w K mg base CX0 2 "is_whole" ["thing"] (sp_is_whole K) := by
  refine D.ok sc_is_whole (by rintro _ _ _ _ ⟨_, rfl, _⟩; rfl) (fun f cdv A outer s H vs Q E hr h => ?_)
  obtain ⟨v, rfl, h, k⟩ := h
  refine ⟨_, (pss_one (ps_ret (pe_and (pe_callB call_isi (by rfl) B_isinstance (by decide +kernel) (pa_cons (pv 0) (pa_cons (pe_bltn (v := .ty "int") (by rfl) B_int (by decide +kernel) rfl) pa_nil))) (pe_one (pe_not (pe_callB call_isi (by rfl) B_isinstance (by decide +kernel) (pa_cons (pv 0) (pa_cons (pe_bltn (v := .ty "bool") (by rfl) B_bool (by decide +kernel) rfl) pa_nil)))))))), ?_⟩
  rw [st_is_whole]
  try dsimp only [Cx.nox, Cx.wish, Cx.blk, cx_K, cxH_K]
  rcases h with ⟨i, rfl⟩ | ⟨b, rfl⟩ | rfl | ⟨z, rfl⟩ | ⟨p, xs, rfl, hp⟩ | ⟨p, xs, rfl, hp⟩
  · walk_at "go"
    exact k
  · walk_at "go"
    refine r_isi (.bl b) (b := true) (kit_ty (by decide +kernel)) ?_
    walk_at "go"
    exact k
  · walk_at "go"
    refine r_isi .non (b := false) (kit_ty (by decide +kernel)) ?_
    walk_at "go"
    exact k
  · walk_at "go"
    refine r_isi (.str z) (b := false) (kit_ty (by decide +kernel)) ?_
    walk_at "go"
    exact k
  · walk_at "go"
    refine r_isi (.lst hp) (b := false) (kit_ty (by decide +kernel)) ?_
    walk_at "go"
    exact k
  · walk_at "go"
    refine r_isi (.tup hp) (b := false) (kit_ty (by decide +kernel)) ?_
    walk_at "go"
    exact k

end
/-- at p stands the stair (a, b, m) -/
def StAt (H : Hp) (p : Addr) (a b m : Int) : Prop := H p = some (.tup [.int a, .int b, .int m])
def sp_is_stair (_ : PySem.W.Frag) : Sp := fun vs H Q _ => ∃ v : V, vs = [v] ∧ ((∃ (p : Addr) (xs : List V), v = .ref p ∧ H p = some (.tup xs) ∧ xs.length ≤ 1000 ∧ (∀ x ∈ xs, Kd1 H x) ∧ ∀ H', Ex H H' → Q (.bl (stB xs)) H') ∨
  (Kd1 H v ∧ (∀ p xs, v = .ref p → H p ≠ some (.tup xs)) ∧ ∀ H', Ex H H' → Q (.bl false) H'))
theorem kd_ints {H : Hp} {a b m : Int} : ∀ x ∈ [V.int a, .int b, .int m], Kd1 H x := fun x hx => by
  simp only [List.mem_cons, List.not_mem_nil, or_false] at hx
  rcases hx with rfl | rfl | rfl
  all_goals exact .inl ⟨_, rfl⟩
theorem use_is_stair {K : PySem.W.Frag} {H : Hp} {Q : VK} {E : XK} {p : Addr} {a b m : Int} (h : H p = some (.tup [.int a, .int b, .int m])) (hm : 0 < m) (k : ∀ H', Ex H H' → Q (.bl true) H') : sp_is_stair K [.ref p] H Q E :=
  ⟨.ref p, rfl, .inl ⟨p, _, rfl, h, (show 3 ≤ 1000 by decide), kd_ints, fun H' e => by
    rw [show stB [V.int a, .int b, .int m] = true from decide_eq_true (show 1 ≤ m by omega)]
    exact k H' e⟩⟩
theorem use_is_stairT {K : PySem.W.Frag} {H : Hp} {Q : VK} {E : XK} {p : Addr} {xs : List V} (h : H p = some (.tup xs)) (l : xs.length ≤ 1000) (kd : ∀ x ∈ xs, Kd1 H x) (k : ∀ H', Ex H H' → Q (.bl (stB xs)) H') : sp_is_stair K [.ref p] H Q E := ⟨.ref p, rfl, .inl ⟨p, xs, rfl, h, l, kd, k⟩⟩
theorem use_is_stairN {K : PySem.W.Frag} {H : Hp} {Q : VK} {E : XK} {v : V} (h : Kd1 H v) (n : ∀ p xs, v = .ref p → H p ≠ some (.tup xs)) (k : ∀ H', Ex H H' → Q (.bl false) H') : sp_is_stair K [v] H Q E := ⟨v, rfl, .inr ⟨h, n, k⟩⟩
abbrev s_is_stair : Stmt := topS 20
abbrev nm_is_stair : List Str := ["thing", "number"]
theorem sc_is_stair : FnScope nm_is_stair ["thing"] (defScope s_is_stair) := ⟨rfl, rfl, rfl, by decide +kernel, rfl, by decide +kernel, by decide +kernel⟩
theorem st_is_stair {v0 : V} : start nm_is_stair [v0] = [some v0, none] := rfl
section
variable {P : Program} {w : World} {K : PySem.W.Frag} {mg : Str → Option Value} {base : Heap} {c : Cl}
theorem ok_is_stair (D : DefAt K mg "is_stair" s_is_stair ["thing"]) (B_len : mg "len" = none) (B_isinstance : mg "isinstance" = none) (B_tuple : mg "tuple" = none) (B_all : mg "all" = none) (G_is_whole : Has P w K mg base CX0 2 "is_whole" ["thing"] (sp_is_whole K)) : Has P w K mg base CX0 3 "is_stair" ["thing"] (sp_is_stair K) := by
  refine D.ok sc_is_stair (by rintro _ _ _ _ ⟨_, rfl, _⟩; rfl) (fun f cdv A outer s H vs Q E hr h => ?_)
  obtain ⟨v, rfl, h⟩ := h
  refine ⟨_, (pss_cons (ps_if (PW.pt (pw_or (pt_not (pt_val (pe_callB call_isi (by rfl) B_isinstance (by decide +kernel) (pa_cons (pv 0) (pa_cons (pe_bltn (v := .ty "tuple") (by rfl) B_tuple (by decide +kernel) rfl) pa_nil))))) (pw_or1 (pt_cmpR op_ne (pe_callB cl_len (by rfl) B_len (by decide +kernel) (pa_cons (pv 0) pa_nil)) pe_int (nomark _))))) (pss_one (ps_ret pe_bl)) pss_nil)
      (pss_one (ps_ret (pe_and (pe_callB (cr_all rfl) (by rfl) B_all (by decide +kernel) (pa_cons (pe_lc rfl sc_is_stair.nd (pi_tup (pv 0)) (blkOk_by (own := [("number", 1)]) (N := nm_is_stair) (sc := defScope s_is_stair) (by decide +kernel)) (fun _ _ _ _ _ => (pg_name (i := 1) sc_is_stair.nd rfl (Or.inl rfl))) (fun _ _ _ _ _ => pts_nil) (fun _ _ _ _ _ => (pcall G_is_whole (hr.mono (by decide)) (pa_cons (pv 1) pa_nil)))) pa_nil)) (pe_one (pe_cmpR op_ge (pe_ix ix_tup (pv 0) pe_int (fun _ _ => rfl)) pe_int (nomark _))))))), ?_⟩
  rw [st_is_stair]
  try dsimp only [Cx.nox, Cx.wish, Cx.blk, cx_K, cxH_K]
  rcases h with ⟨p, xs, rfl, hp, lx, kd, k⟩ | ⟨kd, no, k⟩
  · walk_at "go"
    refine if_2 (fun h3 => ?_) (fun h3 => ?_)
    · have h3 : ¬ ((xs.length : Int) = 3) := fun z => by
        rw [decide_eq_true z] at h3
        cases h3
      walk_at "go"
      have e : stB xs = false := by
        unfold stB
        split
        · exact (h3 rfl).elim
        · rfl
      rw [e] at k
      exact k _ Ex.refl
    · have h3 : (xs.length : Int) = 3 := by
        cases hd : decide ((xs.length : Int) = 3) with
        | true => exact of_decide_eq_true hd
        | false =>
          rw [hd] at h3
          cases h3
      walk_at "go"
      refine lc_tupP (fun v => .bl (isW v)) (SqT.of hp) (by omega) (fun _ => rfl) (fun i x hx H1 e1 QE kE => ?_) (fun l H1 nl e1 hl => ?_)
      · walk_at "go"
        exact use_is_wholeV ((kd x (List.mem_of_getElem? hx)).ex e1) (kE _ Ex.refl)
      · walk_at "go"
        refine r_all (bs := xs.map isW) (SqL.of (by rw [hl, List.map_map]; rfl)) ?_
        have hx3 : xs.length = 3 := by omega
        match xs, hx3 with
        | [x, y, z], _ =>
          have ht := e1.at hp
          cases x with
          | int a =>
            cases y with
            | int b =>
              cases z with
              | int m =>
                walk_at "go"
                refine if_T rfl ?_
                walk_at "go"
                exact k _ e1
              | _ => exact ⟨false, rfl, if_F rfl (k _ e1)⟩
            | _ => exact ⟨false, rfl, if_F rfl (k _ e1)⟩
          | _ => exact ⟨false, rfl, if_F rfl (k _ e1)⟩
  · rcases kd with ⟨i, rfl⟩ | ⟨b, rfl⟩ | rfl | ⟨z, rfl⟩ | ⟨p, xs, rfl, hp⟩ | ⟨p, xs, rfl, hp⟩
    · walk_at "go"
      refine r_isi (.int i) (b := false) (kit_ty (by decide +kernel)) ?_
      walk_at "go"
      exact k _ Ex.refl
    · walk_at "go"
      refine r_isi (.bl b) (b := false) (kit_ty (by decide +kernel)) ?_
      walk_at "go"
      exact k _ Ex.refl
    · walk_at "go"
      refine r_isi .non (b := false) (kit_ty (by decide +kernel)) ?_
      walk_at "go"
      exact k _ Ex.refl
    · walk_at "go"
      refine r_isi (.str z) (b := false) (kit_ty (by decide +kernel)) ?_
      walk_at "go"
      exact k _ Ex.refl
    · walk_at "go"
      refine r_isi (.lst hp) (b := false) (kit_ty (by decide +kernel)) ?_
      walk_at "go"
      exact k _ Ex.refl
    · exact (no p xs rfl hp).elim

end
def sp_need_stair (_ : PySem.W.Frag) : Sp := fun vs H Q _ => ∃ (p : Addr) (a b m : Int), vs = [.ref p] ∧ H p = some (.tup [.int a, .int b, .int m]) ∧ 0 < m ∧ ∀ H', Ex H H' → Q .non H'
theorem use_need_stair {K : PySem.W.Frag} {H : Hp} {Q : VK} {E : XK} {p : Addr} {a b m : Int} (h : H p = some (.tup [.int a, .int b, .int m])) (hm : 0 < m) (k : ∀ H', Ex H H' → Q .non H') : sp_need_stair K [.ref p] H Q E := ⟨p, a, b, m, rfl, h, hm, k⟩
abbrev s_need_stair : Stmt := topS 21
abbrev nm_need_stair : List Str := ["thing"]
theorem sc_need_stair : FnScope nm_need_stair ["thing"] (defScope s_need_stair) := ⟨rfl, rfl, rfl, by decide +kernel, rfl, by decide +kernel, by decide +kernel⟩
theorem st_need_stair {v0 : V} : start nm_need_stair [v0] = [some v0] := rfl
section
variable {P : Program} {w : World} {K : PySem.W.Frag} {mg : Str → Option Value} {base : Heap} {c : Cl}
theorem ok_need_stair (D : DefAt K mg "need_stair" s_need_stair ["thing"]) (G_is_stair : Has P w K mg base CX0 3 "is_stair" ["thing"] (sp_is_stair K)) : Has P w K mg base CX0 4 "need_stair" ["thing"] (sp_need_stair K) := by
  refine D.ok sc_need_stair (by rintro _ _ _ _ ⟨_, _, _, _, rfl, _⟩; rfl) (fun f cdv A outer s H vs Q E hr h => ?_)
  obtain ⟨p, a, b, m, rfl, hp, hm, k⟩ := h
  refine ⟨_, (pss_one (ps_if (pt_not (pt_val (pcall G_is_stair (hr.mono (by decide)) (pa_cons (pv 0) pa_nil)))) (pss_one ps_never) pss_nil)), ?_⟩
  rw [st_need_stair]
  try dsimp only [Cx.nox, Cx.wish, Cx.blk, cx_K, cxH_K]
  walk_at "go"
  refine use_is_stair hp hm fun H1 e1 => ?_
  walk_at "go"
  exact k _ e1

end
abbrev COUNTS_BELOW_val : Int := 1000000000000000000000000000000
def sp_need_count (_ : PySem.W.Frag) : Sp := fun vs H Q _ => ∃ (n : Int), vs = [.int n] ∧ 0 ≤ n ∧ n < 1000000000000000000000000000000 ∧ Q .non H
theorem use_need_count {K : PySem.W.Frag} {H : Hp} {Q : VK} {E : XK} {n : Int} (h0 : 0 ≤ n) (h1 : n < 1000000000000000000000000000000) (q : Q .non H) : sp_need_count K [.int n] H Q E := ⟨n, rfl, h0, h1, q⟩
abbrev s_need_count : Stmt := topS 30
abbrev nm_need_count : List Str := ["n"]
theorem sc_need_count : FnScope nm_need_count ["n"] (defScope s_need_count) := ⟨rfl, rfl, rfl, by decide +kernel, rfl, by decide +kernel, by decide +kernel⟩
theorem st_need_count {v0 : V} : start nm_need_count [v0] = [some v0] := rfl
section
variable {P : Program} {w : World} {K : PySem.W.Frag} {mg : Str → Option Value} {base : Heap} {c : Cl}
theorem ok_need_count (D : DefAt K mg "need_count" s_need_count ["n"]) (T_COUNTS_BELOW : ∃ t, mg "COUNTS_BELOW" = some (.int COUNTS_BELOW_val t)) : Has P w K mg base CX0 2 "need_count" ["n"] (sp_need_count K) := by
  refine D.ok sc_need_count (by rintro _ _ _ _ ⟨_, rfl, _⟩; rfl) (fun f cdv A outer s H vs Q E hr h => ?_)
  obtain ⟨_, T_COUNTS_BELOW⟩ := T_COUNTS_BELOW
  obtain ⟨n, rfl, h0, h1, q⟩ := h
  refine ⟨_, (pss_one (ps_if (PW.pt (pw_or (pt_cmpR op_lt (pv 0) pe_int (nomark _)) (pw_or1 (pt_cmpR op_ge (pv 0) (pe_glob (v := .int (1000000000000000000000000000000)) rfl T_COUNTS_BELOW ⟨_, rfl⟩) (nomark _))))) (pss_one ps_never) pss_nil)), ?_⟩
  rw [st_need_count]
  try dsimp only [Cx.nox, Cx.wish, Cx.blk, cx_K, cxH_K]
  walk_at "go"
  exact q

end
/-! whole parts -/
theorem div_split (a b k : Int) {m : Int} (hm : 0 < m) : (a * k + b) / m = a / m * k + b / m + (a % m * k + b % m) / m := by
  have ea := Int.emod_add_mul_ediv a m
  have eb := Int.emod_add_mul_ediv b m
  have e : a * k + b = (a % m * k + b % m) + m * (a / m * k + b / m) := by
    have h1 : a * k = a % m * k + m * (a / m) * k := by
      rw [← Int.add_mul, ea]
    rw [h1, Int.mul_add, Int.mul_assoc]
    omega
  rw [e, Int.add_mul_ediv_left _ _ (by omega : m ≠ 0)]
  omega
theorem mod_split (a b k : Int) {m : Int} : (a * k + b) % m = (a % m * k + b % m) % m := by
  have ea := Int.emod_add_mul_ediv a m
  have eb := Int.emod_add_mul_ediv b m
  have e : a * k + b = (a % m * k + b % m) + m * (a / m * k + b / m) := by
    have h1 : a * k = a % m * k + m * (a / m) * k := by
      rw [← Int.add_mul, ea]
    rw [h1, Int.mul_add, Int.mul_assoc]
    omega
  rw [e, Int.add_mul_emod_self_left]

--@ needs Div
/-! sums, whole parts of many fractions -/
def sm (f : Nat → Int) : Nat → Int
  | 0 => 0
  | n + 1 => sm f n + f n
theorem sm_congr {f g : Nat → Int} : ∀ {n : Nat}, (∀ i, i < n → f i = g i) → sm f n = sm g n
  | 0, _ => rfl
  | n + 1, h => by
    show sm f n + f n = sm g n + g n
    rw [sm_congr (fun i hi => h i (by omega)), h n (by omega)]
theorem sm_add {f : Nat → Int} (n : Nat) : ∀ k : Nat, sm f (n + k) = sm f n + sm (fun i => f (n + i)) k
  | 0 => by
    show sm f n = sm f n + 0
    omega
  | k + 1 => by
    show sm f (n + k) + f (n + k) = sm f n + (sm (fun i => f (n + i)) k + f (n + k))
    rw [sm_add n k]
    omega
theorem sm_plus {f g : Nat → Int} : ∀ n : Nat, sm (fun i => f i + g i) n = sm f n + sm g n
  | 0 => rfl
  | n + 1 => by
    show sm (fun i => f i + g i) n + (f n + g n) = sm f n + f n + (sm g n + g n)
    rw [sm_plus n]
    omega
theorem sm_mul {f : Nat → Int} (c : Int) : ∀ n : Nat, sm (fun i => c * f i) n = c * sm f n
  | 0 => by show (0 : Int) = c * 0; rw [Int.mul_zero]
  | n + 1 => by
    show sm (fun i => c * f i) n + c * f n = c * (sm f n + f n)
    rw [sm_mul c n, Int.mul_add]
theorem sm_const (c : Int) : ∀ n : Nat, sm (fun _ => c) n = c * n
  | 0 => by show (0 : Int) = c * 0; rw [Int.mul_zero]
  | n + 1 => by
    show sm (fun _ => c) n + c = c * ((n : Int) + 1)
    rw [sm_const c n, Int.mul_add, Int.mul_one]
theorem sm_first {f : Nat → Int} : ∀ n : Nat, sm f (n + 1) = f 0 + sm (fun i => f (i + 1)) n
  | 0 => by
    show 0 + f 0 = f 0 + 0
    omega
  | n + 1 => by
    show sm f (n + 1) + f (n + 1) = f 0 + (sm (fun i => f (i + 1)) n + f (n + 1))
    rw [sm_first n]
    omega
theorem sm_rev {f : Nat → Int} : ∀ n : Nat, sm f n = sm (fun i => f (n - 1 - i)) n
  | 0 => rfl
  | n + 1 => by
    rw [sm_first (f := fun i => f (n + 1 - 1 - i))]
    show sm f n + f n = f (n + 1 - 1 - 0) + sm (fun i => f (n + 1 - 1 - (i + 1))) n
    rw [sm_rev n, sm_congr (g := fun i => f (n + 1 - 1 - (i + 1))) (fun i hi => by
      show f (n - 1 - i) = f (n + 1 - 1 - (i + 1))
      congr 1
      omega)]
    show _ + f n = f n + _
    omega
theorem sm_tri : ∀ n : Nat, 2 * sm (fun i => (i : Int)) n = (n : Int) * (n - 1)
  | 0 => rfl
  | n + 1 => by
    show 2 * (sm (fun i => (i : Int)) n + n) = ((n : Int) + 1) * ((n : Int) + 1 - 1)
    rw [Int.mul_add, sm_tri n, show (n : Int) + 1 - 1 = n by omega, Int.add_mul, Int.mul_sub]
    omega
theorem sm_tri2 (n : Nat) : (n : Int) * (n - 1) / 2 = sm (fun i => (i : Int)) n := by
  rw [← sm_tri n]
  omega
/-- the sum of the whole parts of (a k + b) / m over the first n places -/
@[irreducible] def fs (n : Nat) (a b m : Int) : Int := sm (fun k => (a * k + b) / m) n
theorem fs_zero (a b m : Int) : fs 0 a b m = 0 := by unfold fs; rfl
theorem fs_succ (n : Nat) (a b m : Int) : fs (n + 1) a b m = fs n a b m + (a * n + b) / m := by unfold fs; rfl
theorem fs_split (n : Nat) (a b : Int) {m : Int} (hm : 0 < m) : fs n a b m = a / m * ((n : Int) * (n - 1) / 2) + b / m * n + fs n (a % m) (b % m) m := by
  rw [sm_tri2]
  unfold fs
  rw [sm_congr (g := fun k : Nat => (a / m * (k : Int) + b / m) + (a % m * k + b % m) / m) (fun i _ => div_split a b i hm)]
  rw [sm_plus, sm_plus, sm_mul, sm_const]
theorem ediv_is {x m q : Int} (hm : 0 < m) (h0 : q * m ≤ x) (h1 : x < (q + 1) * m) : x / m = q := by
  have e1 : q ≤ x / m := (Int.le_ediv_iff_mul_le hm).mpr h0
  have e2 : x / m < q + 1 := (Int.ediv_lt_iff_lt_mul hm).mpr h1
  omega
/-- the places below a height -/
@[irreducible] def fsH (n : Int) (s m r : Int) (c : Nat) : Int := sm (fun i => n + (s - m * ((i : Int) + 1)) / r) c
theorem fsH_step (n s m r : Int) (c : Nat) : fsH (n + 1) s m r c = fsH n s m r c + c := by
  unfold fsH
  rw [sm_congr (g := fun i : Nat => (n + (s - m * ((i : Int) + 1)) / r) + 1) (fun i _ => by omega), sm_plus, sm_const]
  omega
/-- the turn: (r k + s) / m over n places, by m and r exchanged -/
theorem fs_turnH (s : Int) {m r : Int} (hr : 0 < r) (s0 : 0 ≤ s) (s1 : s < m) : ∀ n : Nat, fs n r s m = fsH n s m r ((r * n + s) / m).toNat := by
  have hm : 0 < m := by omega
  intro n
  induction n with
  | zero =>
    rw [show r * ((0 : Nat) : Int) + s = s by rw [show ((0 : Nat) : Int) = 0 from rfl, Int.mul_zero]; omega, Int.ediv_eq_zero_of_lt s0 s1]
    unfold fs fsH
    rfl
  | succ n ih =>
    rw [fs_succ, ih]
    generalize hy : (r * (n : Int) + s) / m = y
    generalize hz : (r * ((n + 1 : Nat) : Int) + s) / m = z
    have hn1 : r * ((n + 1 : Nat) : Int) + s = r * n + s + r := by
      rw [show ((n + 1 : Nat) : Int) = (n : Int) + 1 from rfl, Int.mul_add, Int.mul_one]
      omega
    have rn : 0 ≤ r * (n : Int) := Int.mul_nonneg (by omega) (by omega)
    have y0 : 0 ≤ y := by
      rw [← hy]
      exact Int.ediv_nonneg (by omega) (by omega)
    have yz : y ≤ z := by
      rw [← hy, ← hz, hn1]
      exact Int.ediv_le_ediv hm (by omega)
    obtain ⟨Y, hY⟩ : ∃ Y : Nat, y = Y := ⟨y.toNat, by omega⟩
    obtain ⟨D, hD⟩ : ∃ D : Nat, z = Y + D := ⟨(z - y).toNat, by omega⟩
    have eY : y.toNat = Y := by omega
    have eZ : z.toNat = Y + D := by omega
    rw [eY, eZ]
    show fsH n s m r Y + y = fsH (((n : Nat) : Int) + 1) s m r (Y + D)
    have e3 : fsH (((n : Nat) : Int) + 1) s m r (Y + D) = fsH (((n : Nat) : Int) + 1) s m r Y + sm (fun i => ((n : Nat) : Int) + 1 + (s - m * (((Y + i : Nat) : Int) + 1)) / r) D := by
      unfold fsH
      exact sm_add Y D
    rw [e3, fsH_step, sm_congr (g := fun _ => 0) (fun i hi => ?_), sm_const]
    · omega
    · have b1 : m * (((Y + i : Nat) : Int) + 1) ≤ r * n + s + r := by
        have h1 : z * m ≤ r * n + s + r := by
          rw [← hz, hn1]
          exact Int.ediv_mul_le _ (by omega)
        have h2 : (((Y + i : Nat) : Int) + 1) * m ≤ z * m := Int.mul_le_mul_of_nonneg_right (by omega) (by omega)
        rw [Int.mul_comm]
        omega
      have b2 : r * n + s < m * (((Y + i : Nat) : Int) + 1) := by
        have h1 : r * n + s < (y + 1) * m := by
          rw [← hy]
          exact Int.lt_ediv_add_one_mul_self _ hm
        have h2 : (y + 1) * m ≤ (((Y + i : Nat) : Int) + 1) * m := Int.mul_le_mul_of_nonneg_right (by omega) (by omega)
        rw [Int.mul_comm m]
        omega
      have q : (s - m * (((Y + i : Nat) : Int) + 1)) / r = -((n : Int) + 1) := by
        refine ediv_is hr ?_ ?_
        · rw [Int.neg_mul, Int.add_mul, Int.one_mul, Int.mul_comm (n : Int) r]
          omega
        · rw [show -((n : Int) + 1) + 1 = -(n : Int) by omega, Int.neg_mul, Int.mul_comm (n : Int) r]
          omega
      show ((n : Nat) : Int) + 1 + (s - m * (((Y + i : Nat) : Int) + 1)) / r = 0
      rw [q]
      omega
theorem fs_turn (n : Nat) (s : Int) {m r : Int} (hr : 0 ≤ r) (s0 : 0 ≤ s) (s1 : s < m) : fs n r s m = fs ((r * n + s) / m).toNat m ((r * n + s) % m) r := by
  have hm : 0 < m := by omega
  by_cases h : r = 0
  · subst h
    rw [Int.zero_mul, Int.zero_add, Int.ediv_eq_zero_of_lt s0 s1]
    rw [show Int.toNat 0 = 0 from rfl, fs_zero]
    unfold fs
    rw [sm_congr (g := fun _ => 0) (fun i _ => by rw [Int.zero_mul, Int.zero_add, Int.ediv_eq_zero_of_lt s0 s1]), sm_const]
    omega
  · rw [fs_turnH s (by omega) s0 s1 n]
    generalize hy : (r * (n : Int) + s) / m = y
    have rn : 0 ≤ r * (n : Int) := Int.mul_nonneg hr (by omega)
    have y0 : 0 ≤ y := by
      rw [← hy]
      exact Int.ediv_nonneg (by omega) (by omega)
    unfold fsH fs
    rw [sm_rev]
    refine sm_congr fun i hi => ?_
    have e := Int.emod_add_mul_ediv (r * n + s) m
    rw [hy] at e
    have c : (((y.toNat - 1 - i : Nat) : Int) + 1) = y - i := by omega
    show (n : Int) + (s - m * (((y.toNat - 1 - i : Nat) : Int) + 1)) / r = (m * (i : Int) + (r * n + s) % m) / r
    rw [c, show m * (i : Int) + (r * n + s) % m = (s - m * (y - i)) + r * n by rw [Int.mul_sub]; omega, Int.add_mul_ediv_left _ _ h]
    omega
theorem fs_loop (n : Nat) (a b : Int) {m : Int} (hm : 0 < m) :
    fs n a b m = a / m * ((n : Int) * (n - 1) / 2) + b / m * n + fs ((a % m * n + b % m) / m).toNat m ((a % m * n + b % m) % m) (a % m) := by
  rw [fs_split n a b hm, fs_turn n (b % m) (Int.emod_nonneg _ (by omega)) (Int.emod_nonneg _ (by omega)) (Int.emod_lt_of_pos _ hm)]
/-- the law's own turn, from the last place -/
theorem fs_quick (b : Int) {m a : Int} (a0 : 0 ≤ a) (b0 : 0 ≤ b) (b1 : b < m) : ∀ L : Nat, fs (L + 1) a b m = (L : Int) * ((a * L + b) / m) - fs ((a * L + b) / m).toNat m (m - b - 1) a := by
  have hm : 0 < m := by omega
  intro L
  induction L with
  | zero =>
    rw [show a * ((0 : Nat) : Int) + b = b by rw [show ((0 : Nat) : Int) = 0 from rfl, Int.mul_zero]; omega, Int.ediv_eq_zero_of_lt b0 b1, fs_succ]
    rw [show a * ((0 : Nat) : Int) + b = b by rw [show ((0 : Nat) : Int) = 0 from rfl, Int.mul_zero]; omega, Int.ediv_eq_zero_of_lt b0 b1, fs_zero, show Int.toNat 0 = 0 from rfl, fs_zero]
    rfl
  | succ n ih =>
    rw [fs_succ, ih]
    generalize hy : (a * (n : Int) + b) / m = y
    generalize hz : (a * ((n + 1 : Nat) : Int) + b) / m = z
    have hn1 : a * ((n + 1 : Nat) : Int) + b = a * n + b + a := by
      rw [show ((n + 1 : Nat) : Int) = (n : Int) + 1 from rfl, Int.mul_add, Int.mul_one]
      omega
    have rn : 0 ≤ a * (n : Int) := Int.mul_nonneg a0 (by omega)
    have y0 : 0 ≤ y := by
      rw [← hy]
      exact Int.ediv_nonneg (by omega) (by omega)
    have yz : y ≤ z := by
      rw [← hy, ← hz, hn1]
      exact Int.ediv_le_ediv hm (by omega)
    obtain ⟨Y, hY⟩ : ∃ Y : Nat, y = Y := ⟨y.toNat, by omega⟩
    obtain ⟨D, hD⟩ : ∃ D : Nat, z = Y + D := ⟨(z - y).toNat, by omega⟩
    have eY : y.toNat = Y := by omega
    have eZ : z.toNat = Y + D := by omega
    rw [eY, eZ]
    have e3 : fs (Y + D) m (m - b - 1) a = fs Y m (m - b - 1) a + sm (fun i => (m * ((Y + i : Nat) : Int) + (m - b - 1)) / a) D := by
      unfold fs
      exact sm_add Y D
    rw [e3, sm_congr (g := fun _ => (n : Int)) (fun i hi => ?_), sm_const, hD, hY]
    · rw [show ((n + 1 : Nat) : Int) = (n : Int) + 1 from rfl, Int.add_mul, Int.one_mul, Int.mul_add]
      omega
    · have b1' : (((Y + i : Nat) : Int) + 1) * m ≤ a * n + b + a := by
        have h1 : z * m ≤ a * n + b + a := by
          rw [← hz, hn1]
          exact Int.ediv_mul_le _ (by omega)
        have h2 : (((Y + i : Nat) : Int) + 1) * m ≤ z * m := Int.mul_le_mul_of_nonneg_right (by omega) (by omega)
        omega
      have b2 : a * n + b < (((Y + i : Nat) : Int) + 1) * m := by
        have h1 : a * n + b < (y + 1) * m := by
          rw [← hy]
          exact Int.lt_ediv_add_one_mul_self _ hm
        have h2 : (y + 1) * m ≤ (((Y + i : Nat) : Int) + 1) * m := Int.mul_le_mul_of_nonneg_right (by omega) (by omega)
        omega
      have ap : 0 < a := by omega
      show (m * ((Y + i : Nat) : Int) + (m - b - 1)) / a = (n : Int)
      have h3 : (((Y + i : Nat) : Int) + 1) * m = m * ((Y + i : Nat) : Int) + m := by rw [Int.add_mul, Int.one_mul, Int.mul_comm m]
      rw [h3] at b1' b2
      refine ediv_is ap ?_ ?_
      · rw [Int.mul_comm (n : Int) a]
        omega
      · rw [Int.add_mul, Int.one_mul, Int.mul_comm (n : Int) a]
        omega
theorem fs_add (n k : Nat) (a b m : Int) : fs (n + k) a b m = fs n a b m + fs k a (a * n + b) m := by
  unfold fs
  rw [sm_add]
  congr 1
  refine sm_congr fun i _ => ?_
  show (a * ((n + i : Nat) : Int) + b) / m = (a * (i : Int) + (a * (n : Int) + b)) / m
  rw [show ((n + i : Nat) : Int) = (n : Int) + i from rfl, Int.mul_add]
  congr 1
  omega
theorem fs_a (n : Nat) (a b y : Int) {m : Int} (hm : 0 < m) : fs n (a + y * m) b m = fs n a b m + y * ((n : Int) * (n - 1) / 2) := by
  rw [sm_tri2, ← sm_mul]
  unfold fs
  rw [← sm_plus]
  refine sm_congr fun i _ => ?_
  show ((a + y * m) * (i : Int) + b) / m = (a * (i : Int) + b) / m + y * (i : Int)
  rw [show (a + y * m) * (i : Int) + b = (a * i + b) + m * (y * i) by
    rw [Int.add_mul, Int.mul_comm y m, Int.mul_assoc]
    omega, Int.add_mul_ediv_left _ _ (by omega : m ≠ 0)]
theorem fs_b (n : Nat) (a b y : Int) {m : Int} (hm : 0 < m) : fs n a (b + y * m) m = fs n a b m + y * n := by
  rw [← sm_const]
  unfold fs
  rw [← sm_plus]
  refine sm_congr fun i _ => ?_
  show (a * (i : Int) + (b + y * m)) / m = (a * (i : Int) + b) / m + y
  rw [show a * (i : Int) + (b + y * m) = (a * i + b) + m * y by
    rw [Int.mul_comm y m]
    omega, Int.add_mul_ediv_left _ _ (by omega : m ≠ 0)]
theorem fs_rev (n : Nat) (a b m : Int) : fs n (0 - a) (a * (n - 1) + b) m = fs n a b m := by
  unfold fs
  rw [sm_rev]
  refine sm_congr fun i hi => ?_
  show ((0 - a) * ((n - 1 - i : Nat) : Int) + (a * ((n : Int) - 1) + b)) / m = (a * (i : Int) + b) / m
  rw [show ((n - 1 - i : Nat) : Int) = (n : Int) - 1 - i by omega, Int.sub_mul, Int.zero_mul, Int.mul_sub a _ (i : Int)]
  congr 1
  omega

--@ needs Sum
/-! papers -/
/-- the rows are a paper -/
inductive Ppr : Int → Int → Int → Int → List (List Int) → Prop
  | last {n a b m r : Int} : 0 < m → r * m ≤ a → (a - r * m) * n + b % m < m → Ppr n a b m [[n, a, b, m, r]]
  | more {n a b m r : Int} {rs : List (List Int)} : 0 < m → r * m ≤ a → m ≤ (a - r * m) * n + b % m → Ppr (((a - r * m) * n + b % m) / m) m (((a - r * m) * n + b % m) % m) (a - r * m) rs → Ppr n a b m ([n, a, b, m, r] :: rs)
/-- the same by the greatest rises -/
inductive Gpr : Int → Int → Int → Int → List (List Int) → Prop
  | last {n a b m : Int} : 0 < m → (a % m) * n + b % m < m → Gpr n a b m [[n, a, b, m, a / m]]
  | more {n a b m : Int} {rs : List (List Int)} : 0 < m → m ≤ (a % m) * n + b % m → Gpr (((a % m) * n + b % m) / m) m (((a % m) * n + b % m) % m) (a % m) rs → Gpr n a b m ([n, a, b, m, a / m] :: rs)
theorem sub_div (a m : Int) : a - a / m * m = a % m := by
  have := Int.emod_add_mul_ediv a m
  rw [Int.mul_comm] at this
  omega
theorem Gpr.ppr {n a b m : Int} {rs : List (List Int)} (h : Gpr n a b m rs) : Ppr n a b m rs := by
  induction h with
  | last h0 h1 => exact .last h0 (Int.ediv_mul_le _ (by omega)) (by rw [sub_div]; exact h1)
  | more h0 h1 _ ih => exact .more h0 (Int.ediv_mul_le _ (by omega)) (by rw [sub_div]; exact h1) (by rw [sub_div]; exact ih)
theorem Gpr.one {n a b m : Int} {rs rs' : List (List Int)} (h : Gpr n a b m rs) (h' : Gpr n a b m rs') : rs = rs' := by
  induction h generalizing rs' with
  | last h0 h1 =>
    cases h' with
    | last _ _ => rfl
    | more _ h2 _ => omega
  | more h0 h1 _ ih =>
    cases h' with
    | last _ h2 => omega
    | more _ _ h3 => rw [ih h3]
theorem Gpr.m0 {n a b m : Int} {rs : List (List Int)} (h : Gpr n a b m rs) : 0 < m := by
  cases h <;> assumption
/-- what the rows take -/
def tkn : List (List Int) → Int
  | [] => 0
  | [n, a, b, m, r] :: rs => r * (n * (n - 1) / 2) + b / m * n + tkn rs
  | _ :: rs => tkn rs
/-- what stands behind a row -/
def fol (n a b m r : Int) : Option (List Int) := if (a - r * m) * n + b % m < m then none else some [((a - r * m) * n + b % m) / m, m, ((a - r * m) * n + b % m) % m, a - r * m]
/-- whether rows are a paper -/
def isP : Option (List Int) → List (List Int) → Bool
  | none, [] => true
  | none, _ :: _ => false
  | some _, [] => false
  | some g, [n, a, b, m, r] :: rs => if [n, a, b, m] = g then (if a < r * m then false else isP (fol n a b m r) rs) else false
  | some _, _ :: _ => false
theorem Ppr.isP {n a b m : Int} {rs : List (List Int)} (h : Ppr n a b m rs) : isP (some [n, a, b, m]) rs = true := by
  induction h with
  | last h0 h1 h2 =>
    unfold Sd.isP fol
    rw [if_pos rfl, if_neg (by omega), if_pos h2]
    rfl
  | more h0 h1 h2 _ ih =>
    unfold Sd.isP fol
    rw [if_pos rfl, if_neg (by omega), if_neg (by omega)]
    exact ih
theorem pos_of_mul {x y : Int} (hy : 0 ≤ y) (h : 0 < x * y) : 0 < x := by
  by_cases z : 0 < x
  · exact z
  · have := Int.mul_nonneg (show 0 ≤ -x by omega) hy
    rw [Int.neg_mul] at this
    omega
theorem fol_m {s n b m : Int} (hm : 0 < m) (hn : 0 ≤ n) (hs : 0 ≤ s) (h : m ≤ s * n + b % m) : 0 < s ∧ 0 < n := by
  have h1 := Int.emod_lt_of_pos b hm
  have h2 : 0 < s * n := by omega
  exact ⟨pos_of_mul hn h2, pos_of_mul hs (by rw [Int.mul_comm]; exact h2)⟩
theorem Ppr.tkn {n a b m : Int} {rs : List (List Int)} (h : Ppr n a b m rs) (hn : 0 ≤ n) : tkn rs = fs n.toNat a b m := by
  have key : ∀ {n a b m r : Int}, 0 ≤ n → 0 < m → fs n.toNat a b m = r * (n * (n - 1) / 2) + b / m * n + fs n.toNat (a - r * m) (b % m) m := by
    intro n a b m r hn hm
    have e1 := fs_a n.toNat (a - r * m) b r hm
    have e2 := fs_b n.toNat (a - r * m) (b % m) (b / m) hm
    rw [show a - r * m + r * m = a by omega] at e1
    rw [show b % m + b / m * m = b by
      have := Int.emod_add_mul_ediv b m
      rw [Int.mul_comm] at this
      omega] at e2
    rw [e1, e2, show ((n.toNat : Nat) : Int) = n by omega]
    omega
  induction h with
  | @last n a b m r h0 h1 h2 =>
    rw [key (r := r) hn h0]
    have r0 := Int.emod_nonneg b (show m ≠ 0 by omega)
    have r1 := Int.emod_lt_of_pos b h0
    rw [fs_turn n.toNat (b % m) (by omega) r0 r1, show ((n.toNat : Nat) : Int) = n by omega]
    have t0 : 0 ≤ (a - r * m) * n := Int.mul_nonneg (by omega) hn
    rw [Int.ediv_eq_zero_of_lt (by omega) h2, show Int.toNat 0 = 0 from rfl, fs_zero]
    rfl
  | @more n a b m r rs h0 h1 h2 h3 ih =>
    rw [key (r := r) hn h0]
    have r0 := Int.emod_nonneg b (show m ≠ 0 by omega)
    have r1 := Int.emod_lt_of_pos b h0
    have t0 : 0 ≤ (a - r * m) * n := Int.mul_nonneg (by omega) hn
    rw [fs_turn n.toNat (b % m) (by omega) r0 r1, show ((n.toNat : Nat) : Int) = n by omega, ← ih (Int.ediv_nonneg (by omega) (by omega))]
    rfl
/-- the product of slope and bottom is halved -/
theorem mod_half {a m : Int} (hm : 0 < m) (h : m < a) : 2 * (m * (a % m)) ≤ a * m := by
  have e := Int.emod_add_mul_ediv a m
  have r0 := Int.emod_nonneg a (show m ≠ 0 by omega)
  have r1 := Int.emod_lt_of_pos a hm
  have q : 1 ≤ a / m := (Int.le_ediv_iff_mul_le hm).mpr (by omega)
  have h1 : m * 1 ≤ m * (a / m) := Int.mul_le_mul_of_nonneg_left q (by omega)
  have h2 : m * (2 * (a % m)) ≤ m * a := Int.mul_le_mul_of_nonneg_left (by omega) (by omega)
  grind
theorem len_halves {x : Int} {c B : Nat} (h0 : 0 < x) (h : x * 2 ^ c ≤ 2 ^ B) : c ≤ B := by
  have h1 : 1 * (2 : Int) ^ c ≤ x * 2 ^ c := Int.mul_le_mul_of_nonneg_right (by omega) (by
    have := Int.pow_pos (n := 2) (m := c) (by decide)
    omega)
  have h2 : (2 : Int) ^ c ≤ 2 ^ B := by omega
  have h3 : (2 : Nat) ^ c ≤ 2 ^ B := by exact_mod_cast h2
  exact (Nat.pow_le_pow_iff_right (by decide)).mp h3
theorem summed_n' {n r s m : Int} (hn : 0 ≤ n) (r0 : 0 ≤ r) (r1 : r < m) (s1 : s < m) : (r * n + s) / m ≤ n := by
  have h : (r * n + s) / m < n + 1 := by
    refine (Int.ediv_lt_iff_lt_mul (by omega)).mpr ?_
    have h1 : r * n ≤ (m - 1) * n := Int.mul_le_mul_of_nonneg_right (by omega) hn
    grind
  omega
/-- the bottom of a row -/
def bot : List Int → Int
  | [_, _, _, m, _] => m
  | _ => 0
theorem Gpr.head {n a b m : Int} {rs : List (List Int)} (h : Gpr n a b m rs) : ∃ rest, rs = [n, a, b, m, a / m] :: rest ∧ (rest = [] ∨ ∃ n' b', Gpr n' m b' (a % m) rest) := by
  cases h with
  | last _ _ => exact ⟨_, rfl, .inl rfl⟩
  | more _ _ h => exact ⟨_, rfl, .inr ⟨_, _, h⟩⟩
theorem half_mod {x y : Int} (hy : 0 < y) (h : y ≤ x) : 2 * (x % y) ≤ x := by
  have e := Int.emod_add_mul_ediv x y
  have r1 := Int.emod_lt_of_pos x hy
  have q : 1 ≤ x / y := (Int.le_ediv_iff_mul_le hy).mpr (by omega)
  have h1 : y * 1 ≤ y * (x / y) := Int.mul_le_mul_of_nonneg_left q (by omega)
  omega
theorem Gpr.shr {n a b m : Int} {rs : List (List Int)} (h : Gpr n a b m rs) : (∀ i, i + 1 < rs.length → (rs.map bot).getD (i + 1) 0 < (rs.map bot).getD i 0) ∧ (∀ i, i + 2 < rs.length → 2 * (rs.map bot).getD (i + 2) 0 ≤ (rs.map bot).getD i 0) := by
  induction h with
  | last h0 h1 => exact ⟨fun i hi => by simp at hi, fun i hi => by simp at hi⟩
  | @more n a b m rs h0 h1 h2 ih =>
    obtain ⟨rest, e, c⟩ := h2.head
    have s0 := h2.m0
    have s1 := Int.emod_lt_of_pos a h0
    subst e
    obtain ⟨ih1, ih2⟩ := ih
    refine ⟨fun i hi => ?_, fun i hi => ?_⟩
    · cases i with
      | zero => exact s1
      | succ i => exact ih1 i (by simp at hi ⊢; omega)
    · cases i with
      | zero =>
        rcases c with c | ⟨n', b', c⟩
        · subst c
          simp at hi
        · obtain ⟨rest', e', _⟩ := c.head
          subst e'
          exact half_mod s0 (by omega)
      | succ i => exact ih2 i (by simp at hi ⊢; omega)

def sp_follows (_ : PySem.W.Frag) : Sp := fun vs H Q _ => ∃ (n a b m r : Int), vs = [.int n, .int a, .int b, .int m, .int r] ∧ 0 < m ∧ Sz 7000 n ∧ Sz 7000 a ∧ Sz 7000 m ∧ Sz 7000 r ∧ ((a - r * m) * n + b % m < m → Q .non H) ∧
  (m ≤ (a - r * m) * n + b % m → ∀ p H', H p = none → Ex H H' → H' p = some (.tup [.int (((a - r * m) * n + b % m) / m), .int m, .int (((a - r * m) * n + b % m) % m), .int (a - r * m)]) → Q (.ref p) H')
theorem use_follows {K : PySem.W.Frag} {H : Hp} {Q : VK} {E : XK} {n a b m r : Int} (hm : 0 < m) (zn : Sz 7000 n) (za : Sz 7000 a) (zm : Sz 7000 m) (zr : Sz 7000 r) (q : (a - r * m) * n + b % m < m → Q .non H)
  (q2 : m ≤ (a - r * m) * n + b % m → ∀ p H', H p = none → Ex H H' → H' p = some (.tup [.int (((a - r * m) * n + b % m) / m), .int m, .int (((a - r * m) * n + b % m) % m), .int (a - r * m)]) → Q (.ref p) H') : sp_follows K [.int n, .int a, .int b, .int m, .int r] H Q E :=
  ⟨n, a, b, m, r, rfl, hm, zn, za, zm, zr, q, q2⟩
abbrev s_follows : Stmt := topS 32
abbrev nm_follows : List Str := ["n", "a", "b", "m", "rise", "slope", "top"]
theorem sc_follows : FnScope nm_follows ["n", "a", "b", "m", "rise"] (defScope s_follows) := ⟨rfl, rfl, rfl, by decide +kernel, rfl, by decide +kernel, by decide +kernel⟩
theorem st_follows {v0 v1 v2 v3 v4 : V} : start nm_follows [v0, v1, v2, v3, v4] = [some v0, some v1, some v2, some v3, some v4, none, none] := rfl
section
variable {P : Program} {w : World} {K : PySem.W.Frag} {mg : Str → Option Value} {base : Heap} {c : Cl}
theorem ok_follows (D : DefAt K mg "follows" s_follows ["n", "a", "b", "m", "rise"]) : Has P w K mg base CX0 2 "follows" ["n", "a", "b", "m", "rise"] (sp_follows K) := by
  refine D.ok sc_follows (by rintro _ _ _ _ ⟨_, _, _, _, _, rfl, _⟩; rfl) (fun f cdv A outer s H vs Q E hr h => ?_)
  obtain ⟨n, a, b, m, r, rfl, hm, zn, za, zm, zr, q, q2⟩ := h
  refine ⟨_, (pss_cons (ps_set (i := 5) sc_follows.nd rfl (Or.inl rfl) (pe_op op_sub (pv 1) (pe_op op_mulX (pv 4) (pv 3))))
      (pss_cons (ps_set (i := 6) sc_follows.nd rfl (Or.inl rfl) (pe_op op_add (pe_op op_mulX (pv 5) (pv 0)) (pe_op op_mod (pv 2) (pv 3))))
      (pss_cons (ps_if (pt_cmpR op_lt (pv 6) (pv 3) (nomark _)) (pss_one (ps_ret pe_non)) pss_nil)
      (pss_one (ps_ret (pe_tup (pa_cons (pe_op op_fdivW (pv 6) (pv 3)) (pa_cons (pv 3) (pa_cons (pe_op op_mod (pv 6) (pv 3)) (pa_cons (pv 5) pa_nil)))))))))), ?_⟩
  rw [st_follows]
  try dsimp only [Cx.nox, Cx.wish, Cx.blk, cx_K, cxH_K]
  walk_at "go"
  refine if_2 (fun hx => ?_) (fun hx => ?_)
  · have hx := of_decide_eq_true hx
    walk_at "go"
    exact q hx
  · have hx := of_decide_eq_false hx
    walk_at "go"
    rename_i t H' nt e ht
    exact q2 (by omega) t H' nt e ht

end
--@ needs Paper
theorem len_first {a m : Int} (hm : 0 < m) (z : Sz 900 m) : m * (a % m) * 2 ^ 1 ≤ 2 ^ 1801 := by
  have z' : m.natAbs < 2 ^ 900 := z
  have z'' : m < 2 ^ 900 := by
    have e : ((2 ^ 900 : Nat) : Int) = (2 : Int) ^ 900 := Int.natCast_pow 2 900
    omega
  have r0 := Int.emod_nonneg a (show m ≠ 0 by omega)
  have r1 := Int.emod_lt_of_pos a hm
  have h1 : m * (a % m) ≤ 2 ^ 900 * (a % m) := Int.mul_le_mul_of_nonneg_right (by omega) r0
  have h2 : (2 : Int) ^ 900 * (a % m) ≤ 2 ^ 900 * 2 ^ 900 := Int.mul_le_mul_of_nonneg_left (by omega) (by omega)
  have h3 : (2 : Int) ^ 900 * 2 ^ 900 = 2 ^ 1800 := by rw [← Int.pow_add]
  have h4 : (2 : Int) ^ 1801 = 2 ^ 1800 * 2 := Int.pow_succ ..
  omega
theorem len_step {a m B : Int} {c : Nat} (hm : 0 < m) (h : m < a) (hb : a * m * 2 ^ c ≤ B) : m * (a % m) * 2 ^ (c + 1) ≤ B := by
  have h1 := mod_half hm h
  have h2 : 2 * (m * (a % m)) * 2 ^ c ≤ a * m * 2 ^ c := Int.mul_le_mul_of_nonneg_right h1 (by
    have := Int.pow_pos (n := 2) (m := c) (by decide)
    omega)
  rw [Int.pow_succ]
  grind
theorem len_end {a m : Int} {c : Nat} (hm : 0 < m) (h : m < a) (hb : a * m * 2 ^ c ≤ 2 ^ 1801) : c ≤ 1801 :=
  len_halves (Int.mul_pos (by omega) hm) hb
/-- how long the rows may be -/
def LenI (c : Nat) (a m : Int) : Prop := c = 0 ∨ (m < a ∧ a * m * 2 ^ c ≤ 2 ^ 1801)
theorem LenI.le {c : Nat} {a m : Int} (h : LenI c a m) (hm : 0 < m) : c ≤ 1801 := by
  rcases h with h | ⟨h1, h2⟩
  · omega
  · exact len_end hm h1 h2
theorem LenI.up {c : Nat} {a m : Int} (h : LenI c a m) (hm : 0 < m) (z : Sz 900 m) : LenI (c + 1) m (a % m) := by
  refine .inr ⟨Int.emod_lt_of_pos a hm, ?_⟩
  rcases h with h | ⟨h1, h2⟩
  · subst h
    exact len_first hm z
  · exact len_step hm h1 h2
def PfG (n a b m : Int) (rs : List (List Int)) (n' a' b' m' : Int) : Prop := ∀ rest, Gpr n' a' b' m' rest → Gpr n a b m (rs ++ rest)

def sp_paper_of (_ : PySem.W.Frag) : Sp := fun vs H Q _ => ∃ (p : Addr) (a b m n : Int), vs = [.ref p, .int n] ∧ H p = some (.tup [.int a, .int b, .int m]) ∧ 0 < m ∧ Sz 3000 a ∧ Sz 3000 b ∧ Sz 900 m ∧ 0 ≤ n ∧ n < 1000000000000000000000000000000 ∧
  ∀ l rs H', H l = none → Ex H H' → RwL H' l rs → RowsZ rs → rs.length ≤ 1802 → Gpr n a b m rs → Q (.ref l) H'
theorem use_paper_of {K : PySem.W.Frag} {H : Hp} {Q : VK} {E : XK} {p : Addr} {a b m n : Int} (hp : H p = some (.tup [.int a, .int b, .int m])) (hm : 0 < m) (za : Sz 3000 a) (zb : Sz 3000 b) (zm : Sz 900 m) (n0 : 0 ≤ n) (n1 : n < 1000000000000000000000000000000)
  (q : ∀ l rs H', H l = none → Ex H H' → RwL H' l rs → RowsZ rs → rs.length ≤ 1802 → Gpr n a b m rs → Q (.ref l) H') : sp_paper_of K [.ref p, .int n] H Q E := ⟨p, a, b, m, n, rfl, hp, hm, za, zb, zm, n0, n1, q⟩
abbrev s_paper_of : Stmt := topS 33
abbrev nm_paper_of : List Str := ["stair", "n", "rows", "begin", "a", "b", "m"]
theorem sc_paper_of : FnScope nm_paper_of ["stair", "n"] (defScope s_paper_of) := ⟨rfl, rfl, rfl, by decide +kernel, rfl, by decide +kernel, by decide +kernel⟩
theorem st_paper_of {v0 v1 : V} : start nm_paper_of [v0, v1] = [some v0, some v1, none, none, none, none, none] := rfl
section
variable {P : Program} {w : World} {K : PySem.W.Frag} {mg : Str → Option Value} {base : Heap} {c : Cl}
theorem ok_paper_of (D : DefAt K mg "paper_of" s_paper_of ["stair", "n"]) (G_need_stair : Has P w K mg base CX0 4 "need_stair" ["thing"] (sp_need_stair K)) (G_need_count : Has P w K mg base CX0 2 "need_count" ["n"] (sp_need_count K)) (G_follows : Has P w K mg base CX0 2 "follows" ["n", "a", "b", "m", "rise"] (sp_follows K)) : Has P w K mg base CX0 5 "paper_of" ["stair", "n"] (sp_paper_of K) := by
  refine D.ok sc_paper_of (by rintro _ _ _ _ ⟨_, _, _, _, _, rfl, _⟩; rfl) (fun f cdv A outer s H vs Q E hr h => ?_)
  obtain ⟨p, a, b, m, n, rfl, hp, hm, za, zb, zm, n0, n1, q⟩ := h
  have zn : Sz 3000 n := Sz.mono (n := 110) (by
    show n.natAbs < 2 ^ 110
    omega) (by decide)
  refine ⟨_, (pss_cons (ps_expr (pcall G_need_stair (hr.mono (by decide)) (pa_cons (pv 0) pa_nil)))
      (pss_cons (ps_expr (pcall G_need_count (hr.mono (by decide)) (pa_cons (pv 1) pa_nil)))
      (pss_cons (ps_set (i := 2) sc_paper_of.nd rfl (Or.inl rfl) (pe_lst pa_nil))
      (pss_cons (ps_set (i := 3) sc_paper_of.nd rfl (Or.inl rfl) (pe_op op_catA (pe_tup (pa_cons (pv 1) pa_nil)) (pv 0)))
      (pss_cons (ps_while PassesOwn.never (pt_cmpR op_notNn (pv 3) pe_non (nomark _)) (pss_cons (ps_asg (pv 3) (pg_tup (by rfl) (pgs_cons (pg_name (i := 1) sc_paper_of.nd rfl (Or.inl rfl)) (pgs_cons (pg_name (i := 4) sc_paper_of.nd rfl (Or.inl rfl)) (pgs_cons (pg_name (i := 5) sc_paper_of.nd rfl (Or.inl rfl)) (pgs_cons (pg_name (i := 6) sc_paper_of.nd rfl (Or.inl rfl)) pgs_nil))))))
        (pss_cons (ps_expr (pe_bm PySem.F.plainAttrs_list PySem.F.slot_list_append PySem.F.type_list_append mt_append (pv 2) (pa_cons (pe_op op_catA (pv 3) (pe_tup (pa_cons (pe_op op_fdivW (pv 4) (pv 6)) pa_nil))) pa_nil)))
        (pss_one (ps_set (i := 3) sc_paper_of.nd rfl (Or.inl rfl) (pcall G_follows (hr.mono (by decide)) (pa_cons (pv 1) (pa_cons (pv 4) (pa_cons (pv 5) (pa_cons (pv 6) (pa_cons (pe_op op_fdivW (pv 4) (pv 6)) pa_nil)))))))))))
      (pss_one (ps_ret (pv 2)))))))), ?_⟩
  rw [st_paper_of]
  try dsimp only [Cx.nox, Cx.wish, Cx.blk, cx_K, cxH_K]
  walk_at "go"
  refine use_need_stair hp hm fun H0 e0 => ?_
  walk_at "go"
  refine use_need_count n0 n1 ?_
  walk_at "go"
  rename_i l H1 nl e1 h1 t2 H2 n2 e2 h2 t3 H3 n3 e3 h3
  have nl0 : H l = none := free_back e0 nl
  have hl3 : H3 l = some (.lst []) := e3 _ _ (e2 _ _ h1)
  refine while_m (fun μ σ H' => Ex H H' ∧ ∃ (vs : List V) (rs : List (List Int)) (v : V) (o1 o4 o5 o6 : Option V), σ = [some (.ref p), o1, some (.ref l), some v, o4, o5, o6] ∧ H' l = some (.lst vs) ∧ RowsA H' vs rs ∧ RowsZ rs ∧
    ((v = .non ∧ Gpr n a b m rs ∧ rs.length ≤ 1802 ∧ μ = 0) ∨ ∃ (r : Addr) (n' a' b' m' : Int), v = .ref r ∧ H' r = some (.tup [.int n', .int a', .int b', .int m']) ∧ 0 ≤ n' ∧ 0 < m' ∧ Sz 3000 n' ∧ Sz 3000 a' ∧ Sz 3000 b' ∧ Sz 900 m' ∧ PfG n a b m rs n' a' b' m' ∧ LenI rs.length a' m' ∧ μ = m'.toNat))
    m.toNat ?_ ?_
  · refine ⟨e0.trans (e1.trans (e2.trans e3)), [], [], _, _, none, none, none, rfl, hl3, trivial, ?_, .inr ⟨_, _, _, _, _, rfl, h3, n0, hm, zn, za, zb, zm, fun _ h => h, .inl rfl, rfl⟩⟩
    intro _ h
    cases h
  rintro μ σ H4 ⟨e4, vs, rs, v, o1, o4, o5, o6, rfl, hl4, R4, Z4, C4⟩
  rcases C4 with ⟨rfl, C4, len, rfl⟩ | ⟨r, n', a', b', m', rfl, hr4, n0', m0', zn', za', zb', zm', C4, L4, rfl⟩
  · walk_at "go"
    exact q l rs H4 nl0 e4 ⟨vs, hl4, R4⟩ Z4 len C4
  · walk_at "go"
    refine r_body (fun σ H' => Ex H H' ∧ ∃ (vs : List V) (rs : List (List Int)) (v : V) (o1 o4 o5 o6 : Option V), σ = [some (.ref p), o1, some (.ref l), some v, o4, o5, o6] ∧ H' l = some (.lst vs) ∧ RowsA H' vs rs ∧ RowsZ rs ∧
    ((v = .non ∧ Gpr n a b m rs ∧ rs.length ≤ 1802) ∨ ∃ (r : Addr) (n'' a'' b'' m'' : Int), v = .ref r ∧ H' r = some (.tup [.int n'', .int a'', .int b'', .int m'']) ∧ 0 ≤ n'' ∧ 0 < m'' ∧ Sz 3000 n'' ∧ Sz 3000 a'' ∧ Sz 3000 b'' ∧ Sz 900 m'' ∧ PfG n a b m rs n'' a'' b'' m'' ∧ LenI rs.length a'' m'' ∧ m'' < m')) ?_ ?_
    · rintro σ' H' ⟨e, vs, rs, v, o1, o4, o5, o6, rfl, g1, g2, g3, g4⟩
      rcases g4 with ⟨rfl, g4, g5⟩ | ⟨r, n'', a'', b'', m'', rfl, g5, g6, g7, g8, g9, g10, g11, g12, g13, g14⟩
      · exact ⟨0, by omega, e, vs, rs, _, o1, o4, o5, o6, rfl, g1, g2, g3, .inl ⟨rfl, g4, g5, rfl⟩⟩
      · exact ⟨_, by omega, e, vs, rs, _, o1, o4, o5, o6, rfl, g1, g2, g3, .inr ⟨r, n'', a'', b'', m'', rfl, g5, g6, g7, g8, g9, g10, g11, g12, g13, rfl⟩⟩
    walk_at "go"
    rename_i t5 H5 n5 e5 h5 t6 H6 n6 e6 h6
    have hl6 := e6 _ _ (e5 _ _ hl4)
    have R6 := (R4.ex e5).ex e6
    have lR := L4.le m0'
    refine r_app hl6 (by rw [R6.len]; omega) fun H7 k7 h7 => ?_
    have R7 : RowsA H7 (vs ++ [.ref t6]) (rs ++ [[n', a', b', m', a' / m']]) := RowsA.app (r := [n', a', b', m', a' / m']) (k7.tupL hl6 h6) (R6.kpL k7 hl6)
    have e7 : Ex H H7 := ((e4.trans e5).trans e6).kpd nl0 k7
    have Z7 : RowsZ (rs ++ [[n', a', b', m', a' / m']]) := Z4.app m0' (zn'.mono (by decide)) (za'.mono (by decide)) (zb'.mono (by decide)) (zm'.mono (by decide)) (by walk_at "szm")
    have ll : (rs ++ [[n', a', b', m', a' / m']]).length = rs.length + 1 := by
      rw [List.length_append]
      rfl
    have sl : a' - a' / m' * m' = a' % m' := sub_div a' m'
    have r0 := Int.emod_nonneg a' (show m' ≠ 0 by omega)
    have r1 := Int.emod_lt_of_pos a' m0'
    have b0 := Int.emod_nonneg b' (show m' ≠ 0 by omega)
    have b1 := Int.emod_lt_of_pos b' m0'
    walk_at "go"
    refine use_follows m0' (zn'.mono (by decide)) (za'.mono (by decide)) (zm'.mono (by decide)) (by walk_at "szm") (fun ht => ?_) (fun ht p8 H8 n8 e8 h8 => ?_)
    · rw [sl] at ht
      walk_at "go"
      exact ⟨e7, _, _, _, _, _, _, _, rfl, h7, R7, Z7, .inl ⟨rfl, C4 _ (.last m0' ht), by omega⟩⟩
    · rw [sl] at ht h8
      walk_at "go"
      have y0 : 0 ≤ (a' % m' * n' + b' % m') / m' := Int.ediv_nonneg (by omega) (by omega)
      have y1 := summed_n' n0' r0 r1 b1
      refine ⟨e7.trans e8, _, _, _, _, _, _, _, rfl, e8 _ _ h7, R7.ex e8, Z7, .inr ⟨_, _, _, _, _, rfl, h8, y0, (fol_m m0' n0' r0 ht).1, zn'.le (by omega) (by omega), zm'.mono (by decide), (Sz.mod zm' m0').mono (by decide), Sz.mod zm' m0', ?_, ?_, r1⟩⟩
      · intro rest hrest
        rw [List.append_assoc]
        exact C4 _ (.more m0' ht hrest)
      · rw [ll]
        exact L4.up m0' zm'

end
/-! texts as lists of signs -/
abbrev TS1 (l : List Nat) : Str := SX.S l
def lit (s : String) : List Nat := s.toList.map Char.toNat
theorem lit_S (s : String) : Str.ofString s = SX.S (lit s) := TL.ext_tl (TL.tl_ofString s)
theorem lit_e : lit "" = [] := by decide +kernel
theorem lit_k : lit "k" = [107] := by decide +kernel
theorem lit_plus : lit "+" = [43] := by decide +kernel
theorem lit_minus : lit "-" = [45] := by decide +kernel
theorem lit_m0 : lit "-0" = [45, 48] := by decide +kernel
theorem lit_z : lit "0" = [48] := by decide +kernel
theorem lit_bar : lit "/" = [47] := by decide +kernel
theorem lit_sp : lit " " = [32] := by decide +kernel
theorem lit_nl : lit "\n" = [10] := by decide +kernel
theorem lit_dig : lit "0123456789" = [48, 49, 50, 51, 52, 53, 54, 55, 56, 57] := by decide +kernel
theorem lit_pm : lit "+-" = [43, 45] := by decide +kernel
/-! the rules, with names -/
def rInSg (neg : Bool) : R2 := fun x y H Q => ∃ (c : Nat) (z : Str), x = .str ⟨#[c]⟩ ∧ y = .str z ∧ Q (.bl (if neg then !decide (c ∈ z.cps.toList) else decide (c ∈ z.cps.toList))) H
theorem op_inS {X : Cx} : OpR X (compareOp .In) (rInSg false) := op_in_sign
theorem op_notInS {X : Cx} : OpR X (compareOp .NotIn) (rInSg true) := op_notIn_sign
def rAddS : R2 := fun x y H Q => ∃ i j, x = .str i ∧ y = .str j ∧ i.length + j.length ≤ sizeLine ∧ Q (.str (i ++ j)) H
theorem op_addS {X : Cx} : OpR X (binaryOp .Add) rAddS := op_add_str
def rSplitS : V → List V → Hp → VK → Prop := fun x xs H Q => ∃ a b, x = .str a ∧ xs = [.str b] ∧ (b.length == 0) = false ∧ a.length + 2 ≤ sizeLine ∧ rNewStrs (Txt.split a b) H Q
theorem mt_splitR {X : Cx} : MtR X "str.split" rSplitS := mt_split
def rFindS : V → List V → Hp → VK → Prop := fun x xs H Q => ∃ a b, x = .str a ∧ xs = [.str b] ∧ Q (.int (Txt.find a b)) H
theorem mt_findR {X : Cx} : MtR X "str.find" rFindS := mt_find
def rIntS : List V → Hp → VK → Prop := fun xs H Q => ∃ a n, xs = [.str a] ∧ PySem.intText? a = some n ∧ a.length ≤ 640 ∧ Q (.int n) H
theorem call_intS {X : Cx} : CallR X (.type "int") rIntS := call_int_str
def rRepS : R2 := fun x y H Q => ∃ a k, x = .str a ∧ y = .int k ∧ 0 ≤ k ∧ k ≤ 100 ∧ a.length ≤ 100000 ∧ Q (.str (Txt.mul a k)) H
theorem op_repS {X : Cx} : OpR X (binaryOp .Mult) rRepS := by
  intro pins s σ H x y v u Q I rx ry h
  obtain ⟨a, k, rfl, rfl, k0, k1, hl, q⟩ := h
  obtain ⟨t, rfl⟩ := rx
  obtain ⟨t', rfl⟩ := ry
  refine SB.mul ⟨?_, fun h1 h2 => ?_, fun h1 h2 => ?_⟩ fun t2 tk => ⟨.str (Txt.mul a k), H, I.tok _, ⟨_, rfl⟩, q⟩
  · rw [decide_eq_false (show ¬ k < -(2 ^ 63 : Int) by omega), decide_eq_false (show ¬ k ≥ 2 ^ 63 by omega)]; rfl
  · have k2 : 1 ≤ k := by omega
    have h3 : (a.length : Int) ≤ (2 ^ 63 - 1) / k := by
      refine (Int.le_ediv_iff_mul_le (by omega)).mpr ?_
      have h4 : (a.length : Int) * k ≤ 100000 * 100 := Int.mul_le_mul (by omega) k1 k0 (by decide)
      exact Int.le_trans h4 (by decide)
    omega
  · have : a.length * k.toNat ≤ 100000 * 100 := Nat.mul_le_mul hl (by omega)
    have h5 : 100000 * 100 ≤ sizeLine := by decide
    exact decide_eq_false (by omega)
theorem tcut_to {l : List Nat} {i : Int} (h : 0 ≤ i) : cutS (SX.S l) none (some i) = SX.S (l.take i.toNat) := (C8.cutS_slice _ _ _).trans (SX.slice_to h)
theorem tcut_from {l : List Nat} {i : Int} (h : 0 ≤ i) : cutS (SX.S l) (some i) none = SX.S (l.drop i.toNat) := (C8.cutS_slice _ _ _).trans (SX.slice_from h)
theorem tcut_mid {l : List Nat} {i j : Int} (h : 0 ≤ i) (h' : 0 ≤ j) : cutS (SX.S l) (some i) (some j) = SX.S ((l.take j.toNat).drop i.toNat) := by
  have e1 : HT.sIx (SX.S l).length 0 (some i) = min i.toNat l.length := by
    rw [SX.S_len]
    unfold HT.sIx
    simp
    omega
  have e2 : HT.sIx (SX.S l).length (SX.S l).length (some j) = min j.toNat l.length := by
    rw [SX.S_len]
    unfold HT.sIx
    simp
    omega
  unfold cutS
  rw [e1, e2]
  show SX.S ((l.drop (min i.toNat l.length)).take (min j.toNat l.length - min i.toNat l.length)) = _
  congr 1
  rw [List.drop_take]
  by_cases c : i.toNat ≤ l.length
  · rw [Nat.min_eq_left c]
    by_cases c2 : j.toNat ≤ l.length
    · rw [Nat.min_eq_left c2]
    · rw [Nat.min_eq_right (a := j.toNat) (b := l.length) (by omega), List.take_of_length_le (by rw [List.length_drop]; omega), List.take_of_length_le (by rw [List.length_drop]; omega)]
  · rw [Nat.min_eq_right (a := i.toNat) (b := l.length) (by omega), List.drop_eq_nil_of_le (Nat.le_refl _), List.drop_eq_nil_of_le (by omega), List.take_nil, List.take_nil]
theorem len_S {l : List Nat} (h : l.length ≤ 1000000) : (SX.S l).length ≤ sizeLine := by
  rw [SX.S_len]
  exact Nat.le_trans h (by decide)
/-- a whole number, written -/
def numI (i : Int) : List Nat := if i < 0 then 45 :: TL.numL i.natAbs else TL.numL i.natAbs
theorem strI_S (i : Int) : Str.ofString (toString i) = SX.S (numI i) := by
  unfold numI
  cases i with
  | ofNat n =>
    rw [if_neg (by show ¬ ((n : Int) < 0); omega)]
    exact SX.num_S n
  | negSucc n =>
    rw [if_pos (Int.negSucc_lt_zero n)]
    have e : toString (Int.negSucc n) = "-" ++ toString ((n + 1 : Nat) : Int) := rfl
    have e2 := congrArg (fun x : Str => x.cps.toList) (SX.num_S (n + 1))
    rw [e, lit_S]
    congr 1
    unfold lit
    rw [String.toList_append, List.map_append]
    have e3 : (toString ((n + 1 : Nat) : Int)).toList.map Char.toNat = TL.numL (n + 1) := by
      have := TL.tl_ofString (toString ((n + 1 : Nat) : Int))
      rw [← this]
      exact e2
    rw [e3]
    rfl
theorem find_S {l : List Nat} {c : Nat} : Txt.find (SX.S l) (SX.S [c]) = if c ∈ l then (l.idxOf c : Int) else -1 := by
  unfold Txt.find
  have at1 : ∀ i, StrLaws.At (SX.S l) (SX.S [c]) (SX.S l).length i ↔ l[i]? = some c := fun i => by
    rw [TL.at_iff (by simp) i]
    show ((l.drop i).take 1 == [c]) = true ↔ _
    rw [beq_iff_eq]
    cases hd : l.drop i with
    | nil =>
      have := List.drop_eq_nil_iff.mp hd
      rw [List.getElem?_eq_none this]
      simp
    | cons x r =>
      have : l[i]? = some x := by
        rw [← List.head?_drop, hd]
        rfl
      rw [this]
      simp
  rcases StrLaws.occ_head (SX.S l) (SX.S [c]) 1 (Nat.le_refl _) with ⟨h0, hn⟩ | ⟨i, r, h0, hi, hn⟩
  · rw [h0, if_neg]
    intro hm
    obtain ⟨j, hj⟩ := List.getElem?_of_mem hm
    exact hn j ((at1 j).mpr hj)
  · have gi := (at1 i).mp hi
    have lt := (List.getElem?_eq_some_iff.mp gi).1
    rw [h0, if_pos (List.mem_of_getElem? gi)]
    show (i : Int) = _
    have e : l.idxOf c = i := by
      have h2 : l.idxOf c ≤ i := by
        have := List.getElem?_eq_some_iff.mp gi
        refine Nat.le_of_not_lt fun hlt => ?_
        have := List.not_of_lt_findIdx (p := (· == c)) (xs := l) (i := i) hlt
        simp_all
      have h3 : ¬ l.idxOf c < i := fun hlt => hn _ hlt ((at1 _).mpr (by
        rw [List.getElem?_eq_getElem (by omega)]
        rw [List.getElem_idxOf]))
      omega
    rw [e]
section
variable {K : PySem.W.Frag} {σ : L2.St} {H : Hp} {Q : VK} {te : TE} {tt : TT} {x y : Str} {l m : List Nat} {i j k : Int} {c : Nat} {p : Addr} {xs : List V}
theorem r_slTo (hx : x = SX.S l) (h : 0 ≤ i) (n : l.length ≤ 1000000) (q : Q (.str (SX.S (l.take i.toNat))) H) : rSlS (.str x) none (some i) H Q := by
  subst hx
  exact ⟨_, rfl, len_S n, by rw [tcut_to h]; exact q⟩
theorem r_slFrom (hx : x = SX.S l) (h : 0 ≤ i) (n : l.length ≤ 1000000) (q : Q (.str (SX.S (l.drop i.toNat))) H) : rSlS (.str x) (some i) none H Q := by
  subst hx
  exact ⟨_, rfl, len_S n, by rw [tcut_from h]; exact q⟩
theorem r_slMid (hx : x = SX.S l) (h : 0 ≤ i) (h' : 0 ≤ j) (n : l.length ≤ 1000000) (q : Q (.str (SX.S ((l.take j.toNat).drop i.toNat))) H) : rSlS (.str x) (some i) (some j) H Q := by
  subst hx
  exact ⟨_, rfl, len_S n, by rw [tcut_mid h h']; exact q⟩
theorem r_addS (hx : x = SX.S l) (hy : y = SX.S m) (n : l.length ≤ 1000000) (n' : m.length ≤ 1000000) (q : Q (.str (SX.S (l ++ m))) H) : rAddS (.str x) (.str y) H Q := by
  subst hx hy
  refine ⟨_, _, rfl, rfl, ?_, by rw [SX.S_cat]; exact q⟩
  rw [SX.S_len, SX.S_len]
  exact Nat.le_trans (Nat.add_le_add n n') (by decide)
theorem r_eqSS' (hx : x = SX.S l) (hy : y = SX.S m) (q : Q (.bl (decide (l = m))) H) : rEq (.str x) (.str y) H Q := by
  subst hx hy
  refine r_eqS ?_
  rw [SX.S_beq_eq]
  exact q
theorem r_neSS' (hx : x = SX.S l) (hy : y = SX.S m) (q : Q (.bl (!decide (l = m))) H) : rNe (.str x) (.str y) H Q := by
  subst hx hy
  refine r_neS ?_
  rw [SX.S_beq_eq]
  exact q
theorem r_inS (hy : y = SX.S m) (q : Q (.bl (decide (c ∈ m))) H) : rInSg false (.str (SX.S [c])) (.str y) H Q := by
  subst hy
  exact ⟨c, _, rfl, rfl, q⟩
theorem r_ninS (hy : y = SX.S m) (q : Q (.bl (!decide (c ∈ m))) H) : rInSg true (.str (SX.S [c])) (.str y) H Q := by
  subst hy
  exact ⟨c, _, rfl, rfl, q⟩
theorem r_ixS (hx : x = SX.S l) (h : 0 ≤ i) (g : l[i.toNat]? = some c) (n : l.length ≤ 1000000) (q : Q (.str (SX.S [c])) H) : rIxS (.str x) (.int i) H Q := by
  subst hx
  refine ⟨_, _, c, rfl, rfl, len_S n, ?_, q⟩
  have lt := (List.getElem?_eq_some_iff.mp g).1
  show (ixN l.length i).bind (fun j => l[j]?) = some c
  have e : ixN l.length i = some i.toNat := by
    unfold ixN
    repeat' split
    all_goals first | rfl | omega | (congr 1; omega)
  rw [e]
  exact g
theorem r_lenSS (hx : x = SX.S l) (n : l.length ≤ 1000000) (q : Q (.int (l.length : Nat)) H) : rLenStr [.str x] H Q := by
  subst hx
  refine r_lenS (len_S n) ?_
  rw [SX.S_len]
  exact q
theorem r_strI (n : Sz 1900 i) (q : Q (.str (SX.S (numI i))) H) : rStrI [.int i] H Q := ⟨i, rfl, by
  have := n
  unfold Sz at this
  by_cases z : i.natAbs = 0
  · rw [z]; decide
  · exact Nat.lt_of_lt_of_le ((Nat.log2_lt z).mpr this) (by decide), by
  show Q (.str (Str.ofString (toString i))) H
  rw [strI_S]
  exact q⟩
theorem r_findS (hx : x = SX.S l) (hy : y = SX.S [c]) (q : Q (.int (if c ∈ l then (l.idxOf c : Int) else -1)) H) : rFindS (.str x) [.str y] H Q := by
  subst hx hy
  exact ⟨_, _, rfl, rfl, by rw [find_S]; exact q⟩
theorem r_splitS (hx : x = SX.S l) (hy : y = SX.S [c]) (hc : c < 256) (n : l.length ≤ 1000000) (q : ∀ p H1, H p = none → Ex H H1 → H1 p = some (.lst ((TL.spl [c] 0 [] l).map fun z => .str (SX.S z))) → Q (.ref p) H1) : rSplitS (.str x) [.str y] H Q := by
  subst hx hy
  refine ⟨_, _, rfl, rfl, rfl, ?_, fun p hp => q p _ hp (Ex.new hp) ?_⟩
  · rw [SX.S_len]
    exact Nat.le_trans (Nat.add_le_add_right n 2) (by decide)
  · rw [upd_same, SX.split_S (by simp) (by simp [hc]), List.map_map]
    rfl
theorem r_intS {n : Int} (hx : x = SX.S l) (g : PySem.intText? (SX.S l) = some n) (hl : l.length ≤ 640) (q : Q (.int n) H) : rIntS [.str x] H Q := by
  subst hx
  exact ⟨_, n, rfl, g, by rw [SX.S_len]; exact hl, q⟩
theorem mul_S {k : Int} (k0 : 0 ≤ k) : Txt.mul (SX.S l) k = SX.S (List.replicate k.toNat l).flatten := by
  unfold Txt.mul
  by_cases h1 : k < 1
  · rw [if_pos h1, show k.toNat = 0 by omega]
    rfl
  · rw [if_neg h1]
    have fl : ∀ (n : Nat) (acc : Array Nat), ((List.replicate n l.toArray).foldl (· ++ ·) acc).toList = acc.toList ++ (List.replicate n l).flatten := by
      intro n
      induction n with
      | zero => intro acc; simp
      | succ n ih =>
        intro acc
        rw [List.replicate_succ, List.foldl_cons, ih, List.replicate_succ, List.flatten_cons]
        simp
    by_cases h2 : (k == 1 || (SX.S l).length == 0) = true
    · rw [if_pos h2]
      rw [Bool.or_eq_true, beq_iff_eq, beq_iff_eq, SX.S_len] at h2
      rcases h2 with rfl | h2
      · simp
      · rw [List.eq_nil_of_length_eq_zero h2]
        congr 1
        simp
    · rw [if_neg h2]
      refine TL.ext_tl ?_
      show ((List.replicate k.toNat l.toArray).foldl (· ++ ·) #[]).toList = _
      rw [fl]
      rfl
theorem r_inL (h : SqL K H p xs) {v : V} (fx : flatV v = true) (fs : xs.all flatV = true) (q : Q (.bl (inV v xs)) H) : rIn K false v (.ref p) H Q := ⟨p, xs, rfl, .inl h, fx, fs, q⟩
theorem r_inT (h : SqT K H p xs) {v : V} (fx : flatV v = true) (fs : xs.all flatV = true) (q : Q (.bl (inV v xs)) H) : rIn K false v (.ref p) H Q := ⟨p, xs, rfl, .inr h, fx, fs, q⟩
theorem r_ninL (h : SqL K H p xs) {v : V} (fx : flatV v = true) (fs : xs.all flatV = true) (q : Q (.bl (!inV v xs)) H) : rIn K true v (.ref p) H Q := ⟨p, xs, rfl, .inl h, fx, fs, q⟩
theorem r_ninT (h : SqT K H p xs) {v : V} (fx : flatV v = true) (fs : xs.all flatV = true) (q : Q (.bl (!inV v xs)) H) : rIn K true v (.ref p) H Q := ⟨p, xs, rfl, .inr h, fx, fs, q⟩
theorem r_iStr {R : It → Hp → Prop} (k : te σ H fun v H1 => ∃ z, v = .str z ∧ R (Its z) H1) : iStr te σ H R := k
/-- [e for a sign in a text if t] -/
theorem lc_strF {vs : List Nat} {jj : Nat} (b : Nat → Bool) (f : Nat → V) (hn : l.length ≤ 1000000) (hw : ∀ v, wipe ((wipe σ vs).set jj (some v)) vs = wipe σ vs)
    (ht : ∀ z ∈ l, PureT tt ((wipe σ vs).set jj (some (.str (SX.S [z])))) H (b z)) (he : ∀ z ∈ l, b z = true → PureE te ((wipe σ vs).set jj (some (.str (SX.S [z])))) H (f z))
    (q : ∀ p H1, H p = none → Ex H H1 → H1 p = some (.lst ((l.filter b).map f)) → Q (.ref p) H1) : LcB (Its (SX.S l)) (gName jj) tt te vs σ H Q := fun Dl hD => by
  have sz : (SX.S l).cps.size = l.length := by simp [SX.S]
  refine lc_it walk_str (fun i H' => Ex H H' ∧ H' Dl = some (.lst (((l.take i).filter b).map f))) ⟨Ex.new hD, upd_same⟩ (fun _ _ _ _ => trivial) (fun i v G G' hi pv y => ?_) (fun H' p => q Dl H' hD p.1 (by rw [p.2, sz, List.take_length]))
  obtain ⟨rfl, c, hc, rfl⟩ := y
  have hc : l[i]? = some c := by
    have : (l.toArray)[i]? = some c := hc
    simpa using this
  have mem := List.mem_of_getElem? hc
  have tk : l.take (i + 1) = l.take i ++ [c] := by rw [List.take_add_one, hc]; rfl
  refine ⟨hw _, ht c mem _ pv.1 _ fun H2 e2 => ?_⟩
  cases hb : b c with
  | true =>
    rw [if_pos rfl]
    refine he c mem hb H2 (pv.1.trans e2) _ fun H3 e3 => ⟨_, e3 _ _ (e2 _ _ pv.2), ?_, ?_⟩
    · rw [List.length_map]
      have := List.length_filter_le b (l.take i)
      rw [List.length_take] at this
      exact Nat.lt_of_le_of_lt (show _ ≤ 1000000 by omega) (by decide)
    · refine ⟨fun a o ho => ?_, ?_⟩
      · rw [upd_ne (ne_of_none ho hD)]
        exact e3 _ _ (e2 _ _ (pv.1 _ _ ho))
      · rw [upd_same, tk, List.filter_append, List.map_append]
        simp [hb]
  | false =>
    rw [if_neg Bool.false_ne_true]
    refine ⟨pv.1.trans e2, ?_⟩
    rw [tk, List.filter_append, List.map_append]
    simp [hb, e2 _ _ pv.2]
end
theorem L_e : Str.ofString "" = SX.S [] := (lit_S _).trans (congrArg SX.S lit_e)
theorem L_k : Str.ofString "k" = SX.S [107] := (lit_S _).trans (congrArg SX.S lit_k)
theorem L_plus : Str.ofString "+" = SX.S [43] := (lit_S _).trans (congrArg SX.S lit_plus)
theorem L_minus : Str.ofString "-" = SX.S [45] := (lit_S _).trans (congrArg SX.S lit_minus)
theorem L_m0 : Str.ofString "-0" = SX.S [45, 48] := (lit_S _).trans (congrArg SX.S lit_m0)
theorem L_z : Str.ofString "0" = SX.S [48] := (lit_S _).trans (congrArg SX.S lit_z)
theorem L_bar : Str.ofString "/" = SX.S [47] := (lit_S _).trans (congrArg SX.S lit_bar)
theorem L_sp : Str.ofString " " = SX.S [32] := (lit_S _).trans (congrArg SX.S lit_sp)
theorem L_nl : Str.ofString "\n" = SX.S [10] := (lit_S _).trans (congrArg SX.S lit_nl)
theorem L_dig : Str.ofString "0123456789" = SX.S [48, 49, 50, 51, 52, 53, 54, 55, 56, 57] := (lit_S _).trans (congrArg SX.S lit_dig)
theorem L_pm : Str.ofString "+-" = SX.S [43, 45] := (lit_S _).trans (congrArg SX.S lit_pm)
theorem r_strE {F : Str → Prop} {x : Str} {l : List Nat} (hx : x = SX.S l) (k : F (SX.S l)) : ∃ z, V.str x = .str z ∧ F z := ⟨_, rfl, by rw [hx]; exact k⟩
local macro_rules | `(tactic| walk_at "str") => `(tactic| first
  | with_reducible exact L_e | with_reducible exact L_k | with_reducible exact L_plus | with_reducible exact L_minus | with_reducible exact L_m0 | with_reducible exact L_z
  | with_reducible exact L_bar | with_reducible exact L_sp | with_reducible exact L_nl | with_reducible exact L_dig | with_reducible exact L_pm | with_reducible exact lit_S _ | with_reducible exact rfl | fail "no step")
local macro_rules | `(tactic| walk_at "len") => `(tactic| first
  | assumption | (simp only [List.length_take, List.length_drop, List.length_append, List.length_cons, List.length_nil, List.length_singleton]; omega) | omega | decide | fail "no step")
local macro_rules | `(tactic| walk_at "go1") => `(tactic| first
  | ((with_reducible refine r_slTo (l := ?l) ?a ?h ?n ?_); (case a => walk_at "str"); (case h => walk_at "pos"); (case n => walk_at "len"))
  | ((with_reducible refine r_slFrom (l := ?l) ?a ?h ?n ?_); (case a => walk_at "str"); (case h => walk_at "pos"); (case n => walk_at "len"))
  | ((with_reducible refine r_slMid (l := ?l) ?a ?h ?h2 ?n ?_); (case a => walk_at "str"); (case h => walk_at "pos"); (case h2 => walk_at "pos"); (case n => walk_at "len"))
  | ((with_reducible refine r_addS (l := ?l) (m := ?m) ?a ?b ?h ?n ?_); (case a => walk_at "str"); (case b => walk_at "str"); (case h => walk_at "len"); (case n => walk_at "len"))
  | ((with_reducible refine r_eqSS' (l := ?l) (m := ?m) ?a ?b ?_); (case a => walk_at "str"); (case b => walk_at "str"))
  | ((with_reducible refine r_neSS' (l := ?l) (m := ?m) ?a ?b ?_); (case a => walk_at "str"); (case b => walk_at "str"))
  | ((with_reducible refine r_inS (m := ?m) ?b ?_); (case b => walk_at "str"))
  | ((with_reducible refine r_ninS (m := ?m) ?b ?_); (case b => walk_at "str"))
  | ((with_reducible refine r_lenSS (l := ?l) ?a ?n ?_); (case a => walk_at "str"); (case n => walk_at "len"))
  | ((with_reducible refine r_strI ?n ?_); (case n => walk_at "szm"))
  | ((with_reducible refine r_splitS (l := ?l) (c := ?c) ?a ?b ?c2 ?n ?_); (case a => walk_at "str"); (case b => walk_at "str"); (case c2 => decide); (case n => walk_at "len"); intro _ _ _ _ _)
  | ((with_reducible refine r_findS (l := ?l) (c := ?c) ?a ?b ?_); (case a => walk_at "str"); (case b => walk_at "str"))
  | with_reducible refine r_iStr ?_
  | ((with_reducible refine r_strE (l := ?l) ?a ?_); (case a => walk_at "str"))
  | fail "no step")
theorem pcall0 {X : Cx} {x : Str} {p pos : Pos} {k : Nat} {sp : Sp} (G : Has X.prog X.w X.K X.mg X.base CX0 k x [] sp) (hr : Room k X.A) (hg : Gl X x := by rfl) (hdb : (x == ("__debug__" : Str)) = false := by decide) : PE X (.Call (.Name x p) [] [] pos) (tCal sp E0 tNil) := by
  obtain ⟨f, fd, m, kp, b, F⟩ := G
  have q := pe_call0 (p := p) (pos := pos) F hr hg m kp b (dvs := []) .nil pass0 hdb
  exact ⟨fun pins s σ H Q I h => q.run pins s σ H Q I h⟩

--@ needs TxtV
/-! the numbers that words write -/
def allD (l : List Nat) : Bool := l.all fun c => decide (48 ≤ c) && decide (c ≤ 57)
theorem allD_iff {l : List Nat} : allD l = true ↔ NumText.AllDigits l := by
  unfold allD NumText.AllDigits
  rw [List.all_eq_true]
  constructor
  · intro h c hc
    have := h c hc
    rw [Bool.and_eq_true, decide_eq_true_eq, decide_eq_true_eq] at this
    exact this
  · intro h c hc
    have := h c hc
    rw [decide_eq_true this.1, decide_eq_true this.2]
    rfl
def figs (l : List Nat) : List Nat := if l.take 1 = [45] then l.drop 1 else l
def nT (l : List Nat) : Option Int :=
  if (figs l).length < 1 ∨ 30 < (figs l).length ∨ l = [45, 48] then none
  else if allD (figs l) = false ∨ ((figs l)[0]? = some 48 ∧ 1 < (figs l).length) then none
  else some (if l.take 1 = [45] then -(NumText.digitsVal (figs l) : Int) else NumText.digitsVal (figs l))
theorem dv_snoc (g : List Nat) (d : Nat) : NumText.digitsVal (g ++ [d]) = NumText.digitsVal g * 10 + (d - 48) := by
  unfold NumText.digitsVal
  rw [List.foldl_append]
  rfl
theorem snoc_ind {P : List Nat → Prop} (h0 : P []) (h1 : ∀ g d, P g → P (g ++ [d])) (l : List Nat) : P l := by
  rw [← List.reverse_reverse (as := l)]
  induction l.reverse with
  | nil => exact h0
  | cons d g ih => rw [List.reverse_cons]; exact h1 _ _ ih
theorem dv_lt (f : List Nat) : NumText.AllDigits f → NumText.digitsVal f < 10 ^ f.length := by
  refine snoc_ind (P := fun f => NumText.AllDigits f → NumText.digitsVal f < 10 ^ f.length) (fun _ => by decide) (fun g d ih h => ?_) f
  have hg := ih fun c hc => h c (List.mem_append_left _ hc)
  have hd := h d (by simp)
  rw [dv_snoc, List.length_append, List.length_singleton, Nat.pow_succ]
  omega
theorem numL_head {n : Nat} (h : 1 ≤ n) : (TL.numL n)[0]? ≠ some 48 := by
  induction n using Nat.strongRecOn with
  | _ n ih =>
    by_cases h10 : n < 10
    · rw [TL.numL_lt h10]
      simp
      omega
    · rw [TL.numL_step (by omega)]
      have := ih (n / 10) (by omega) (by omega)
      rw [List.getElem?_append_left (List.length_pos_iff.mpr (TL.numL_ne _))]
      exact this
theorem numL_back (f : List Nat) : NumText.AllDigits f → f ≠ [] → (f[0]? = some 48 → f.length ≤ 1) → TL.numL (NumText.digitsVal f) = f := by
  refine snoc_ind (P := fun f => NumText.AllDigits f → f ≠ [] → (f[0]? = some 48 → f.length ≤ 1) → TL.numL (NumText.digitsVal f) = f) (fun _ h => (h rfl).elim) (fun g d ih h _ hz => ?_) f
  have hd := h d (by simp)
  by_cases hg : g = []
  · subst hg
    have : NumText.digitsVal ([] ++ [d]) = d - 48 := by rw [dv_snoc]; show 0 * 10 + _ = _; omega
    rw [this, TL.numL_lt (by omega)]
    show [48 + (d - 48)] = [d]
    congr 1
    omega
  · have gl := List.length_pos_iff.mpr hg
    have h0 : g[0]? ≠ some 48 := fun z => by
      have := hz (by rw [List.getElem?_append_left gl]; exact z)
      rw [List.length_append, List.length_singleton] at this
      omega
    have e := ih (fun c hc => h c (List.mem_append_left _ hc)) hg (fun z => (h0 z).elim)
    have n1 : 1 ≤ NumText.digitsVal g := by
      refine Nat.one_le_iff_ne_zero.mpr fun z => h0 ?_
      rw [z, TL.numL_lt (by decide)] at e
      rw [← e]
      rfl
    rw [dv_snoc, TL.numL_step (by omega), show (NumText.digitsVal g * 10 + (d - 48)) / 10 = NumText.digitsVal g by omega, show (NumText.digitsVal g * 10 + (d - 48)) % 10 = d - 48 by omega, e]
    congr 2
    omega
theorem numI_neg {n : Int} (h : n < 0) : numI n = 45 :: TL.numL n.natAbs := by unfold numI; rw [if_pos h]
theorem numI_nn {n : Int} (h : 0 ≤ n) : numI n = TL.numL n.natAbs := by unfold numI; rw [if_neg (by omega)]
theorem numL_no45 (n : Nat) : (TL.numL n).take 1 ≠ [45] := by
  intro h
  have : 45 ∈ (TL.numL n).take 1 := by rw [h]; simp
  exact TL.numL_free (s := 45) (by omega) (List.mem_of_mem_take this)
theorem nT_iff {l : List Nat} {n : Int} : nT l = some n ↔ l = numI n ∧ n.natAbs < 10 ^ 30 := by
  constructor
  · intro h
    unfold nT at h
    split at h
    · cases h
    · rename_i h1
      split at h
      · cases h
      · rename_i h2
        have hA : NumText.AllDigits (figs l) := by
          refine allD_iff.mp ?_
          cases z : allD (figs l)
          · exact (h2 (.inl z)).elim
          · rfl
        have hne : figs l ≠ [] := fun z => h1 (.inl (by rw [z]; decide))
        have h48 : (figs l)[0]? = some 48 → (figs l).length ≤ 1 := fun z => by
          refine Nat.le_of_not_lt fun z2 => h2 (.inr ⟨z, z2⟩)
        have eb := numL_back _ hA hne h48
        have lt : NumText.digitsVal (figs l) < 10 ^ 30 := Nat.lt_of_lt_of_le (dv_lt _ hA) (Nat.pow_le_pow_right (by decide) (Nat.le_of_not_lt fun z => h1 (.inr (.inl z))))
        by_cases h45 : l.take 1 = [45]
        · rw [if_pos h45] at h
          have hf : figs l = l.drop 1 := by unfold figs; rw [if_pos h45]
          have hl : l = 45 :: figs l := by
            rw [hf]
            have := List.take_append_drop 1 l
            rw [h45] at this
            exact this.symm
          have n1 : 1 ≤ NumText.digitsVal (figs l) := by
            refine Nat.one_le_iff_ne_zero.mpr fun z => h1 (.inr (.inr ?_))
            rw [z, TL.numL_lt (by decide)] at eb
            rw [hl, ← eb]
          have e := Option.some.inj h
          refine ⟨?_, by omega⟩
          rw [numI_neg (by omega), show n.natAbs = NumText.digitsVal (figs l) by omega, eb]
          exact hl
        · rw [if_neg h45] at h
          have hf : figs l = l := by unfold figs; rw [if_neg h45]
          have e := Option.some.inj h
          refine ⟨?_, by omega⟩
          rw [numI_nn (by omega), show n.natAbs = NumText.digitsVal (figs l) by omega, eb, hf]
  · rintro ⟨rfl, hn⟩
    have len := TL.numL_len (n := n.natAbs) (k := 30) (by decide) hn
    have ne := TL.numL_ne n.natAbs
    have ll := List.length_pos_iff.mpr ne
    have ok : ¬ (allD (TL.numL n.natAbs) = false ∨ ((TL.numL n.natAbs)[0]? = some 48 ∧ 1 < (TL.numL n.natAbs).length)) := by
      rintro (h | ⟨h, h'⟩)
      · rw [allD_iff.mpr (TL.numL_digits _)] at h
        cases h
      · by_cases z : n.natAbs = 0
        · rw [z, TL.numL_lt (by decide)] at h'
          simp at h'
        · exact numL_head (by omega) h
    by_cases hs : n < 0
    · have hl := numI_neg hs
      have ht : (numI n).take 1 = [45] := by rw [hl]; rfl
      have hf : figs (numI n) = TL.numL n.natAbs := by unfold figs; rw [if_pos ht, hl]; rfl
      unfold nT
      rw [hf, if_neg, if_neg ok, if_pos ht, TL.numL_val]
      · congr 1
        omega
      · rintro (h | h | h)
        · omega
        · omega
        · rw [hl] at h
          have h := List.tail_eq_of_cons_eq h
          exact numL_head (n := n.natAbs) (by omega) (by rw [h]; rfl)
    · have hl := numI_nn (n := n) (by omega)
      have ht : (numI n).take 1 ≠ [45] := by rw [hl]; exact numL_no45 _
      have hf : figs (numI n) = TL.numL n.natAbs := by unfold figs; rw [if_neg ht, hl]
      unfold nT
      rw [hf, if_neg, if_neg ok, if_neg ht, TL.numL_val]
      · congr 1
        omega
      · rintro (h | h | h)
        · omega
        · omega
        · rw [h] at ht
          exact ht rfl
theorem nT_int {l : List Nat} {n : Int} (h : nT l = some n) : PySem.intText? (SX.S l) = some n := by
  obtain ⟨hl, hn⟩ := nT_iff.mp h
  have len := TL.numL_len (n := n.natAbs) (k := 30) (by decide) hn
  by_cases hs : n < 0
  · rw [numI_neg hs] at hl
    subst hl
    refine (PySem.intText_neg (x := SX.S (45 :: TL.numL n.natAbs)) (cs := TL.numL n.natAbs) rfl (TL.numL_digits _) (TL.numL_ne _) ?_).trans ?_
    · rw [SX.S_len, List.length_cons]
      omega
    · rw [TL.numL_val]
      congr 1
      omega
  · rw [numI_nn (by omega)] at hl
    subst hl
    refine (PySem.intText_digits (x := SX.S (TL.numL n.natAbs)) (TL.numL_digits _) (TL.numL_ne _) ?_).trans ?_
    · rw [SX.S_len]
      omega
    · show some ((NumText.digitsVal (TL.numL n.natAbs) : Nat) : Int) = _
      rw [TL.numL_val]
      congr 1
      omega
theorem nT_len {l : List Nat} {n : Int} (h : nT l = some n) : l.length ≤ 31 := by
  obtain ⟨rfl, hn⟩ := nT_iff.mp h
  have len := TL.numL_len (n := n.natAbs) (k := 30) (by decide) hn
  unfold numI
  split
  · rw [List.length_cons]; omega
  · omega
def oI : Option Int → V
  | none => .non
  | some n => .int n
theorem dig_in (z : Nat) : decide (z ∈ [48, 49, 50, 51, 52, 53, 54, 55, 56, 57]) = (decide (48 ≤ z) && decide (z ≤ 57)) := by
  rw [← Bool.decide_and]
  refine decide_eq_decide.mpr ?_
  simp only [List.mem_cons, List.not_mem_nil, or_false]
  omega
/-- plain signs -/
def okT (l : List Nat) : Prop := ∀ c ∈ l, c < 128
theorem okT.sub {l m : List Nat} (h : okT l) (s : ∀ c ∈ m, c ∈ l) : okT m := fun c hc => h c (s c hc)
theorem okT.take {l : List Nat} (h : okT l) (n : Nat) : okT (l.take n) := h.sub fun _ hc => List.mem_of_mem_take hc
theorem okT.drop {l : List Nat} (h : okT l) (n : Nat) : okT (l.drop n) := h.sub fun _ hc => List.mem_of_mem_drop hc
theorem okT.app {l m : List Nat} (h : okT l) (h' : okT m) : okT (l ++ m) := fun c hc => (List.mem_append.mp hc).elim (h c) (h' c)
theorem figs_sub (l : List Nat) : ∀ c ∈ figs l, c ∈ l := fun c hc => by
  unfold figs at hc
  split at hc
  · exact List.mem_of_mem_drop hc
  · exact hc
theorem strOk_S {l : List Nat} (h : okT l) : PyData.canLay0 (.str (SX.S l)) = true := by
  show PyData.strOk (SX.S l) = true
  unfold PyData.strOk
  show (l.toArray.all fun c => decide (c < 0x110000)) = true
  rw [Array.all_eq_true']
  intro c hc
  have := h c (by simpa using hc)
  exact decide_eq_true (by omega)
theorem eqv_nil (ds : List PyData) : PyData.eqv (.list ds) (.list []) = ds.isEmpty := by
  cases ds <;> rfl
/-- [sign for sign in figures if it is no figure] != [] -/
theorem nodig_nil (l : List Nat) : ((l.filter fun c => !(decide (48 ≤ c) && decide (c ≤ 57))).isEmpty) = allD l := by
  induction l with
  | nil => rfl
  | cons c l ih =>
    rw [List.filter_cons]
    unfold allD
    rw [List.all_cons]
    cases (decide (48 ≤ c) && decide (c ≤ 57))
    · rfl
    · exact ih
theorem dp_sgs {K : PySem.W.Frag} {H : Hp} : ∀ l : List Nat, DpAll K H (l.map fun c => .str (SX.S [c])) (l.map fun c => .str (SX.S [c]))
  | [] => .nil
  | c :: l => .cons (.str _) (dp_sgs l)
theorem shp_sgs {l : List Nat} (h : okT l) : SeqAt.shaped (.list (l.map fun c => .str (SX.S [c]))) = true := by
  have h1 : PyData.canLayAll0 (l.map fun c => .str (SX.S [c])) = true := by
    induction l with
    | nil => rfl
    | cons c l ih =>
      show (PyData.canLay0 (.str (SX.S [c])) && PyData.canLayAll0 (l.map fun c => .str (SX.S [c]))) = true
      rw [ih (fun d hd => h d (List.mem_cons_of_mem _ hd)), strOk_S (fun d hd => by rw [List.mem_singleton.mp hd]; exact h c (by simp))]
      rfl
  have h2 : PyData.depthAll (l.map fun c => .str (SX.S [c])) ≤ 1 := by
    induction l with
    | nil => exact Nat.zero_le _
    | cons c l ih =>
      have := ih (fun d hd => h d (List.mem_cons_of_mem _ hd))
      show max (PyData.depth (.str (SX.S [c]))) (PyData.depthAll (l.map fun c => .str (SX.S [c]))) ≤ 1
      have h3 : PyData.depth (.str (SX.S [c])) ≤ 1 := by unfold PyData.depth; omega
      have h4 := this (by
        have := h1
        rw [List.map_cons] at this
        have e : (PyData.canLay0 (.str (SX.S [c])) && PyData.canLayAll0 (l.map fun c => .str (SX.S [c]))) = true := this
        rw [Bool.and_eq_true] at e
        exact e.2)
      omega
  unfold SeqAt.shaped
  rw [Bool.and_eq_true]
  exact ⟨by unfold PyData.canLay0; exact h1, decide_eq_true (by unfold PyData.depth; omega)⟩

--@ needs NumT ThingV
/-! texts cut at a sign; the text of a stair -/
def cutAt (c : Nat) : List Nat → List (List Nat)
  | [] => [[]]
  | x :: r => if x = c then [] :: cutAt c r else match cutAt c r with
    | p :: ps => (x :: p) :: ps
    | [] => [[x]]
theorem cutAt_hit {c : Nat} {r : List Nat} : cutAt c (c :: r) = [] :: cutAt c r := by
  show (if c = c then _ else _) = _
  rw [if_pos rfl]
theorem cutAt_miss {c x : Nat} {r p : List Nat} {ps : List (List Nat)} (h : x ≠ c) (e : cutAt c r = p :: ps) : cutAt c (x :: r) = (x :: p) :: ps := by
  show (if x = c then _ else _) = _
  rw [if_neg h, e]
theorem cutAt_ne (c : Nat) : ∀ l : List Nat, ∃ p ps, cutAt c l = p :: ps
  | [] => ⟨_, _, rfl⟩
  | x :: r => by
    obtain ⟨p, ps, e⟩ := cutAt_ne c r
    by_cases h : x = c
    · subst h
      exact ⟨_, _, cutAt_hit⟩
    · exact ⟨_, _, cutAt_miss h e⟩
theorem spl_cut (c : Nat) : ∀ (l acc : List Nat) (p : List Nat) (ps : List (List Nat)), cutAt c l = p :: ps → TL.spl [c] 0 acc l = (acc ++ p) :: ps
  | [], acc, p, ps, h => by
    cases h
    rw [TL.spl_nil, List.append_nil]
  | x :: r, acc, p, ps, h => by
    obtain ⟨p', ps', e⟩ := cutAt_ne c r
    by_cases hx : x = c
    · subst hx
      rw [cutAt_hit, e] at h
      cases h
      rw [TL.spl_hit (by show ((x :: r).take 1 == [x]) = true; simp)]
      have := spl_cut x r [] _ _ e
      rw [List.append_nil]
      show acc :: TL.spl [x] 0 [] r = _
      rw [this]
      rfl
    · rw [cutAt_miss hx e] at h
      cases h
      rw [TL.spl_miss (by show ((x :: r).take 1 == [c]) = false; simp [hx]), spl_cut c r _ _ _ e, List.append_assoc]
      rfl
theorem spl_eq (c : Nat) (l : List Nat) : TL.spl [c] 0 [] l = cutAt c l := by
  obtain ⟨p, ps, e⟩ := cutAt_ne c l
  rw [spl_cut c l [] p ps e, e]
  rfl
theorem cutAt_free {c : Nat} : ∀ {l : List Nat}, c ∉ l → cutAt c l = [l]
  | [], _ => rfl
  | x :: r, h => cutAt_miss (fun z => h (by rw [z]; exact List.mem_cons_self)) (cutAt_free fun z => h (List.mem_cons_of_mem _ z))
theorem cutAt_app {c : Nat} : ∀ {p : List Nat} (q : List Nat), c ∉ p → cutAt c (p ++ c :: q) = p :: cutAt c q
  | [], q, _ => cutAt_hit
  | x :: r, q, h => cutAt_miss (fun z => h (by rw [z]; exact List.mem_cons_self)) (cutAt_app q fun z => h (List.mem_cons_of_mem _ z))
theorem cutAt_sub {c : Nat} : ∀ {l p : List Nat}, p ∈ cutAt c l → ∀ x ∈ p, x ∈ l
  | [], p, h => by
    rw [List.mem_singleton.mp h]
    intro x hx
    cases hx
  | y :: r, p, h => by
    obtain ⟨p', ps', e⟩ := cutAt_ne c r
    intro x hx
    by_cases hy : y = c
    · subst hy
      rw [cutAt_hit] at h
      rcases List.mem_cons.mp h with rfl | h
      · cases hx
      · exact List.mem_cons_of_mem _ (cutAt_sub h x hx)
    · rw [cutAt_miss hy e] at h
      rcases List.mem_cons.mp h with rfl | h
      · rcases List.mem_cons.mp hx with rfl | hx
        · exact List.mem_cons_self
        · exact List.mem_cons_of_mem _ (cutAt_sub (c := c) (by rw [e]; exact List.mem_cons_self) x hx)
      · exact List.mem_cons_of_mem _ (cutAt_sub (c := c) (by rw [e]; exact List.mem_cons_of_mem _ h) x hx)
theorem cutAt_no {c : Nat} : ∀ {l p : List Nat}, p ∈ cutAt c l → c ∉ p
  | [], p, h => by
    rw [List.mem_singleton.mp h]
    exact List.not_mem_nil
  | y :: r, p, h => by
    obtain ⟨p', ps', e⟩ := cutAt_ne c r
    by_cases hy : y = c
    · subst hy
      rw [cutAt_hit] at h
      rcases List.mem_cons.mp h with rfl | h
      · exact List.not_mem_nil
      · exact cutAt_no h
    · rw [cutAt_miss hy e] at h
      rcases List.mem_cons.mp h with rfl | h
      · intro hx
        rcases List.mem_cons.mp hx with rfl | hx
        · exact hy rfl
        · exact cutAt_no (l := r) (by rw [e]; exact List.mem_cons_self) hx
      · exact cutAt_no (l := r) (by rw [e]; exact List.mem_cons_of_mem _ h)
theorem cutAt_join (c : Nat) : ∀ l : List Nat, TL.joinL [c] (cutAt c l) = l
  | [] => rfl
  | x :: r => by
    obtain ⟨p, ps, e⟩ := cutAt_ne c r
    have ih := cutAt_join c r
    rw [e] at ih
    by_cases h : x = c
    · subst h
      rw [cutAt_hit, e]
      show [] ++ ([x] ++ TL.joinL [x] (p :: ps)) = _
      rw [ih]
      rfl
    · rw [cutAt_miss h e]
      cases ps with
      | nil =>
        have ih : p = r := ih
        rw [ih]
        rfl
      | cons p2 ps =>
        have ih : p ++ ([c] ++ TL.joinL [c] (p2 :: ps)) = r := ih
        show (x :: p) ++ ([c] ++ TL.joinL [c] (p2 :: ps)) = _
        rw [← ih]
        rfl
theorem cutAt_two {c : Nat} {l p q : List Nat} (h : cutAt c l = [p, q]) : l = p ++ c :: q := by
  have := cutAt_join c l
  rw [h] at this
  have this : p ++ ([c] ++ q) = l := this
  rw [← this]
  simp
theorem cutAt_len (c : Nat) : ∀ l : List Nat, (cutAt c l).length ≤ l.length + 1
  | [] => Nat.le_refl _
  | x :: r => by
    obtain ⟨p, ps, e⟩ := cutAt_ne c r
    have := cutAt_len c r
    by_cases h : x = c
    · subst h
      rw [cutAt_hit]
      simp only [List.length_cons]
      omega
    · rw [cutAt_miss h e]
      rw [e] at this
      simp only [List.length_cons] at this ⊢
      omega
/-- the sign ahead of b -/
def sg (b : Int) : Nat := if b < 0 then 45 else 43
def wr (a b m : Int) : List Nat := numI a ++ 107 :: sg b :: (TL.numL b.natAbs ++ 47 :: TL.numL m.natAbs)
structure Wr (l : List Nat) (a b m : Int) : Prop where
  eq : l = wr a b m
  ha : a.natAbs < 10 ^ 30
  hb : b.natAbs < 10 ^ 30
  hm : m.natAbs < 10 ^ 30
  m0 : 0 < m
theorem numI_free {n : Int} {c : Nat} (h : c < 45 ∨ 57 < c ∨ c = 47) : c ∉ numI n := by
  intro hc
  unfold numI at hc
  split at hc
  · rcases List.mem_cons.mp hc with rfl | hc
    · omega
    · exact TL.numL_free (by omega) hc
  · exact TL.numL_free (by omega) hc
theorem sg_or (b : Int) : sg b = 43 ∨ sg b = 45 := by unfold sg; split; exact .inr rfl; exact .inl rfl
theorem nT_numI {n : Int} (h : n.natAbs < 10 ^ 30) : nT (numI n) = some n := nT_iff.mpr ⟨rfl, h⟩
theorem nT_numL {n : Nat} (h : n < 10 ^ 30) : nT (TL.numL n) = some (n : Int) := by
  have := nT_numI (n := (n : Int)) (by omega)
  rw [numI_nn (by omega)] at this
  exact this
theorem numI_len {n : Int} (h : n.natAbs < 10 ^ 30) : (numI n).length ≤ 31 := nT_len (nT_numI h)
theorem numL_len30 {n : Nat} (h : n < 10 ^ 30) : (TL.numL n).length ≤ 30 := TL.numL_len (by decide) h
namespace Wr
variable {l : List Nat} {a b m : Int}
theorem tail_free (_ : Wr l a b m) : (107 : Nat) ∉ sg b :: (TL.numL b.natAbs ++ 47 :: TL.numL m.natAbs) := by
  intro h
  rcases List.mem_cons.mp h with h | h
  · rcases sg_or b with z | z <;> omega
  · rcases List.mem_append.mp h with h | h
    · exact TL.numL_free (by omega) h
    · rcases List.mem_cons.mp h with h | h
      · omega
      · exact TL.numL_free (by omega) h
theorem cut (W : Wr l a b m) : cutAt 107 l = [numI a, sg b :: (TL.numL b.natAbs ++ 47 :: TL.numL m.natAbs)] := by
  rw [W.eq]
  unfold wr
  rw [cutAt_app _ (numI_free (by omega)), cutAt_free W.tail_free]
theorem cut2 (_ : Wr l a b m) : cutAt 47 (TL.numL b.natAbs ++ 47 :: TL.numL m.natAbs) = [TL.numL b.natAbs, TL.numL m.natAbs] := by
  rw [cutAt_app _ (TL.numL_free (by omega)), cutAt_free (TL.numL_free (by omega))]
theorem len (W : Wr l a b m) : l.length ≤ 100 := by
  rw [W.eq]
  unfold wr
  have h1 := numI_len W.ha
  have h2 := numL_len30 W.hb
  have h3 := numL_len30 W.hm
  simp only [List.length_append, List.length_cons]
  omega
theorem ok (W : Wr l a b m) : okT l := by
  rw [W.eq]
  have d : ∀ n, okT (TL.numL n) := fun n c hc => by
    have := TL.numL_digits n c hc
    omega
  intro c hc
  unfold wr at hc
  rcases List.mem_append.mp hc with hc | hc
  · unfold numI at hc
    split at hc
    · rcases List.mem_cons.mp hc with rfl | hc
      · omega
      · exact d _ c hc
    · exact d _ c hc
  · rcases List.mem_cons.mp hc with rfl | hc
    · omega
    · rcases List.mem_cons.mp hc with hc | hc
      · rcases sg_or b with z | z <;> omega
      · rcases List.mem_append.mp hc with hc | hc
        · exact d _ c hc
        · rcases List.mem_cons.mp hc with rfl | hc
          · omega
          · exact d _ c hc
end Wr
theorem Wr.uniq {l : List Nat} {a b m a' b' m' : Int} (W : Wr l a b m) (W' : Wr l a' b' m') : a = a' ∧ b = b' ∧ m = m' := by
  have h := W.cut.symm.trans W'.cut
  injection h with h1 h2
  injection h2 with h2 _
  injection h2 with hs h3
  have e := W.cut2.symm.trans ((congrArg (cutAt 47) h3).trans W'.cut2)
  injection e with e1 e2
  injection e2 with e2 _
  have n1 : some a = some a' := by rw [← nT_numI W.ha, ← nT_numI W'.ha, h1]
  have n2 := TL.numL_inj e1
  have n3 := TL.numL_inj e2
  have m1 := W.m0
  have m2 := W'.m0
  refine ⟨Option.some.inj n1, ?_, by omega⟩
  unfold sg at hs
  split at hs <;> split at hs <;> omega
theorem in_pm (l : List Nat) : inV (.str (SX.S l)) [.str (Str.ofString "+"), .str (Str.ofString "-")] = (decide (l = [43]) || decide (l = [45])) := by
  show ((Str.ofString "+" == SX.S l) || ((Str.ofString "-" == SX.S l) || false)) = _
  rw [L_plus, L_minus, SX.S_beq_eq, SX.S_beq_eq, Bool.or_false, decide_eq_decide.mpr (eq_comm (a := [43]) (b := l)), decide_eq_decide.mpr (eq_comm (a := [45]) (b := l))]
/-- what a word writes, for values -/
def nV : V → V
  | .str z => oI (nT (TL.tl z))
  | _ => .non
theorem nV_S (l : List Nat) : nV (.str (SX.S l)) = oI (nT l) := rfl
theorem Wr.no0 {l : List Nat} {a b m : Int} (_ : Wr l a b m) : ¬ (List.take (Int.toNat 2) (sg b :: (TL.numL b.natAbs ++ 47 :: TL.numL m.natAbs)) = [45, 48]) := by
  intro h
  obtain ⟨c, r, e⟩ := List.exists_cons_of_ne_nil (TL.numL_ne b.natAbs)
  rw [e] at h
  have h : [sg b, c] = [45, 48] := h
  injection h with h1 h2
  injection h2 with h2 _
  unfold sg at h1
  split at h1
  · rename_i hb
    refine numL_head (n := b.natAbs) (by omega) ?_
    rw [e, h2]
    rfl
  · omega
theorem inV_nons (xs : List (Option Int)) : inV .non (xs.map oI) = xs.any Option.isNone := by
  unfold inV
  rw [List.any_map]
  congr 1
  funext x
  cases x <;> rfl
theorem numI_pos45 {u : List Nat} {n : Int} (h : nT u = some n) (h45 : ¬ u.take 1 = [45]) : 0 ≤ n ∧ u = TL.numL n.natAbs := by
  obtain ⟨e, hn⟩ := nT_iff.mp h
  by_cases z : n < 0
  · rw [numI_neg z] at e
    exact (h45 (by rw [e]; rfl)).elim
  · rw [numI_nn (by omega)] at e
    exact ⟨by omega, e⟩
theorem Wr.of {l p u v : List Nat} {c : Nat} {a b m : Int} (hl : l = p ++ 107 :: c :: (u ++ 47 :: v)) (hc : c = 43 ∨ c = 45) (hp : nT p = some a) (hu : nT u = some b) (hv : nT v = some m)
    (u45 : ¬ u.take 1 = [45]) (v45 : ¬ v.take 1 = [45]) (m0 : m ≠ 0) (n0 : ¬ List.take 2 (c :: (u ++ 47 :: v)) = [45, 48]) : Wr l a (if c = 45 then 0 - b else b) m := by
  obtain ⟨b0, eu⟩ := numI_pos45 hu u45
  obtain ⟨mm, ev⟩ := numI_pos45 hv v45
  have ha := nT_iff.mp hp
  have hb := (nT_iff.mp hu).2
  have hm := (nT_iff.mp hv).2
  rcases hc with rfl | rfl
  · rw [if_neg (by decide)]
    refine ⟨?_, ha.2, hb, hm, by omega⟩
    rw [hl, ha.1, eu, ev]
    unfold wr sg
    rw [if_neg (by omega)]
  · rw [if_pos rfl]
    have b1 : b ≠ 0 := fun z => by
      rw [z] at eu
      have eu : u = [48] := eu.trans (TL.numL_lt (by decide))
      rw [eu] at n0
      exact n0 rfl
    refine ⟨?_, ha.2, by omega, hm, by omega⟩
    rw [hl, ha.1, eu, ev]
    unfold wr sg
    rw [if_pos (by omega), show (0 - b).natAbs = b.natAbs by omega]
theorem idx_app {c : Nat} {p q : List Nat} (h : c ∉ p) : (p ++ c :: q).idxOf c = p.length := by
  induction p with
  | nil => simp [List.idxOf_cons]
  | cons x p ih =>
    have h1 : x ≠ c := fun z => h (by rw [z]; exact List.mem_cons_self)
    rw [List.cons_append, List.idxOf_cons, ih fun z => h (List.mem_cons_of_mem _ z), show (x == c) = false from beq_eq_false_iff_ne.mpr h1]
    rfl
/-- where a sign is found, else 0 -/
def fnd (c : Nat) (l : List Nat) : Int := max (if c ∈ l then (l.idxOf c : Int) else -1) 0
theorem fnd_app {c : Nat} {p q : List Nat} (h : c ∉ p) : fnd c (p ++ c :: q) = p.length := by
  unfold fnd
  rw [if_pos (by simp), idx_app h]
  omega
theorem fnd0 (c : Nat) (l : List Nat) : 0 ≤ fnd c l := by
  unfold fnd
  omega
theorem Wr.nums {l : List Nat} {a b m : Int} (W : Wr l a b m) : nT (l.take (fnd 107 l).toNat) = some a ∧ nT ((l.take (fnd 47 l).toNat).drop (fnd 107 l + 2).toNat) = some (b.natAbs : Int) ∧ nT (l.drop (fnd 47 l + 1).toNat) = some m := by
  have h1 : fnd 107 l = (numI a).length := by
    rw [W.eq]
    exact fnd_app (numI_free (by omega))
  have e2 : l = (numI a ++ 107 :: sg b :: TL.numL b.natAbs) ++ 47 :: TL.numL m.natAbs := by
    rw [W.eq]
    unfold wr
    simp
  have h2 : fnd 47 l = ((numI a ++ 107 :: sg b :: TL.numL b.natAbs).length : Nat) := by
    rw [e2]
    refine fnd_app fun h => ?_
    rcases List.mem_append.mp h with h | h
    · exact numI_free (by omega) h
    · rcases List.mem_cons.mp h with h | h
      · omega
      · rcases List.mem_cons.mp h with h | h
        · rcases sg_or b with z | z <;> omega
        · exact TL.numL_free (by omega) h
  have t1 : l.take (fnd 107 l).toNat = numI a := by
    rw [h1, W.eq]
    show List.take (numI a).length _ = _
    unfold wr
    exact List.take_left' rfl
  have t2 : l.take (fnd 47 l).toNat = numI a ++ 107 :: sg b :: TL.numL b.natAbs := by
    rw [h2]
    conv => lhs; rw [e2]
    exact List.take_left' rfl
  have t3 : l.drop (fnd 47 l + 1).toNat = TL.numL m.natAbs := by
    rw [h2, show (((numI a ++ 107 :: sg b :: TL.numL b.natAbs).length : Nat) + 1 : Int).toNat = (numI a ++ 107 :: sg b :: TL.numL b.natAbs).length + 1 by omega]
    conv => lhs; rw [e2]
    rw [← List.drop_drop, List.drop_left' rfl]
    rfl
  have t4 : (l.take (fnd 47 l).toNat).drop (fnd 107 l + 2).toNat = TL.numL b.natAbs := by
    rw [t2, h1, show (((numI a).length : Nat) + 2 : Int).toNat = (numI a).length + 2 by omega, ← List.drop_drop, List.drop_left' rfl]
    rfl
  have m0 := W.m0
  refine ⟨by rw [t1, nT_numI W.ha], by rw [t4, nT_numL W.hb], ?_⟩
  rw [t3, nT_numL W.hm]
  congr 1
  omega
/-- what is no text -/
def NoTx (H : Hp) (v : V) : Prop := Kd1 H v ∧ ∀ z, v ≠ .str z
theorem NoTx.ex {H H' : Hp} {v : V} (h : NoTx H v) (e : Ex H H') : NoTx H' v := ⟨h.1.ex e, h.2⟩
/-- reckoned: whether it is a stair's text -/
def rdB (l : List Nat) : Bool :=
  match nT (l.take (fnd 107 l).toNat), nT ((l.take (fnd 47 l).toNat).drop (fnd 107 l + 2).toNat), nT (l.drop (fnd 47 l + 1).toNat) with
  | some a, some b, some m => (l == wr a b m || l == wr a (0 - b) m) && decide (0 < m)
  | _, _, _ => false
theorem Wr.rdB {l : List Nat} {a b m : Int} (W : Wr l a b m) : rdB l = true := by
  obtain ⟨h1, h2, h3⟩ := W.nums
  unfold Sd.rdB
  rw [h1, h2, h3]
  show ((l == wr a (b.natAbs : Int) m || l == wr a (0 - (b.natAbs : Int)) m) && decide (0 < m)) = true
  rw [decide_eq_true W.m0, Bool.and_true]
  by_cases hb : 0 ≤ b
  · rw [show (b.natAbs : Int) = b by omega, ← W.eq, beq_self_eq_true]
    rfl
  · rw [show (0 - (b.natAbs : Int)) = b by omega, ← W.eq, beq_self_eq_true, Bool.or_true]
def OddT (x : V) : Prop := ∃ l : List Nat, x = .str (SX.S l) ∧ l.length ≤ 900000 ∧ ∀ a b m, ¬ Wr l a b m
theorem oddT {l : List Nat} (h1 : l.length ≤ 900000) (h2 : rdB l = false) : OddT (.str (SX.S l)) := ⟨l, rfl, h1, fun a b m W => by rw [W.rdB] at h2; cases h2⟩
theorem oddT_lit (s : String) (h1 : (lit s).length ≤ 900000) (h2 : rdB (lit s) = false) : OddT (.str (Str.ofString s)) := by
  rw [lit_S]
  exact oddT h1 h2

--@ needs ReadV
/-! a text spoilt -/
theorem at_mem {xs : List V} {v : Int} (h0 : 0 ≤ v) (h1 : v < xs.length) : ∃ y, atI xs v = some y ∧ y ∈ xs := by
  have hv : v.toNat < xs.length := by omega
  refine ⟨xs[v.toNat], ?_, List.getElem_mem hv⟩
  unfold atI ixN
  rw [if_pos h0, if_pos (by omega)]
  exact List.getElem?_eq_getElem hv
theorem sg_at {l : List Nat} {v : Int} (_h0 : 0 ≤ v) (h1 : v < l.length) : ∃ c, l[v.toNat]? = some c ∧ c ∈ l := by
  have hv : v.toNat < l.length := by omega
  exact ⟨_, List.getElem?_eq_getElem hv, List.getElem_mem hv⟩
def wgt : List (List Nat) → Nat
  | [] => 0
  | w :: ws => w.length + 1 + wgt ws
theorem wgt_app : ∀ xs ys : List (List Nat), wgt (xs ++ ys) = wgt xs + wgt ys
  | [], ys => (Nat.zero_add _).symm
  | x :: xs, ys => by
    show x.length + 1 + wgt (xs ++ ys) = x.length + 1 + wgt xs + wgt ys
    rw [wgt_app xs ys]
    omega
theorem wgt_mem {w : List Nat} : ∀ {ws : List (List Nat)}, w ∈ ws → w.length + 1 ≤ wgt ws
  | x :: ws, h => by
    show _ ≤ x.length + 1 + wgt ws
    rcases List.mem_cons.mp h with rfl | h
    · omega
    · have := wgt_mem h
      omega
theorem wgt_len : ∀ ws : List (List Nat), ws.length ≤ wgt ws
  | [] => Nat.le_refl _
  | w :: ws => by
    have := wgt_len ws
    show ws.length + 1 ≤ w.length + 1 + wgt ws
    omega
theorem joinL_len (c : Nat) : ∀ ws : List (List Nat), (TL.joinL [c] ws).length ≤ wgt ws
  | [] => Nat.zero_le _
  | [w] => by show w.length ≤ w.length + 1 + 0; omega
  | w :: w2 :: ws => by
    have := joinL_len c (w2 :: ws)
    show (w ++ ([c] ++ TL.joinL [c] (w2 :: ws))).length ≤ w.length + 1 + wgt (w2 :: ws)
    rw [List.length_append, List.length_append, List.length_singleton]
    omega
theorem joinL_wgt (c : Nat) : ∀ ws : List (List Nat), ws ≠ [] → (TL.joinL [c] ws).length + 1 = wgt ws
  | [], h => (h rfl).elim
  | [w], _ => rfl
  | w :: w2 :: ws, _ => by
    have := joinL_wgt c (w2 :: ws) (List.cons_ne_nil _ _)
    show (w ++ ([c] ++ TL.joinL [c] (w2 :: ws))).length + 1 = w.length + 1 + wgt (w2 :: ws)
    rw [List.length_append, List.length_append, List.length_singleton]
    omega
theorem cut_wgt (c : Nat) (l : List Nat) : wgt (cutAt c l) = l.length + 1 := by
  obtain ⟨p, ps, e⟩ := cutAt_ne c l
  have := joinL_wgt c (cutAt c l) (by rw [e]; exact List.cons_ne_nil _ _)
  rw [cutAt_join] at this
  exact this.symm
theorem joinL_ok {c : Nat} (hc : c < 128) : ∀ {ws : List (List Nat)}, (∀ w ∈ ws, okT w) → okT (TL.joinL [c] ws)
  | [], _ => fun _ h => by cases h
  | [w], h => h w (by simp)
  | w :: w2 :: ws, h => by
    show okT (w ++ ([c] ++ TL.joinL [c] (w2 :: ws)))
    refine (h w (by simp)).app (okT.app (fun x hx => by rw [List.mem_singleton.mp hx]; exact hc) (joinL_ok hc fun x hx => h x (List.mem_cons_of_mem _ hx)))
def wstrs (zs : List (List Nat)) : List V := zs.map fun z => .str (SX.S z)
theorem wstrs_len (zs : List (List Nat)) : (wstrs zs).length = zs.length := List.length_map _
theorem r_joinS {K : PySem.W.Frag} {H : Hp} {Q : VK} {y : Str} {a : List Nat} {p : Addr} {zs : List (List Nat)} (hy : y = SX.S a) (ha : a.length ≤ 1) (h : H p = some (.lst (wstrs zs))) (n : wgt zs ≤ 8000000) (q : Q (.str (SX.S (TL.joinL a zs))) H) : rJoin K (.str y) [.ref p] H Q := by
  subst hy
  refine r_join (ys := zs.map SX.S) (SqL.of (by rw [h, List.map_map]; rfl)) ?_ (by rw [SX.join_S]; exact q)
  rw [List.map_map, List.length_map, SX.S_len]
  have e : (zs.map ((·.length) ∘ SX.S)).sum + zs.length = wgt zs := by
    clear h n q
    induction zs with
    | nil => rfl
    | cons z zs ih =>
      rw [List.map_cons, List.sum_cons, List.length_cons]
      show (SX.S z).length + _ + (zs.length + 1) = z.length + 1 + wgt zs
      rw [SX.S_len]
      omega
  have : zs.length * a.length ≤ zs.length := by
    have := Nat.mul_le_mul_left zs.length ha
    omega
  omega
theorem wcut_to (zs : List (List Nat)) {i : Int} (h0 : 0 ≤ i) (h : i ≤ zs.length) : cutV (wstrs zs) none (some i) = wstrs (zs.take i.toNat) := by
  unfold cutV
  have e1 : HT.sIx (wstrs zs).length 0 none = 0 := rfl
  have e2 : HT.sIx (wstrs zs).length (wstrs zs).length (some i) = i.toNat := by
    show (if i < 0 then (i + ((wstrs zs).length : Int)).toNat else min i.toNat (wstrs zs).length) = _
    rw [if_neg (by omega), wstrs_len]
    omega
  rw [e1, e2]
  show List.take i.toNat (List.map _ zs) = List.map _ _
  rw [List.map_take]
theorem wcut_from (zs : List (List Nat)) {i : Int} (h0 : 0 ≤ i) (h : i ≤ zs.length) : cutV (wstrs zs) (some i) none = wstrs (zs.drop i.toNat) := by
  unfold cutV
  have e1 : HT.sIx (wstrs zs).length 0 (some i) = i.toNat := by
    show (if i < 0 then (i + ((wstrs zs).length : Int)).toNat else min i.toNat (wstrs zs).length) = _
    rw [if_neg (by omega), wstrs_len]
    omega
  have e2 : HT.sIx (wstrs zs).length (wstrs zs).length none = (wstrs zs).length := rfl
  rw [e1, e2]
  rw [List.take_of_length_le (by rw [List.length_drop]; omega)]
  show List.drop i.toNat (List.map _ zs) = List.map _ _
  rw [List.map_drop]
theorem wstrs_app (xs ys : List (List Nat)) : wstrs xs ++ wstrs ys = wstrs (xs ++ ys) := (List.map_append).symm
theorem wstrs_at {zs : List (List Nat)} {v : Int} (h0 : 0 ≤ v) (h1 : v < zs.length) : ∃ w, atI (wstrs zs) v = some (.str (SX.S w)) ∧ w ∈ zs ∧ zs[v.toNat]? = some w := by
  have hv : v.toNat < zs.length := by omega
  refine ⟨zs[v.toNat], ?_, List.getElem_mem hv, List.getElem?_eq_getElem hv⟩
  unfold atI ixN
  rw [if_pos h0, wstrs_len, if_pos (by omega)]
  show (List.map _ zs)[v.toNat]? = _
  rw [List.getElem?_map, List.getElem?_eq_getElem hv]
  rfl
theorem wgt_drop1 {zs : List (List Nat)} {i : Nat} (h : i < zs.length) : wgt (zs.take i) + (zs[i].length + 1) + wgt (zs.drop (i + 1)) = wgt zs := by
  have e : zs = zs.take i ++ zs[i] :: zs.drop (i + 1) := by
    conv => lhs; rw [← List.take_append_drop i zs]
    rw [List.drop_eq_getElem_cons h]
  conv => rhs; rw [e]
  rw [wgt_app]
  show _ = wgt (zs.take i) + (zs[i].length + 1 + wgt (zs.drop (i + 1)))
  omega
theorem mul_S2 {l : List Nat} : Txt.mul (SX.S l) 2 = SX.S (l ++ l) := by
  rw [mul_S (by decide)]
  show SX.S (List.replicate 2 l).flatten = _
  simp [List.replicate]
theorem r_rep2 {H : Hp} {Q : VK} {y : Str} {l : List Nat} (hy : y = SX.S l) (n : l.length ≤ 100000) (q : Q (.str (SX.S (l ++ l))) H) : rRepS (.str y) (.int 2) H Q := by
  subst hy
  exact ⟨_, _, rfl, rfl, by decide, by decide, by rw [SX.S_len]; exact n, by rw [mul_S2]; exact q⟩
theorem r_repSn {H : Hp} {Q : VK} {y : Str} {l : List Nat} {k : Int} (hy : y = SX.S l) (k0 : 0 ≤ k) (k1 : k ≤ 100) (n : l.length ≤ 100000) (q : Q (.str (SX.S (List.replicate k.toNat l).flatten)) H) : rRepS (.str y) (.int k) H Q := by
  subst hy
  exact ⟨_, _, rfl, rfl, k0, k1, by rw [SX.S_len]; exact n, by rw [mul_S k0]; exact q⟩
/-- [x for x in a list if t], t never -/
theorem lc_lst0 {K : PySem.W.Frag} {σ : L2.St} {H : Hp} {Q : VK} {te : TE} {tt : TT} {a : Addr} {xs : List V} {j : Nat} {vs : List Nat} (hx : SqL K H a xs) (hw : ∀ x, wipe ((wipe σ vs).set j (some x)) vs = wipe σ vs)
    (ht : ∀ (i : Nat) x, xs[i]? = some x → PureT tt ((wipe σ vs).set j (some x)) H false)
    (k : ∀ p H1, H p = none → Ex H H1 → H1 p = some (.lst []) → Q (.ref p) H1) : LcB (Itl K a) (gName j) tt te vs σ H Q := fun Dl hD => by
  refine lc_list (xs := xs) (fun i H' => Ex H H' ∧ H' Dl = some (.lst [])) ⟨Ex.new hD, upd_same⟩ (fun i H' _ p => sql_up p.1 hx) (fun i x H' hi p => ?_) (fun H' p => k Dl H' hD p.1 p.2)
  refine ⟨hw _, ht i x hi H' p.1 _ fun H2 e2 => ?_⟩
  rw [if_neg Bool.false_ne_true]
  exact ⟨p.1.trans e2, e2 _ _ p.2⟩
theorem eqv_told (a b m : Int) (z : Str) : PyData.eqv (.tuple [.tuple [.int a, .int b, .int m], .str z]) (.tuple [.tuple [.int a, .int b, .int m], .str z]) = true := by
  show (((a == a) && ((b == b) && ((m == m) && true))) && ((z == z) && true)) = true
  rw [beq_self_eq_true, beq_self_eq_true, beq_self_eq_true, beq_self_eq_true]
  rfl
theorem shp_told (a b m : Int) (z : Str) (h : PyData.canLay0 (.str z) = true) : SeqAt.shaped (.tuple [.tuple [.int a, .int b, .int m], .str z]) = true := by
  unfold SeqAt.shaped
  rw [Bool.and_eq_true]
  refine ⟨?_, decide_eq_true ?_⟩
  · show ((true && (true && (true && true))) && (PyData.canLay0 (.str z) && true)) = true
    rw [h]
    rfl
  · simp [PyData.depth, PyData.depthAll]
local macro_rules | `(tactic| walk_at "go1") => `(tactic| first
  | ((with_reducible refine r_rep2 (l := ?l) ?a ?n ?_); (case a => walk_at "str"); (case n => walk_at "len"))
  | ((with_reducible refine r_joinS (zs := ?z) (a := ?b) ?a ?l ?h ?n ?_); (case a => walk_at "str"); (case l => decide); (case h => walk_at "at"); (case n => walk_at "len"))
  | fail "no step")

/-! the attributes of a Ledger -/
def fs_Ledger (v0 v1 v2 : V) : List (Str × V) := [("kept", v0), ("now_worth", v1), ("former", v2)]
theorem ln_Ledger {v0 v1 v2 : V} : (fs_Ledger v0 v1 v2).length < 1000 := by
  show 3 < 1000
  decide
theorem lk_Ledger_kept {v0 v1 v2 : V} : (fs_Ledger v0 v1 v2).lookup ("kept" : Str) = some v0 := by
  unfold fs_Ledger
  rw [List.lookup_cons, show (("kept" : Str) == "kept") = true by decide +kernel]
theorem pf_Ledger_kept {v0 v1 v2 y : V} : putF "kept" y (fs_Ledger v0 v1 v2) = fs_Ledger y v1 v2 := by
  unfold fs_Ledger
  rw [putF, if_pos rfl]
theorem lk_Ledger_now_worth {v0 v1 v2 : V} : (fs_Ledger v0 v1 v2).lookup ("now_worth" : Str) = some v1 := by
  unfold fs_Ledger
  rw [List.lookup_cons, show (("now_worth" : Str) == "kept") = false by decide +kernel]
  dsimp only
  rw [List.lookup_cons, show (("now_worth" : Str) == "now_worth") = true by decide +kernel]
theorem pf_Ledger_now_worth {v0 v1 v2 y : V} : putF "now_worth" y (fs_Ledger v0 v1 v2) = fs_Ledger v0 y v2 := by
  unfold fs_Ledger
  rw [putF, if_neg (show ¬ (("kept" : Str) = "now_worth") by decide +kernel)]
  rw [putF, if_pos rfl]
theorem lk_Ledger_former {v0 v1 v2 : V} : (fs_Ledger v0 v1 v2).lookup ("former" : Str) = some v2 := by
  unfold fs_Ledger
  rw [List.lookup_cons, show (("former" : Str) == "kept") = false by decide +kernel]
  dsimp only
  rw [List.lookup_cons, show (("former" : Str) == "now_worth") = false by decide +kernel]
  dsimp only
  rw [List.lookup_cons, show (("former" : Str) == "former") = true by decide +kernel]
theorem pf_Ledger_former {v0 v1 v2 y : V} : putF "former" y (fs_Ledger v0 v1 v2) = fs_Ledger v0 v1 y := by
  unfold fs_Ledger
  rw [putF, if_neg (show ¬ (("kept" : Str) = "former") by decide +kernel)]
  rw [putF, if_neg (show ¬ (("now_worth" : Str) = "former") by decide +kernel)]
  rw [putF, if_pos rfl]
theorem lk_Ledger_become_ {v0 v1 v2 : V} : (fs_Ledger v0 v1 v2).lookup ("become" : Str) = none := by
  unfold fs_Ledger
  rw [List.lookup_cons, show (("become" : Str) == "kept") = false by decide +kernel]
  dsimp only
  rw [List.lookup_cons, show (("become" : Str) == "now_worth") = false by decide +kernel]
  dsimp only
  rw [List.lookup_cons, show (("become" : Str) == "former") = false by decide +kernel]
  dsimp only
  rfl
theorem lk_Ledger_need_entry_ {v0 v1 v2 : V} : (fs_Ledger v0 v1 v2).lookup ("need_entry" : Str) = none := by
  unfold fs_Ledger
  rw [List.lookup_cons, show (("need_entry" : Str) == "kept") = false by decide +kernel]
  dsimp only
  rw [List.lookup_cons, show (("need_entry" : Str) == "now_worth") = false by decide +kernel]
  dsimp only
  rw [List.lookup_cons, show (("need_entry" : Str) == "former") = false by decide +kernel]
  dsimp only
  rfl
theorem lk_Ledger_put_ {v0 v1 v2 : V} : (fs_Ledger v0 v1 v2).lookup ("put" : Str) = none := by
  unfold fs_Ledger
  rw [List.lookup_cons, show (("put" : Str) == "kept") = false by decide +kernel]
  dsimp only
  rw [List.lookup_cons, show (("put" : Str) == "now_worth") = false by decide +kernel]
  dsimp only
  rw [List.lookup_cons, show (("put" : Str) == "former") = false by decide +kernel]
  dsimp only
  rfl
theorem lk_Ledger_drop_ {v0 v1 v2 : V} : (fs_Ledger v0 v1 v2).lookup ("drop" : Str) = none := by
  unfold fs_Ledger
  rw [List.lookup_cons, show (("drop" : Str) == "kept") = false by decide +kernel]
  dsimp only
  rw [List.lookup_cons, show (("drop" : Str) == "now_worth") = false by decide +kernel]
  dsimp only
  rw [List.lookup_cons, show (("drop" : Str) == "former") = false by decide +kernel]
  dsimp only
  rfl
theorem lk_Ledger_change_ {v0 v1 v2 : V} : (fs_Ledger v0 v1 v2).lookup ("change" : Str) = none := by
  unfold fs_Ledger
  rw [List.lookup_cons, show (("change" : Str) == "kept") = false by decide +kernel]
  dsimp only
  rw [List.lookup_cons, show (("change" : Str) == "now_worth") = false by decide +kernel]
  dsimp only
  rw [List.lookup_cons, show (("change" : Str) == "former") = false by decide +kernel]
  dsimp only
  rfl
theorem lk_Ledger_back_ {v0 v1 v2 : V} : (fs_Ledger v0 v1 v2).lookup ("back" : Str) = none := by
  unfold fs_Ledger
  rw [List.lookup_cons, show (("back" : Str) == "kept") = false by decide +kernel]
  dsimp only
  rw [List.lookup_cons, show (("back" : Str) == "now_worth") = false by decide +kernel]
  dsimp only
  rw [List.lookup_cons, show (("back" : Str) == "former") = false by decide +kernel]
  dsimp only
  rfl
theorem lk_Ledger_entries_ {v0 v1 v2 : V} : (fs_Ledger v0 v1 v2).lookup ("entries" : Str) = none := by
  unfold fs_Ledger
  rw [List.lookup_cons, show (("entries" : Str) == "kept") = false by decide +kernel]
  dsimp only
  rw [List.lookup_cons, show (("entries" : Str) == "now_worth") = false by decide +kernel]
  dsimp only
  rw [List.lookup_cons, show (("entries" : Str) == "former") = false by decide +kernel]
  dsimp only
  rfl
theorem lk_Ledger_worth_ {v0 v1 v2 : V} : (fs_Ledger v0 v1 v2).lookup ("worth" : Str) = none := by
  unfold fs_Ledger
  rw [List.lookup_cons, show (("worth" : Str) == "kept") = false by decide +kernel]
  dsimp only
  rw [List.lookup_cons, show (("worth" : Str) == "now_worth") = false by decide +kernel]
  dsimp only
  rw [List.lookup_cons, show (("worth" : Str) == "former") = false by decide +kernel]
  dsimp only
  rfl
theorem lk_Ledger_worth_at_ {v0 v1 v2 : V} : (fs_Ledger v0 v1 v2).lookup ("worth_at" : Str) = none := by
  unfold fs_Ledger
  rw [List.lookup_cons, show (("worth_at" : Str) == "kept") = false by decide +kernel]
  dsimp only
  rw [List.lookup_cons, show (("worth_at" : Str) == "now_worth") = false by decide +kernel]
  dsimp only
  rw [List.lookup_cons, show (("worth_at" : Str) == "former") = false by decide +kernel]
  dsimp only
  rfl
theorem mk_Ledger {v0 v1 v2 : V} : putF "former" v2 (putF "now_worth" v1 (putF "kept" v0 [])) = fs_Ledger v0 v1 v2 := by
  unfold fs_Ledger
  try simp only [putF]
  try simp only [putF]
  try rw [if_neg (show ¬ (("kept" : Str) = "now_worth") by decide +kernel)]
  try simp only [putF]
  try rw [if_neg (show ¬ (("kept" : Str) = "former") by decide +kernel)]
  try rw [if_neg (show ¬ (("now_worth" : Str) = "former") by decide +kernel)]
local macro_rules | `(tactic| walk_at "lk") => `(tactic| first
  | with_reducible exact lk_Ledger_kept
  | with_reducible exact lk_Ledger_now_worth
  | with_reducible exact lk_Ledger_former
  | with_reducible exact lk_Ledger_become_
  | with_reducible exact lk_Ledger_need_entry_
  | with_reducible exact lk_Ledger_put_
  | with_reducible exact lk_Ledger_drop_
  | with_reducible exact lk_Ledger_change_
  | with_reducible exact lk_Ledger_back_
  | with_reducible exact lk_Ledger_entries_
  | with_reducible exact lk_Ledger_worth_
  | with_reducible exact lk_Ledger_worth_at_
  | fail "no step")

--@ needs Sum
/-! ledgers -/
structure Ent where
  a : Int
  b : Int
  m : Int
  k : Int
  n : Int
  t : Int
  deriving DecidableEq
/-- what an entry is worth -/
def wE (e : Ent) : Int := e.t * fs e.n.toNat e.a (e.a * e.k + e.b) e.m
def wL : List Ent → Int
  | [] => 0
  | e :: es => wE e + wL es
theorem wL_app : ∀ es es' : List Ent, wL (es ++ es') = wL es + wL es'
  | [], es' => by
    show wL es' = 0 + wL es'
    omega
  | e :: es, es' => by
    show wE e + wL (es ++ es') = wE e + wL es + wL es'
    rw [wL_app es es']
    omega
theorem wL_one (e : Ent) : wL [e] = wE e := by
  show wE e + 0 = wE e
  omega
theorem take_at {α : Type} {xs : List α} {i : Nat} {x : α} (h : xs[i]? = some x) : xs = xs.take i ++ [x] ++ xs.drop (i + 1) := by
  obtain ⟨hl, he⟩ := List.getElem?_eq_some_iff.mp h
  rw [List.append_assoc, ← he]
  show xs = xs.take i ++ (xs[i] :: xs.drop (i + 1))
  rw [List.getElem_cons_drop, List.take_append_drop]
theorem wL_at {es : List Ent} {i : Nat} {e : Ent} (h : es[i]? = some e) : wL es = wL (es.take i) + wE e + wL (es.drop (i + 1)) := by
  have h1 := take_at h
  have h2 : wL es = wL (es.take i ++ [e] ++ es.drop (i + 1)) := congrArg wL h1
  rw [h2, wL_app, wL_app, wL_one]
theorem wL_drop {es : List Ent} {i : Nat} {e : Ent} (h : es[i]? = some e) : wL (es.take i ++ es.drop (i + 1)) = wL es - wE e := by
  have := wL_at h
  rw [wL_app]
  omega
theorem wL_change {es : List Ent} {i : Nat} {e e' : Ent} (h : es[i]? = some e) : wL (es.take i ++ [e'] ++ es.drop (i + 1)) = wL es - wE e + wE e' := by
  have := wL_at h
  rw [wL_app, wL_app, wL_one]
  omega
theorem fs_bnd {a b m : Int} (hm : 0 < m) (B : Nat) : ∀ n : Nat, (∀ k : Nat, k < n → (a * (k : Int) + b).natAbs ≤ B) → (fs n a b m).natAbs ≤ n * B
  | 0, _ => by
    rw [fs_zero]
    show 0 ≤ _
    omega
  | n + 1, h => by
    have ih := fs_bnd hm B n (fun k hk => h k (by omega))
    have h1 := h n (by omega)
    have h2 : ((a * (n : Int) + b) / m).natAbs ≤ (a * (n : Int) + b).natAbs := by
      generalize a * (n : Int) + b = x
      have e := Int.emod_add_mul_ediv x m
      have r0 := Int.emod_nonneg x (show m ≠ 0 by omega)
      have r1 := Int.emod_lt_of_pos x hm
      by_cases hx : 0 ≤ x
      · have q0 : 0 ≤ x / m := Int.ediv_nonneg hx (by omega)
        have q1 : x / m ≤ x := Int.ediv_le_self _ hx
        omega
      · have q0 : x / m < 0 := Int.ediv_neg_of_neg_of_pos (by omega) hm
        have q1 : (x / m + 1) * m ≤ (x / m + 1) * 1 := Int.mul_le_mul_of_nonpos_left (by omega) (by omega)
        have q2 : (x / m + 1) * m = x / m * m + m := by rw [Int.add_mul, Int.one_mul]
        have q3 : m * (x / m) = x / m * m := Int.mul_comm _ _
        by_cases hq : x / m = -1
        · omega
        · omega
    rw [fs_succ, Nat.succ_mul]
    omega
/-- what an entry is worth at a place -/
def wA (k : Int) (e : Ent) : Int := if e.k ≤ k ∧ k < e.k + e.n then e.t * ((e.a * k + e.b) / e.m) else 0
def wAs (k : Int) : List Ent → Int
  | [] => 0
  | e :: es => wA k e + wAs k es
theorem wAs_app (k : Int) : ∀ es es' : List Ent, wAs k (es ++ es') = wAs k es + wAs k es'
  | [], es' => by
    show wAs k es' = 0 + wAs k es'
    omega
  | e :: es, es' => by
    show wA k e + wAs k (es ++ es') = wA k e + wAs k es + wAs k es'
    rw [wAs_app k es es']
    omega
theorem wAs_take (k : Int) {es : List Ent} {i : Nat} {e : Ent} (h : es[i]? = some e) : wAs k (es.take (i + 1)) = wAs k (es.take i) + wA k e := by
  rw [List.take_add_one, h, wAs_app]
  show _ + (wA k e + 0) = _
  omega

--@ needs C_Ledger
--@ needs LedgM
structure EntZ (e : Ent) : Prop where
  m0 : 0 < e.m
  za : Sz 620 e.a
  zb : Sz 620 e.b
  zm : Sz 200 e.m
  zk : Sz 620 e.k
  n0 : 0 ≤ e.n
  n1 : e.n < 1000000000000000000000000000000
  zt : Sz 620 e.t
theorem EntZ.zf {e : Ent} (z : EntZ e) : Sz 2200 (fs e.n.toNat e.a (e.a * e.k + e.b) e.m) := by
  have z1 : Sz 1981 (e.a * (0 : Int) + 0 + (e.a * e.k + e.b)) := by
    rw [Int.mul_zero, Int.add_zero, Int.zero_add]
    exact ((z.za.mul z.zk).add z.zb).mono (by decide)
  have h := fs_bnd z.m0 (a := e.a) (b := e.a * e.k + e.b) (2 ^ 2000) e.n.toNat fun k hk => by
    have zk : Sz 110 (k : Int) := by
      show (k : Int).natAbs < 2 ^ 110
      have := z.n0
      have := z.n1
      omega
    have h1 : (e.a * (k : Int)).natAbs < 2 ^ (620 + 110) := z.za.mul zk
    have h2 : (e.a * e.k).natAbs < 2 ^ (620 + 620) := z.za.mul z.zk
    have h3 : e.b.natAbs < 2 ^ 620 := z.zb
    have l1 : 2 ^ (620 + 110) < 2 ^ 1990 := Nat.pow_lt_pow_right (by decide) (by decide)
    have l2 : 2 ^ (620 + 620) < 2 ^ 1990 := Nat.pow_lt_pow_right (by decide) (by decide)
    have l3 : 2 ^ 620 < 2 ^ 1990 := Nat.pow_lt_pow_right (by decide) (by decide)
    have l4 : 2 ^ 2000 = 1024 * 2 ^ 1990 := by rw [show 2000 = 10 + 1990 from rfl, Nat.pow_add]
    omega
  have hn : e.n.toNat < 2 ^ 110 := by
    have := z.n0
    have := z.n1
    omega
  have h2 : e.n.toNat * 2 ^ 2000 ≤ 2 ^ 110 * 2 ^ 2000 := Nat.mul_le_mul_right _ (by omega)
  rw [← Nat.pow_add] at h2
  have l : 2 ^ (110 + 2000) < 2 ^ 2200 := Nat.pow_lt_pow_right (by decide) (by decide)
  show Int.natAbs _ < 2 ^ 2200
  omega
/-- an entry by a value -/
def EntA (F : Hp) (v : V) (e : Ent) : Prop := ∃ p s, v = .ref p ∧ F p = some (.tup [.ref s, .int e.k, .int e.n, .int e.t]) ∧ F s = some (.tup [.int e.a, .int e.b, .int e.m])
theorem EntA.ex {F F' : Hp} {v : V} {e : Ent} (h : EntA F v e) (x : Ex F F') : EntA F' v e := by
  obtain ⟨p, s, e1, h1, h2⟩ := h
  exact ⟨p, s, e1, x _ _ h1, x _ _ h2⟩
def EntsA (F : Hp) : List V → List Ent → Prop
  | [], [] => True
  | v :: vs, e :: es => EntA F v e ∧ EntsA F vs es
  | _, _ => False
theorem EntsA.ex {F F' : Hp} (x : Ex F F') : ∀ {vs : List V} {es : List Ent}, EntsA F vs es → EntsA F' vs es
  | [], [], _ => trivial
  | _ :: _, _ :: _, ⟨h, r⟩ => ⟨h.ex x, EntsA.ex x r⟩
  | [], _ :: _, h => h.elim
  | _ :: _, [], h => h.elim
theorem EntsA.len {F : Hp} : ∀ {vs : List V} {es : List Ent}, EntsA F vs es → vs.length = es.length
  | [], [], _ => rfl
  | _ :: _, _ :: _, ⟨_, r⟩ => by rw [List.length_cons, List.length_cons, EntsA.len r]
  | [], _ :: _, h => h.elim
  | _ :: _, [], h => h.elim
theorem EntsA.get {F : Hp} : ∀ {vs : List V} {es : List Ent} {i : Nat} {v : V}, EntsA F vs es → vs[i]? = some v → ∃ e, es[i]? = some e ∧ EntA F v e
  | _ :: _, e :: _, 0, _, ⟨h, _⟩, g => ⟨e, rfl, by cases g; exact h⟩
  | _ :: _, _ :: _, i + 1, _, ⟨_, h⟩, g => EntsA.get (i := i) h g
  | [], _, _, _, _, g => by simp at g
  | _ :: _, [], _, _, h, _ => h.elim
theorem EntsA.app {F : Hp} : ∀ {vs us : List V} {es fs : List Ent}, EntsA F vs es → EntsA F us fs → EntsA F (vs ++ us) (es ++ fs)
  | [], _, [], _, _, h => h
  | _ :: _, _, _ :: _, _, ⟨h, r⟩, h' => ⟨h, EntsA.app r h'⟩
  | [], _, _ :: _, _, h, _ => h.elim
  | _ :: _, _, [], _, h, _ => h.elim
theorem EntsA.take {F : Hp} : ∀ {vs : List V} {es : List Ent} (i : Nat), EntsA F vs es → EntsA F (vs.take i) (es.take i)
  | _, _, 0, _ => trivial
  | [], [], _ + 1, _ => trivial
  | _ :: _, _ :: _, i + 1, ⟨h, r⟩ => ⟨h, EntsA.take i r⟩
  | [], _ :: _, _ + 1, h => h.elim
  | _ :: _, [], _ + 1, h => h.elim
theorem EntsA.drop {F : Hp} : ∀ {vs : List V} {es : List Ent} (i : Nat), EntsA F vs es → EntsA F (vs.drop i) (es.drop i)
  | _, _, 0, h => h
  | [], [], _ + 1, _ => trivial
  | _ :: _, _ :: _, i + 1, ⟨_, r⟩ => EntsA.drop i r
  | [], _ :: _, _ + 1, h => h.elim
  | _ :: _, [], _ + 1, h => h.elim
def KeptA (F : Hp) (l : Addr) (es : List Ent) : Prop := ∃ vs, F l = some (.lst vs) ∧ EntsA F vs es
theorem KeptA.ex {F F' : Hp} {l : Addr} {es : List Ent} (h : KeptA F l es) (x : Ex F F') : KeptA F' l es := by
  obtain ⟨vs, h1, h2⟩ := h
  exact ⟨vs, x _ _ h1, h2.ex x⟩
/-- what was ahead -/
def HisA (F : Hp) : List V → List (List Ent) → Prop
  | [], [] => True
  | v :: vs, es :: hs => (∃ t l, v = .ref t ∧ F t = some (.tup [.ref l, .int (wL es)]) ∧ KeptA F l es) ∧ HisA F vs hs
  | _, _ => False
theorem HisA.ex {F F' : Hp} (x : Ex F F') : ∀ {vs : List V} {hs : List (List Ent)}, HisA F vs hs → HisA F' vs hs
  | [], [], _ => trivial
  | _ :: _, _ :: _, ⟨⟨t, l, e, h, k⟩, r⟩ => ⟨⟨t, l, e, x _ _ h, k.ex x⟩, HisA.ex x r⟩
  | [], _ :: _, h => h.elim
  | _ :: _, [], h => h.elim
theorem HisA.len {F : Hp} : ∀ {vs : List V} {hs : List (List Ent)}, HisA F vs hs → vs.length = hs.length
  | [], [], _ => rfl
  | _ :: _, _ :: _, ⟨_, r⟩ => by rw [List.length_cons, List.length_cons, HisA.len r]
  | [], _ :: _, h => h.elim
  | _ :: _, [], h => h.elim
theorem HisA.app {F : Hp} : ∀ {vs us : List V} {hs ks : List (List Ent)}, HisA F vs hs → HisA F us ks → HisA F (vs ++ us) (hs ++ ks)
  | [], _, [], _, _, h => h
  | _ :: _, _, _ :: _, _, ⟨h, r⟩, h' => ⟨h, HisA.app r h'⟩
  | [], _, _ :: _, _, h, _ => h.elim
  | _ :: _, _, [], _, h, _ => h.elim
theorem HisA.last {F : Hp} : ∀ {vs : List V} {hs : List (List Ent)} {es : List Ent}, HisA F vs (hs ++ [es]) → ∃ us t l, vs = us ++ [.ref t] ∧ HisA F us hs ∧ F t = some (.tup [.ref l, .int (wL es)]) ∧ KeptA F l es
  | [], [], _, h => h.elim
  | [], _ :: _, _, h => h.elim
  | [v], [], _, ⟨⟨t, l, e, h, k⟩, _⟩ => ⟨[], t, l, by rw [e]; rfl, trivial, h, k⟩
  | _ :: _ :: _, [], _, ⟨_, h⟩ => h.elim
  | v :: vs, k :: hs, es, ⟨h, r⟩ => by
    obtain ⟨us, t, l, e, h1, h2, h3⟩ := HisA.last (hs := hs) r
    exact ⟨v :: us, t, l, by rw [e]; rfl, ⟨h, h1⟩, h2, h3⟩
/-- the part F of the heap never changes -/
structure Fz (F H : Hp) (p fl : Addr) : Prop where
  sub : Ex F H
  np : F p = none
  nf : F fl = none
/-- F has grown by what was new -/
structure Gr (F H F' : Hp) : Prop where
  ex : Ex F F'
  eq : ∀ a o, H a = some o → F' a = F a
theorem Gr.refl {F H : Hp} : Gr F H F := ⟨Ex.refl, fun _ _ _ => rfl⟩
theorem Gr.add {F H : Hp} {q : Addr} {o : HO} (e : Ex F H) (n : H q = none) : Gr F H (upd F q o) :=
  ⟨Ex.new (free_back e n), fun a u h => upd_ne (ne_of_none h n)⟩
theorem Gr.trans {F H F1 H1 F2 : Hp} (a : Gr F H F1) (b : Gr F1 H1 F2) (k : ∀ a o, H a = some o → ∃ o', H1 a = some o') : Gr F H F2 :=
  ⟨a.ex.trans b.ex, fun x o h => by
    obtain ⟨o', h'⟩ := k x o h
    rw [b.eq x o' h', a.eq x o h]⟩
theorem Gr.tr {F H F1 H1 F2 : Hp} (a : Gr F H F1) (b : Gr F1 H1 F2) (k : Ex H H1) : Gr F H F2 := a.trans b fun x o h => ⟨o, k _ _ h⟩
theorem Gr.none {F H F' : Hp} {a : Addr} {o : HO} (g : Gr F H F') (h : H a = some o) (n : F a = none) : F' a = none := by rw [g.eq a o h, n]
/-- a ledger at p, its entries es, what was ahead hs -/
structure LgAt (C : Addr) (F H : Hp) (p fl : Addr) (es : List Ent) (hs : List (List Ent)) : Prop where
  ob : ∃ dx kl, H p = some (.ins C dx (fs_Ledger (.ref kl) (.int (wL es)) (.ref fl))) ∧ KeptA F kl es
  fo : ∃ us, H fl = some (.lst us) ∧ HisA F us hs
theorem LgAt.grow {C : Addr} {F F' H H' : Hp} {p fl : Addr} {es : List Ent} {hs : List (List Ent)} (L : LgAt C F H p fl es hs) (e : Ex H H') (f : Ex F F') : LgAt C F' H' p fl es hs := by
  obtain ⟨⟨dx, kl, h1, h2⟩, us, h3, h4⟩ := L
  exact ⟨⟨dx, kl, e _ _ h1, h2.ex f⟩, us, e _ _ h3, h4.ex f⟩
theorem LgAt.ex {C : Addr} {F H H' : Hp} {p fl : Addr} {es : List Ent} {hs : List (List Ent)} (L : LgAt C F H p fl es hs) (e : Ex H H') : LgAt C F H' p fl es hs := L.grow e Ex.refl
theorem cut_fromN (xs : List V) {i : Int} (h0 : 0 ≤ i) (h : i ≤ xs.length) : cutV xs (some i) none = xs.drop i.toNat := by
  have e1 : HT.sIx xs.length 0 (some i) = i.toNat := by
    show (if i < 0 then (i + (xs.length : Int)).toNat else min i.toNat xs.length) = _
    rw [if_neg (by omega)]
    omega
  have e2 : HT.sIx xs.length xs.length none = xs.length := rfl
  unfold cutV
  rw [e1, e2, List.take_of_length_le (by rw [List.length_drop]; omega)]
theorem cut_toN (xs : List V) {i : Int} (h0 : 0 ≤ i) (h : i ≤ xs.length) : cutV xs none (some i) = xs.take i.toNat := by
  unfold cutV
  have e1 : HT.sIx xs.length 0 none = 0 := rfl
  have e2 : HT.sIx xs.length xs.length (some i) = i.toNat := by
    show (if i < 0 then (i + (xs.length : Int)).toNat else min i.toNat xs.length) = _
    rw [if_neg (by omega)]
    omega
  rw [e1, e2]
  rfl
theorem r_atN {K : PySem.W.Frag} {H : Hp} {Q : VK} {p : Addr} {xs : List V} {i : Int} {v : V} (h : SqL K H p xs) (i0 : 0 ≤ i) (g : xs[i.toNat]? = some v) (k : Q v H) : rIxL K (.ref p) (.int i) H Q :=
  r_ixL h (at_of (j := i.toNat) (by omega) g) k
/-- what is new joins the part that never changes -/
theorem Fz.add {F H H' : Hp} {p fl q : Addr} {o : HO} (Z : Fz F H p fl) (n : H q = none) (e : Ex H H') (h : H' q = some o) (np : q ≠ p) (nf : q ≠ fl) : Fz (upd F q o) H' p fl := by
  refine ⟨fun a u ha => ?_, ?_, ?_⟩
  · by_cases z : a = q
    · subst z
      rw [upd_same] at ha
      rw [← ha]
      exact h
    · rw [upd_ne z] at ha
      exact e _ _ (Z.sub _ _ ha)
  · rw [upd_ne np.symm]
    exact Z.np
  · rw [upd_ne nf.symm]
    exact Z.nf
/-- an entry with other times -/
def Ent.times (e : Ent) (t : Int) : Ent := { e with t := t }
theorem EntZ.times {e : Ent} (z : EntZ e) {t : Int} (zt : Sz 620 t) : EntZ (e.times t) := ⟨z.m0, z.za, z.zb, z.zm, z.zk, z.n0, z.n1, zt⟩
def AllZ (es : List Ent) : Prop := ∀ e ∈ es, EntZ e
theorem AllZ.at {es : List Ent} {i : Nat} {e : Ent} (h : AllZ es) (g : es[i]? = some e) : EntZ e := h e (List.mem_of_getElem? g)
/-! entries as data -/
def entD (e : Ent) : PyData := .tuple [.tuple [.int e.a, .int e.b, .int e.m], .int e.k, .int e.n, .int e.t]
def keptD (es : List Ent) : PyData := .list (es.map entD)
def hisD (es : List Ent) : PyData := .tuple [keptD es, .int (wL es)]
theorem dp_ent {K : PySem.W.Frag} {F : Hp} {v : V} {e : Ent} (h : EntA F v e) : Dp K F v (entD e) := by
  obtain ⟨p, s, rfl, h1, h2⟩ := h
  exact .tup (SqT.of h1) (.cons (.tup (SqT.of h2) (dp_ints [e.a, e.b, e.m])) (dp_ints [e.k, e.n, e.t]))
theorem dp_ents {K : PySem.W.Frag} {F : Hp} : ∀ {vs : List V} {es : List Ent}, EntsA F vs es → DpAll K F vs (es.map entD)
  | [], [], _ => .nil
  | _ :: _, _ :: _, ⟨h, r⟩ => .cons (dp_ent h) (dp_ents r)
  | [], _ :: _, h => h.elim
  | _ :: _, [], h => h.elim
theorem dp_his {K : PySem.W.Frag} {F : Hp} : ∀ {vs : List V} {hs : List (List Ent)}, HisA F vs hs → DpAll K F vs (hs.map hisD)
  | [], [], _ => .nil
  | _ :: _, es :: _, ⟨⟨t, l, e, h, us, k1, k2⟩, r⟩ => by
    subst e
    exact .cons (.tup (SqT.of h) (.cons (.lst (SqL.of k1) (dp_ents k2)) (dp_ints [wL es]))) (dp_his r)
  | [], _ :: _, h => h.elim
  | _ :: _, [], h => h.elim
theorem lay_ents : ∀ es : List Ent, PyData.canLayAll0 (es.map entD) = true
  | [] => rfl
  | e :: es => by
    show (PyData.canLay0 (entD e) && PyData.canLayAll0 (es.map entD)) = true
    rw [lay_ents es, Bool.and_true]
    rfl
theorem dep_ents : ∀ es : List Ent, PyData.depthAll (es.map entD) ≤ 3
  | [] => Nat.zero_le _
  | e :: es => by
    show max (PyData.depth (entD e)) (PyData.depthAll (es.map entD)) ≤ 3
    have h1 : PyData.depth (entD e) ≤ 3 := by
      unfold entD
      simp [PyData.depth, PyData.depthAll]
    have := dep_ents es
    omega
theorem lay_his : ∀ hs : List (List Ent), PyData.canLayAll0 (hs.map hisD) = true
  | [] => rfl
  | es :: hs => by
    show (PyData.canLay0 (hisD es) && PyData.canLayAll0 (hs.map hisD)) = true
    rw [lay_his hs, Bool.and_true]
    show (PyData.canLay0 (keptD es) && (PyData.canLay0 (.int (wL es)) && true)) = true
    have h1 : PyData.canLay0 (keptD es) = true := by
      unfold keptD PyData.canLay0
      exact lay_ents es
    rw [h1]
    rfl
theorem dep_his : ∀ hs : List (List Ent), PyData.depthAll (hs.map hisD) ≤ 5
  | [] => Nat.zero_le _
  | es :: hs => by
    show max (PyData.depth (hisD es)) (PyData.depthAll (hs.map hisD)) ≤ 5
    have h1 : PyData.depth (hisD es) ≤ 5 := by
      have := dep_ents es
      unfold hisD keptD
      simp only [PyData.depth, PyData.depthAll]
      omega
    have := dep_his hs
    omega
theorem shp_ents (es : List Ent) : SeqAt.shaped (.list (es.map entD)) = true := by
  unfold SeqAt.shaped
  rw [Bool.and_eq_true]
  refine ⟨?_, decide_eq_true ?_⟩
  · unfold PyData.canLay0
    exact lay_ents es
  · unfold PyData.depth
    have := dep_ents es
    omega
theorem shp_his (hs : List (List Ent)) : SeqAt.shaped (.list (hs.map hisD)) = true := by
  unfold SeqAt.shaped
  rw [Bool.and_eq_true]
  refine ⟨?_, decide_eq_true ?_⟩
  · unfold PyData.canLay0
    exact lay_his hs
  · unfold PyData.depth
    have := dep_his hs
    omega
theorem eqv_ent (e f : Ent) : PyData.eqv (entD e) (entD f) = decide (e = f) := by
  have h1 : PyData.eqv (entD e) (entD f) = (PyData.eqv (.tuple ([e.a, e.b, e.m].map PyData.int)) (.tuple ([f.a, f.b, f.m].map PyData.int)) && PyData.eqvAll ([e.k, e.n, e.t].map PyData.int) ([f.k, f.n, f.t].map PyData.int)) := rfl
  rw [h1, eqvT, eqv_ints]
  obtain ⟨a, b, m, k, n, t⟩ := e
  obtain ⟨a', b', m', k', n', t'⟩ := f
  by_cases h : (⟨a, b, m, k, n, t⟩ : Ent) = ⟨a', b', m', k', n', t'⟩
  · cases h
    rw [decide_eq_true rfl, decide_eq_true rfl, decide_eq_true rfl]
    rfl
  · rw [decide_eq_false h]
    by_cases h2 : [a, b, m] = [a', b', m']
    · have h3 : ¬ [k, n, t] = [k', n', t'] := fun z => h (by
        injection h2 with h4 h5
        injection h5 with h5 h6
        injection h6 with h6 _
        injection z with z1 z2
        injection z2 with z2 z3
        injection z3 with z3 _
        subst h4 h5 h6 z1 z2 z3
        rfl)
      rw [decide_eq_false h3, Bool.and_false]
    · rw [decide_eq_false h2, Bool.false_and]
theorem eqv_ents : ∀ xs ys : List Ent, PyData.eqvAll (xs.map entD) (ys.map entD) = decide (xs = ys)
  | [], [] => by rw [decide_eq_true rfl]; rfl
  | [], y :: ys => by rw [decide_eq_false (by intro h; cases h)]; rfl
  | x :: xs, [] => by rw [decide_eq_false (by intro h; cases h)]; rfl
  | x :: xs, y :: ys => by
    show (PyData.eqv (entD x) (entD y) && PyData.eqvAll (xs.map entD) (ys.map entD)) = _
    rw [eqv_ents xs ys, eqv_ent]
    by_cases h : x = y
    · subst h
      by_cases h2 : xs = ys
      · subst h2
        rw [decide_eq_true rfl, decide_eq_true rfl, decide_eq_true rfl]
        rfl
      · rw [decide_eq_false h2, decide_eq_false (fun z => h2 (List.cons.inj z).2), Bool.and_false]
    · rw [decide_eq_false h, decide_eq_false (fun z => h (List.cons.inj z).1), Bool.false_and]
theorem eqv_entL (xs ys : List Ent) : PyData.eqv (.list (xs.map entD)) (.list (ys.map entD)) = decide (xs = ys) := by
  unfold PyData.eqv
  exact eqv_ents xs ys
section
variable {K : PySem.W.Frag} {H : Hp} {Q : VK} {p q : Addr} {vs us : List V} {xs ys : List Ent}
theorem r_neE (h : H p = some (.lst vs)) (h1 : EntsA H vs xs) (h' : H q = some (.lst us)) (h2 : EntsA H us ys) (k : Q (.bl (!decide (xs = ys))) H) : rNeD K (.ref p) (.ref q) H Q :=
  r_neD (.lst (SqL.of h) (dp_ents h1)) (.lst (SqL.of h') (dp_ents h2)) (shp_ents _) (shp_ents _) (by rw [eqv_entL]; exact k)
theorem r_eqE (h : H p = some (.lst vs)) (h1 : EntsA H vs xs) (h' : H q = some (.lst us)) (h2 : EntsA H us ys) (k : Q (.bl (decide (xs = ys))) H) : rEqD K (.ref p) (.ref q) H Q :=
  r_eqD (.lst (SqL.of h) (dp_ents h1)) (.lst (SqL.of h') (dp_ents h2)) (shp_ents _) (shp_ents _) (by rw [eqv_entL]; exact k)
/-- a list that is not empty, and the empty list -/
theorem r_eqNil {ds : List PyData} (h : SqL K H p vs) (h' : SqL K H q []) (dp : DpAll K H vs ds) (sh : SeqAt.shaped (.list ds) = true) (ne : vs ≠ []) (k : Q (.bl false) H) : rEqD K (.ref p) (.ref q) H Q := by
  refine r_eqD (.lst h dp) (.lst h' .nil) sh (by rfl) ?_
  cases dp with
  | nil => exact (ne rfl).elim
  | cons _ _ => exact k
end

--@ needs LedgV
--@ needs ThingV
/-! things of any kind, at any depth -/
mutual
inductive Tg (F : Hp) : V → PyData → Prop
  | non : Tg F .non .none
  | bl (b : Bool) : Tg F (.bl b) (.bool b)
  | int (i : Int) : Tg F (.int i) (.int i)
  | str (x : Str) : Tg F (.str x) (.str x)
  | lst {a : Addr} {xs : List V} {ds : List PyData} : F a = some (.lst xs) → TgAll F xs ds → Tg F (.ref a) (.list ds)
  | tup {a : Addr} {xs : List V} {ds : List PyData} : F a = some (.tup xs) → TgAll F xs ds → Tg F (.ref a) (.tuple ds)
inductive TgAll (F : Hp) : List V → List PyData → Prop
  | nil : TgAll F [] []
  | cons {v : V} {vs : List V} {d : PyData} {ds : List PyData} : Tg F v d → TgAll F vs ds → TgAll F (v :: vs) (d :: ds)
end
mutual
theorem Tg.ex {F F' : Hp} (e : Ex F F') : ∀ {v : V} {d : PyData}, Tg F v d → Tg F' v d
  | _, _, .non => .non
  | _, _, .bl b => .bl b
  | _, _, .int i => .int i
  | _, _, .str x => .str x
  | _, _, .lst h a => .lst (e _ _ h) (a.ex e)
  | _, _, .tup h a => .tup (e _ _ h) (a.ex e)
theorem TgAll.ex {F F' : Hp} (e : Ex F F') : ∀ {vs : List V} {ds : List PyData}, TgAll F vs ds → TgAll F' vs ds
  | _, _, .nil => .nil
  | _, _, .cons h a => .cons (h.ex e) (a.ex e)
end
mutual
theorem Tg.dp {K : PySem.W.Frag} {F : Hp} : ∀ {v : V} {d : PyData}, Tg F v d → Dp K F v d
  | _, _, .non => .non
  | _, _, .bl b => .bl b
  | _, _, .int i => .int i
  | _, _, .str x => .str x
  | _, _, .lst h a => .lst (SqL.of h) a.dp
  | _, _, .tup h a => .tup (SqT.of h) a.dp
theorem TgAll.dp {K : PySem.W.Frag} {F : Hp} : ∀ {vs : List V} {ds : List PyData}, TgAll F vs ds → DpAll K F vs ds
  | _, _, .nil => .nil
  | _, _, .cons h a => .cons h.dp a.dp
end
theorem TgAll.len {F : Hp} {vs : List V} {ds : List PyData} (h : TgAll F vs ds) : vs.length = ds.length := by
  induction vs generalizing ds with
  | nil => cases h; rfl
  | cons v vs ih =>
    cases h with
    | cons _ a => rw [List.length_cons, List.length_cons, ih a]
theorem TgAll.get {F : Hp} {vs : List V} {ds : List PyData} (h : TgAll F vs ds) {i : Nat} {v : V} (g : vs[i]? = some v) : ∃ d, ds[i]? = some d ∧ Tg F v d := by
  induction vs generalizing ds i with
  | nil => simp at g
  | cons x vs ih =>
    cases h with
    | cons t a =>
      cases i with
      | zero => cases g; exact ⟨_, rfl, t⟩
      | succ i => exact ih a g
theorem TgAll.app {F : Hp} {vs us : List V} {ds es : List PyData} (h : TgAll F vs ds) (h' : TgAll F us es) : TgAll F (vs ++ us) (ds ++ es) := by
  induction vs generalizing ds with
  | nil => cases h; exact h'
  | cons x vs ih =>
    cases h with
    | cons t a => exact .cons t (ih a)
/-- its depth and sizes -/
def okD : Nat → PyData → Bool
  | _, .none => true
  | _, .bool _ => true
  | _, .int i => decide (i.natAbs < 2 ^ 620)
  | _, .str s => (PyData.str s).canLay0
  | j + 1, .list ds => decide (ds.length ≤ 1000) && ds.all (okD j)
  | j + 1, .tuple ds => decide (ds.length ≤ 1000) && ds.all (okD j)
  | _, _ => false
theorem okD_up : ∀ (j : Nat) (d : PyData), okD j d = true → okD (j + 1) d = true
  | _, .none, _ => rfl
  | _, .bool _, _ => rfl
  | 0, .int _, h => h
  | _ + 1, .int _, h => h
  | 0, .str _, h => h
  | _ + 1, .str _, h => h
  | 0, .list _, h => by cases h
  | 0, .tuple _, h => by cases h
  | 0, .dict _, h => by cases h
  | _ + 1, .dict _, h => by cases h
  | j + 1, .list ds, h => by
    show (decide (ds.length ≤ 1000) && ds.all (okD (j + 1))) = true
    have h : (decide (ds.length ≤ 1000) && ds.all (okD j)) = true := h
    rw [Bool.and_eq_true] at h ⊢
    exact ⟨h.1, List.all_eq_true.mpr fun x hx => okD_up j x (List.all_eq_true.mp h.2 x hx)⟩
  | j + 1, .tuple ds, h => by
    show (decide (ds.length ≤ 1000) && ds.all (okD (j + 1))) = true
    have h : (decide (ds.length ≤ 1000) && ds.all (okD j)) = true := h
    rw [Bool.and_eq_true] at h ⊢
    exact ⟨h.1, List.all_eq_true.mpr fun x hx => okD_up j x (List.all_eq_true.mp h.2 x hx)⟩
theorem okD_all {j : Nat} {ds : List PyData} (h : ds.all (okD j) = true) (ih : ∀ d, okD j d = true → d.canLay0 = true ∧ d.depth ≤ j + 1) : PyData.canLayAll0 ds = true ∧ PyData.depthAll ds ≤ j + 1 := by
  induction ds with
  | nil => exact ⟨rfl, Nat.zero_le _⟩
  | cons d ds ihs =>
    rw [List.all_cons, Bool.and_eq_true] at h
    obtain ⟨a, b⟩ := ih d h.1
    obtain ⟨a', b'⟩ := ihs h.2
    refine ⟨?_, ?_⟩
    · show (d.canLay0 && PyData.canLayAll0 ds) = true
      rw [a, a']
      rfl
    · show max d.depth (PyData.depthAll ds) ≤ j + 1
      omega
theorem okD_lay : ∀ (j : Nat) (d : PyData), okD j d = true → d.canLay0 = true ∧ d.depth ≤ j + 1
  | _, .none, _ => ⟨rfl, by simp [PyData.depth]⟩
  | _, .bool _, _ => ⟨rfl, by simp [PyData.depth]⟩
  | _, .int _, _ => ⟨rfl, by simp [PyData.depth]⟩
  | 0, .str _, h => ⟨h, by simp [PyData.depth]⟩
  | _ + 1, .str _, h => ⟨h, by simp [PyData.depth]⟩
  | 0, .list _, h => by cases h
  | 0, .tuple _, h => by cases h
  | 0, .dict _, h => by cases h
  | _ + 1, .dict _, h => by cases h
  | j + 1, .list ds, h => by
    have h : (decide (ds.length ≤ 1000) && ds.all (okD j)) = true := h
    rw [Bool.and_eq_true] at h
    obtain ⟨a, b⟩ := okD_all h.2 (okD_lay j)
    exact ⟨by unfold PyData.canLay0; exact a, by unfold PyData.depth; omega⟩
  | j + 1, .tuple ds, h => by
    have h : (decide (ds.length ≤ 1000) && ds.all (okD j)) = true := h
    rw [Bool.and_eq_true] at h
    obtain ⟨a, b⟩ := okD_all h.2 (okD_lay j)
    exact ⟨by unfold PyData.canLay0; exact a, by unfold PyData.depth; omega⟩
theorem okD_shaped {j : Nat} {d : PyData} (h : okD j d = true) (l : j ≤ 60) : SeqAt.shaped d = true := by
  obtain ⟨a, b⟩ := okD_lay j d h
  unfold SeqAt.shaped
  rw [a, Bool.true_and]
  exact decide_eq_true (by omega)
/-- whether a thing is a stair -/
def dSt : PyData → Bool
  | .tuple [.int _, .int _, .int m] => decide (1 ≤ m)
  | _ => false
theorem Tg.kd {F : Hp} {v : V} {d : PyData} (h : Tg F v d) : Kd1 F v := by
  cases h with
  | non => exact .inr (.inr (.inl rfl))
  | bl b => exact .inr (.inl ⟨b, rfl⟩)
  | int i => exact .inl ⟨i, rfl⟩
  | str x => exact .inr (.inr (.inr (.inl ⟨x, rfl⟩)))
  | lst h _ => exact .inr (.inr (.inr (.inr (.inl ⟨_, _, rfl, h⟩))))
  | tup h _ => exact .inr (.inr (.inr (.inr (.inr ⟨_, _, rfl, h⟩))))
theorem TgAll.kd {F : Hp} {vs : List V} {ds : List PyData} (h : TgAll F vs ds) : ∀ x ∈ vs, Kd1 F x := by
  induction vs generalizing ds with
  | nil => intro x hx; cases hx
  | cons y vs ih =>
    cases h with
    | cons t a =>
      intro x hx
      rcases List.mem_cons.mp hx with rfl | hx
      · exact t.kd
      · exact ih a x hx
theorem TgAll.stB {F : Hp} {vs : List V} {ds : List PyData} (h : TgAll F vs ds) : Sd.stB vs = dSt (.tuple ds) := by
  cases h with
  | nil => rfl
  | cons t1 a =>
    cases a with
    | nil => cases t1 <;> rfl
    | cons t2 a =>
      cases a with
      | nil => cases t1 <;> cases t2 <;> rfl
      | cons t3 a =>
        cases a with
        | nil => cases t1 <;> cases t2 <;> cases t3 <;> rfl
        | cons t4 a => cases t1 <;> cases t2 <;> cases t3 <;> rfl
/-- a thing that is no stair -/
theorem Tg.noSt {F : Hp} {v : V} {d : PyData} {j : Nat} (h : Tg F v d) (ok : okD j d = true) (n : dSt d = false) : NoSt F v := by
  cases h with
  | non => exact .inr ⟨.inr (.inr (.inl rfl)), by intro p xs e; cases e⟩
  | bl b => exact .inr ⟨.inr (.inl ⟨b, rfl⟩), by intro p xs e; cases e⟩
  | int i => exact .inr ⟨.inl ⟨i, rfl⟩, by intro p xs e; cases e⟩
  | str x => exact .inr ⟨.inr (.inr (.inr (.inl ⟨x, rfl⟩))), by intro p xs e; cases e⟩
  | lst h _ => exact .inr ⟨.inr (.inr (.inr (.inr (.inl ⟨_, _, rfl, h⟩)))), by
      intro p ys e h'
      cases e
      rw [h] at h'
      cases h'⟩
  | tup h a =>
    refine .inl ⟨_, _, rfl, h, ?_, a.kd, a.stB.trans n⟩
    rw [a.len]
    cases j with
    | zero => cases ok
    | succ j =>
      have ok : (decide (_ ≤ 1000) && _) = true := ok
      rw [Bool.and_eq_true] at ok
      exact of_decide_eq_true ok.1
/-- a thing that is a stair -/
theorem Tg.st {F : Hp} {v : V} {d : PyData} {j : Nat} (h : Tg F v d) (ok : okD j d = true) (n : dSt d = true) : ∃ p a b m, v = .ref p ∧ F p = some (.tup [.int a, .int b, .int m]) ∧ 0 < m ∧ Sz 620 a ∧ Sz 620 b ∧ Sz 620 m := by
  unfold dSt at n
  split at n
  · rename_i a b m
    cases h with
    | tup h t =>
      cases t with
      | cons t1 t =>
        cases t with
        | cons t2 t =>
          cases t with
          | cons t3 t =>
            cases t with
            | nil =>
              cases t1
              cases t2
              cases t3
              refine ⟨_, _, _, _, rfl, h, by have := of_decide_eq_true n; omega, ?_⟩
              cases j with
              | zero => cases ok
              | succ j =>
                have ok : (decide (_ ≤ 1000) && (okD j (.int a) && (okD j (.int b) && (okD j (.int m) && true)))) = true := ok
                rw [Bool.and_eq_true, Bool.and_eq_true, Bool.and_eq_true, Bool.and_eq_true] at ok
                obtain ⟨_, o1, o2, o3, _⟩ := ok
                have z : ∀ i : Int, okD j (.int i) = true → Sz 620 i := fun i h => by
                  have h : decide (i.natAbs < 2 ^ 620) = true := by cases j <;> exact h
                  exact of_decide_eq_true (p := i.natAbs < 2 ^ 620) h
                exact ⟨z a o1, z b o2, z m o3⟩
  · cases n
/-- those of a tuple that a test keeps -/
theorem lc_tupF {K : PySem.W.Frag} {σ : L2.St} {H : Hp} {Q : VK} {te : TE} {tt : TT} {a : Addr} {xs : List V} {j : Nat} {vs : List Nat} (c : V → Bool) (hx : SqT K H a xs) (hn : xs.length ≤ 100000) (hw : ∀ x, wipe ((wipe σ vs).set j (some x)) vs = wipe σ vs)
    (ht : ∀ x ∈ xs, PureT tt ((wipe σ vs).set j (some x)) H (c x)) (he : ∀ x ∈ xs, PureE te ((wipe σ vs).set j (some x)) H x)
    (k : ∀ p H1, H p = none → Ex H H1 → H1 p = some (.lst (xs.filter c)) → Q (.ref p) H1) : LcB (Itt K a) (gName j) tt te vs σ H Q := fun Dl hD => by
  refine lc_tup (xs := xs) (fun i H' => Ex H H' ∧ H' Dl = some (.lst ((xs.take i).filter c))) ⟨Ex.new hD, upd_same⟩ (fun i H' _ p => sqt_up p.1 hx) (fun i x H' hi p => ?_) (fun H' p => k Dl H' hD p.1 (by rw [p.2, List.take_length]))
  have mem := List.mem_of_getElem? hi
  have tk : xs.take (i + 1) = xs.take i ++ [x] := by rw [List.take_add_one, hi]; rfl
  refine ⟨hw _, ht x mem H' p.1 _ fun H2 e2 => ?_⟩
  cases hc : c x with
  | true =>
    rw [if_pos rfl]
    refine he x mem H2 (p.1.trans e2) _ fun H3 e3 => ⟨_, e3 _ _ (e2 _ _ p.2), ?_, ?_⟩
    · have := List.length_filter_le c (xs.take i)
      rw [List.length_take] at this
      exact len_lt (by omega)
    · refine ⟨fun b o hb => ?_, ?_⟩
      · rw [upd_ne (ne_of_none hb hD)]
        exact e3 _ _ (e2 _ _ (p.1 _ _ hb))
      · rw [upd_same, tk, List.filter_append]
        simp [hc]
  | false =>
    rw [if_neg (by decide)]
    refine ⟨p.1.trans e2, ?_⟩
    rw [tk, List.filter_append]
    simp [hc]
    exact e2 _ _ p.2
theorem TgAll.filter {F : Hp} (c : V → Bool) {vs : List V} {ds : List PyData} (h : TgAll F vs ds) : ∃ es, TgAll F (vs.filter c) es ∧ ∀ j, ds.all (okD j) = true → es.all (okD j) = true := by
  induction vs generalizing ds with
  | nil => cases h; exact ⟨[], .nil, fun _ h => h⟩
  | cons v vs ih =>
    cases h with
    | cons t a =>
      rename_i d ds
      obtain ⟨es, h1, h2⟩ := ih a
      rw [List.filter_cons]
      cases c v with
      | true => exact ⟨d :: es, .cons t h1, fun j h => by
          rw [List.all_cons, Bool.and_eq_true] at h ⊢
          exact ⟨h.1, h2 j h.2⟩⟩
      | false => exact ⟨es, h1, fun j h => by
          rw [List.all_cons, Bool.and_eq_true] at h
          exact h2 j h.2⟩
theorem dSt_ne3 {F : Hp} {xs : List V} {ds : List PyData} (h : TgAll F xs ds) (n : xs.length ≠ 3) : dSt (.tuple ds) = false := by
  rw [← h.stB]
  unfold stB
  split
  · exact (n rfl).elim
  · rfl

theorem TgAll.take {F : Hp} {vs : List V} {ds : List PyData} (h : TgAll F vs ds) (i : Nat) : TgAll F (vs.take i) (ds.take i) := by
  induction vs generalizing ds i with
  | nil => cases h; simp; exact .nil
  | cons v vs ih =>
    cases h with
    | cons t a =>
      cases i with
      | zero => exact .nil
      | succ i => exact .cons t (ih a i)
theorem TgAll.drop {F : Hp} {vs : List V} {ds : List PyData} (h : TgAll F vs ds) (i : Nat) : TgAll F (vs.drop i) (ds.drop i) := by
  induction vs generalizing ds i with
  | nil => cases h; simp; exact .nil
  | cons v vs ih =>
    cases h with
    | cons t a =>
      cases i with
      | zero => exact .cons t a
      | succ i => exact ih a i
/-- F has grown in a run that draws -/
structure G1 (F0 H0 : Hp) (d : Addr) (F H : Hp) : Prop where
  g : Gr F0 H0 F
  e : Ex F H
  k : Kp d H0 H
  D : Dr H d
  f : F d = none
  d0 : ∃ o, H0 d = some o
theorem G1.begin {F H : Hp} {d : Addr} (e : Ex F H) (D : Dr H d) (f : F d = none) : G1 F H d F H := ⟨Gr.refl, e, Kp.refl, D, f, by obtain ⟨ys, h⟩ := D.lst; exact ⟨_, h⟩⟩
theorem G1.free {F0 H0 F H : Hp} {d q : Addr} (G : G1 F0 H0 d F H) (n : H q = none) : H0 q = none := by
  cases h : H0 q with
  | none => rfl
  | some o =>
    by_cases z : q = d
    · exact (G.D.free n z).elim
    · rw [G.k _ _ z h] at n
      cases n
theorem G1.add {F0 H0 F H H' : Hp} {d q : Addr} {o : HO} (G : G1 F0 H0 d F H) (n : H0 q = none) (e : Ex H H') (h : H' q = some o) : ∃ F', G1 F0 H0 d F' H' ∧ Ex F F' ∧ F' q = some o := by
  have qd : q ≠ d := fun z => by
    obtain ⟨u, hu⟩ := G.d0
    rw [← z, n] at hu
    cases hu
  have x : Ex F (upd F q o) := fun a u ha => by
    by_cases z : a = q
    · subst z
      rw [upd_same, ← h]
      exact e _ _ (G.e _ _ ha)
    · rw [upd_ne z]
      exact ha
  refine ⟨upd F q o, ⟨⟨G.g.ex.trans x, fun a u ha => ?_⟩, fun a u ha => ?_, G.k.trans e.kp, G.D.up e, ?_, G.d0⟩, x, upd_same⟩
  · rw [upd_ne (ne_of_none ha n)]
    exact G.g.eq a u ha
  · by_cases z : a = q
    · subst z
      rw [upd_same] at ha
      rw [← ha]
      exact h
    · rw [upd_ne z] at ha
      exact e _ _ (G.e _ _ ha)
  · rw [upd_ne qd.symm]
    exact G.f
theorem G1.dr {F0 H0 F H H' : Hp} {d : Addr} (G : G1 F0 H0 d F H) (k : Kp d H H') (D : Dr H' d) : G1 F0 H0 d F H' := ⟨G.g, G.e.kpd G.f k, G.k.trans k, D, G.f, G.d0⟩
theorem G1.up {F0 H0 F H H' : Hp} {d : Addr} (G : G1 F0 H0 d F H) (e : Ex H H') : G1 F0 H0 d F H' := ⟨G.g, G.e.trans e, G.k.trans e.kp, G.D.up e, G.f, G.d0⟩
theorem r_slAF {K : PySem.W.Frag} {H : Hp} {Q : VK} {p : Addr} {xs : List V} {lo hi : Option Int} (h : H p = some (.tup xs)) (nw : cutV xs lo hi ≠ xs) (k : ∀ q H1, H q = none → Ex H H1 → H1 q = some (.tup (cutV xs lo hi)) → Q (.ref q) H1) : rSlA K (.ref p) lo hi H Q :=
  ⟨p, xs, rfl, SqT.of h, fun w => absurd (cutV_whole w) nw, fun _ q hq => k q _ hq (Ex.new hq) upd_same⟩
theorem r_catAF {K : PySem.W.Frag} {H : Hp} {Q : VK} {p q : Addr} {xs ys : List V} (h : H p = some (.tup xs)) (h2 : H q = some (.tup ys)) (n : xs.length + ys.length ≤ sizeLine) (k : ∀ l H1, (H l = none ∨ l = p ∨ l = q) → Ex H H1 → H1 l = some (.tup (xs ++ ys)) → Q (.ref l) H1) : rCatA K (.ref p) (.ref q) H Q :=
  ⟨p, q, xs, ys, rfl, rfl, SqT.of h, SqT.of h2, n, fun e => k q H (.inr (.inr rfl)) Ex.refl (by subst e; exact h2), fun _ e => k p H (.inr (.inl rfl)) Ex.refl (by subst e; rw [List.append_nil]; exact h), fun _ _ l hl => k l _ (.inl hl) (Ex.new hl) upd_same⟩
theorem okA_app {j : Nat} {ds es : List PyData} (h : ds.all (okD j) = true) (h' : es.all (okD j) = true) : (ds ++ es).all (okD j) = true := by
  rw [List.all_append, h, h']
  rfl
theorem okA_sub {j : Nat} {ds es : List PyData} (h : ds.all (okD j) = true) (s : ∀ x ∈ es, x ∈ ds) : es.all (okD j) = true := List.all_eq_true.mpr fun x hx => List.all_eq_true.mp h x (s x hx)
theorem okD_list {j : Nat} {ds : List PyData} (l : ds.length ≤ 1000) (h : ds.all (okD j) = true) : okD (j + 1) (.list ds) = true := by
  show (decide (ds.length ≤ 1000) && ds.all (okD j)) = true
  rw [decide_eq_true l, h]
  rfl
theorem okD_tup {j : Nat} {ds : List PyData} (l : ds.length ≤ 1000) (h : ds.all (okD j) = true) : okD (j + 1) (.tuple ds) = true := by
  show (decide (ds.length ≤ 1000) && ds.all (okD j)) = true
  rw [decide_eq_true l, h]
  rfl
theorem okD_int {j : Nat} {i : Int} (z : Sz 620 i) : okD j (.int i) = true := by
  have h : decide (i.natAbs < 2 ^ 620) = true := decide_eq_true z
  cases j <;> exact h
theorem Gr.kp {F H F1 H1 F2 : Hp} {d : Addr} (a : Gr F H F1) (b : Gr F1 H1 F2) (k : Kp d H H1) (D : Dr H1 d) : Gr F H F2 := a.trans b fun x o h => by
  by_cases z : x = d
  · obtain ⟨ys, hys⟩ := D.lst
    exact ⟨_, z ▸ hys⟩
  · exact ⟨o, k _ _ z h⟩
theorem Ex.addX {F H : Hp} {q : Addr} {o : HO} (e : Ex F H) (h : H q = some o) : Ex (upd F q o) H := fun a u ha => by
  by_cases z : a = q
  · subst z
    rw [upd_same] at ha
    rw [← ha]
    exact h
  · rw [upd_ne z] at ha
    exact e _ _ ha
theorem r_repT {H : Hp} {Q : VK} {l : Addr} {k : Int} {xs : List V} (h : H l = some (.lst xs)) (k0 : 0 ≤ k) (k1 : k ≤ 100) (n : xs.length ≤ 1000) (q : ∀ p H1, H p = none → Ex H H1 → H1 p = some (.lst (List.replicate k.toNat xs).flatten) → Q (.ref p) H1) : rRep (.ref l) (.int k) H Q :=
  ⟨l, k, xs, rfl, rfl, h, by omega, by omega, Nat.le_trans (Nat.mul_le_mul n (show k.toNat ≤ 100 by omega)) (show 1000 * 100 ≤ sizeLine by decide), fun p hp => q p _ hp (Ex.new hp) upd_same⟩

--@ needs SpoilV TgV
/-! rows of numbers or none, and texts of them -/
def RowsO (H : Hp) (xs : List V) (rows : List (List (Option Int))) : Prop := xs.length = rows.length ∧ ∀ (i : Nat) v, xs[i]? = some v → ∃ p r, v = .ref p ∧ rows[i]? = some r ∧ H p = some (.tup (r.map oI))
theorem RowsO.imp {H H' : Hp} {xs : List V} {rows : List (List (Option Int))} (h : RowsO H xs rows) (f : ∀ (p : Addr) (ys : List V), H p = some (.tup ys) → H' p = some (.tup ys)) : RowsO H' xs rows :=
  ⟨h.1, fun i v g => by
    obtain ⟨p, r, e, g', hp⟩ := h.2 i v g
    exact ⟨p, r, e, g', f _ _ hp⟩⟩
theorem RowsO.ex {H H' : Hp} {xs : List V} {rows : List (List (Option Int))} (h : RowsO H xs rows) (e : Ex H H') : RowsO H' xs rows := h.imp fun p _ q => e p _ q
theorem RowsO.kpL {H H' : Hp} {d : Addr} {ys xs : List V} {rows : List (List (Option Int))} (h : RowsO H xs rows) (k : Kp d H H') (D : H d = some (.lst ys)) : RowsO H' xs rows := h.imp fun _ _ q => k.tupL D q
theorem RowsO.nil {H : Hp} : RowsO H [] [] := ⟨rfl, fun i v g => by simp at g⟩
theorem RowsO.app {H : Hp} {xs : List V} {rows : List (List (Option Int))} {p : Addr} {r : List (Option Int)} (h : RowsO H xs rows) (hp : H p = some (.tup (r.map oI))) : RowsO H (xs ++ [.ref p]) (rows ++ [r]) := by
  refine ⟨by rw [List.length_append, List.length_append, h.1]; rfl, fun i v g => ?_⟩
  by_cases z : i < xs.length
  · rw [List.getElem?_append_left z] at g
    obtain ⟨p', r', e, g', hp'⟩ := h.2 i v g
    exact ⟨p', r', e, by rw [List.getElem?_append_left (by have := h.1; omega)]; exact g', hp'⟩
  · rw [List.getElem?_append_right (by omega)] at g
    have i0 : i - xs.length = 0 := by
      have := (List.getElem?_eq_some_iff.mp g).1
      rw [List.length_singleton] at this
      omega
    rw [i0] at g
    cases g
    refine ⟨p, r, rfl, ?_, hp⟩
    have := h.1
    rw [List.getElem?_append_right (by omega), show i - rows.length = 0 by omega]
    rfl
def oD : Option Int → PyData
  | none => .none
  | some i => .int i
def rowO (r : List (Option Int)) : PyData := .tuple (r.map oD)
theorem tg_os {H : Hp} : ∀ r : List (Option Int), TgAll H (r.map oI) (r.map oD)
  | [] => .nil
  | none :: r => .cons .non (tg_os r)
  | some i :: r => .cons (.int i) (tg_os r)
theorem RowsO.tg {H : Hp} : ∀ {xs : List V} {rows : List (List (Option Int))}, RowsO H xs rows → TgAll H xs (rows.map rowO)
  | [], [], _ => .nil
  | [], _ :: _, h => by cases h.1
  | _ :: _, [], h => by cases h.1
  | x :: xs, r :: rows, h => by
    obtain ⟨p, r', rfl, g, hp⟩ := h.2 0 x rfl
    cases g
    refine .cons (.tup hp (tg_os r)) (RowsO.tg ⟨Nat.succ.inj h.1, fun i v g => ?_⟩)
    exact h.2 (i + 1) v g
theorem lc_lstF {K : PySem.W.Frag} {σ : L2.St} {H : Hp} {Q : VK} {te : TE} {tt : TT} {a : Addr} {xs : List V} {j : Nat} {vs : List Nat} (c : V → Bool) (hx : SqL K H a xs) (hn : xs.length ≤ 100000) (hw : ∀ x, wipe ((wipe σ vs).set j (some x)) vs = wipe σ vs)
    (ht : ∀ x ∈ xs, PureT tt ((wipe σ vs).set j (some x)) H (c x)) (he : ∀ x ∈ xs, PureE te ((wipe σ vs).set j (some x)) H x)
    (k : ∀ p H1, H p = none → Ex H H1 → H1 p = some (.lst (xs.filter c)) → Q (.ref p) H1) : LcB (Itl K a) (gName j) tt te vs σ H Q := fun Dl hD => by
  refine lc_list (xs := xs) (fun i H' => Ex H H' ∧ H' Dl = some (.lst ((xs.take i).filter c))) ⟨Ex.new hD, upd_same⟩ (fun i H' _ p => sql_up p.1 hx) (fun i x H' hi p => ?_) (fun H' p => k Dl H' hD p.1 (by rw [p.2, List.take_length]))
  have mem := List.mem_of_getElem? hi
  have tk : xs.take (i + 1) = xs.take i ++ [x] := by rw [List.take_add_one, hi]; rfl
  refine ⟨hw _, ht x mem H' p.1 _ fun H2 e2 => ?_⟩
  cases hc : c x with
  | true =>
    rw [if_pos rfl]
    refine he x mem H2 (p.1.trans e2) _ fun H3 e3 => ⟨_, e3 _ _ (e2 _ _ p.2), ?_, ?_⟩
    · have := List.length_filter_le c (xs.take i)
      rw [List.length_take] at this
      exact len_lt (by omega)
    · refine ⟨fun b o hb => ?_, ?_⟩
      · rw [upd_ne (ne_of_none hb hD)]
        exact e3 _ _ (e2 _ _ (p.1 _ _ hb))
      · rw [upd_same, tk, List.filter_append]
        simp [hc]
  | false =>
    rw [if_neg (by decide)]
    refine ⟨p.1.trans e2, ?_⟩
    rw [tk, List.filter_append]
    simp [hc]
    exact e2 _ _ p.2
/-- [a new tuple for x in a list] -/
theorem lc_lstO {K : PySem.W.Frag} {σ : L2.St} {H : Hp} {Q : VK} {te : TE} {a : Addr} {xs : List V} {j : Nat} {vs : List Nat} (rows : List (List (Option Int))) (hl : rows.length = xs.length) (hx : SqL K H a xs) (hn : xs.length ≤ 100000) (hw : ∀ x, wipe ((wipe σ vs).set j (some x)) vs = wipe σ vs)
    (he : ∀ (i : Nat) x r, xs[i]? = some x → rows[i]? = some r → ∀ H1, Ex H H1 → ∀ Q : VK, (∀ p H2, Ex H1 H2 → H2 p = some (.tup (r.map oI)) → Q (.ref p) H2) → te ((wipe σ vs).set j (some x)) H1 Q)
    (k : ∀ p H1 us, H p = none → Ex H H1 → H1 p = some (.lst us) → RowsO H1 us rows → Q (.ref p) H1) : LcB (Itl K a) (gName j) tYes te vs σ H Q := fun Dl hD => by
  refine lc_list (xs := xs) (fun i H' => Ex H H' ∧ ∃ us, H' Dl = some (.lst us) ∧ RowsO H' us (rows.take i)) ⟨Ex.new hD, [], upd_same, by rw [List.take_zero]; exact RowsO.nil⟩ (fun i H' _ p => sql_up p.1 hx) (fun i x H' hi p => ?_) (fun H' p => ?_)
  · obtain ⟨e, us, hd, ro⟩ := p
    have lt := (List.getElem?_eq_some_iff.mp hi).1
    have gr : rows[i]? = some rows[i] := List.getElem?_eq_getElem (by omega)
    refine ⟨hw _, tYes_k ?_⟩
    rw [if_pos rfl]
    refine he i x _ hi gr H' e _ fun p H2 e2 hp => ⟨us, e2 _ _ hd, ?_, ?_⟩
    · rw [ro.1, List.length_take]
      exact len_lt (by omega)
    · refine ⟨fun b o hb => ?_, _, upd_same, ?_⟩
      · rw [upd_ne (ne_of_none hb hD)]
        exact e2 _ _ (e _ _ hb)
      · rw [List.take_add_one, gr]
        exact ((ro.ex e2).app hp).kpL Kp.upd (e2 _ _ hd)
  · obtain ⟨e, us, hd, ro⟩ := p
    refine k Dl H' us hD e hd ?_
    rw [← hl, List.take_length] at ro
    exact ro
/-- the rows that a text writes -/
def rowT (l : List Nat) : List (Option Int) := (cutAt 32 l).map nT
def rowsT (l : List Nat) : List (List (Option Int)) := (cutAt 10 l).map rowT
def badR (r : List (Option Int)) : Bool := !decide (r.length = 5) || r.any Option.isNone
def okRs (rows : List (List (Option Int))) : Bool := rows.all fun r => !badR r
theorem RowsO.cons {H : Hp} {xs : List V} {rows : List (List (Option Int))} {p : Addr} {r : List (Option Int)} (hp : H p = some (.tup (r.map oI))) (h : RowsO H xs rows) : RowsO H (.ref p :: xs) (r :: rows) :=
  ⟨by rw [List.length_cons, List.length_cons, h.1], fun i v g => by
    match i, g with
    | 0, g => cases g; exact ⟨p, r, rfl, rfl, hp⟩
    | i + 1, g => exact h.2 i v g⟩
def cBad (H : Hp) : V → Bool
  | .ref t => match H t with
    | some (.tup ys) => !decide (ys.length = 5) || inV .non ys
    | _ => false
  | _ => false
theorem cBad_is {H : Hp} {p : Addr} {r : List (Option Int)} (hp : H p = some (.tup (r.map oI))) : cBad H (.ref p) = badR r := by
  unfold cBad badR
  show (match H p with
    | some (.tup ys) => !decide (ys.length = 5) || inV .non ys
    | _ => false) = _
  rw [hp]
  show (!decide ((r.map oI).length = 5) || inV .non (r.map oI)) = _
  rw [inV_nons, List.length_map]
theorem RowsO.filter {H : Hp} : ∀ {xs : List V} {rows : List (List (Option Int))}, RowsO H xs rows → RowsO H (xs.filter (cBad H)) (rows.filter badR)
  | [], [], _ => RowsO.nil
  | [], _ :: _, h => by cases h.1
  | _ :: _, [], h => by cases h.1
  | x :: xs, r :: rows, h => by
    obtain ⟨p, r', rfl, g, hp⟩ := h.2 0 x rfl
    cases g
    have ih := RowsO.filter (xs := xs) (rows := rows) ⟨Nat.succ.inj h.1, fun i v g => h.2 (i + 1) v g⟩
    rw [List.filter_cons, List.filter_cons, cBad_is hp]
    cases badR r
    · exact ih
    · exact ih.cons hp
theorem lay_rowO (r : List (Option Int)) : PyData.canLay0 (rowO r) = true ∧ PyData.depth (rowO r) ≤ 2 := by
  have h1 : PyData.canLayAll0 (r.map oD) = true := by
    induction r with
    | nil => rfl
    | cons o r ih =>
      show (PyData.canLay0 (oD o) && PyData.canLayAll0 (r.map oD)) = true
      rw [ih]
      cases o <;> rfl
  have h2 : PyData.depthAll (r.map oD) ≤ 1 := by
    induction r with
    | nil => exact Nat.zero_le _
    | cons o r ih =>
      have h1' : PyData.canLayAll0 (r.map oD) = true := by
        have e : (PyData.canLay0 (oD o) && PyData.canLayAll0 (r.map oD)) = true := h1
        rw [Bool.and_eq_true] at e
        exact e.2
      have := ih h1'
      show max (PyData.depth (oD o)) (PyData.depthAll (r.map oD)) ≤ 1
      have h3 : PyData.depth (oD o) ≤ 1 := by cases o <;> (unfold oD PyData.depth; omega)
      omega
  exact ⟨by unfold rowO PyData.canLay0; exact h1, by unfold rowO PyData.depth; omega⟩
theorem lay_rowsO (rows : List (List (Option Int))) : PyData.canLay0 (.list (rows.map rowO)) = true ∧ PyData.depth (.list (rows.map rowO)) ≤ 3 := by
  have h1 : PyData.canLayAll0 (rows.map rowO) = true := by
    induction rows with
    | nil => rfl
    | cons r rows ih =>
      show (PyData.canLay0 (rowO r) && PyData.canLayAll0 (rows.map rowO)) = true
      rw [ih, (lay_rowO r).1]
      rfl
  have h2 : ∀ rs : List (List (Option Int)), PyData.depthAll (rs.map rowO) ≤ 2 := by
    intro rs
    induction rs with
    | nil => exact Nat.zero_le _
    | cons r rs ih =>
      show max (PyData.depth (rowO r)) (PyData.depthAll (rs.map rowO)) ≤ 2
      have := (lay_rowO r).2
      omega
  have := h2 rows
  exact ⟨by unfold PyData.canLay0; exact h1, by unfold PyData.depth; omega⟩
theorem shp_rowsO (rows : List (List (Option Int))) : SeqAt.shaped (.list (rows.map rowO)) = true := by
  obtain ⟨a, b⟩ := lay_rowsO rows
  unfold SeqAt.shaped
  rw [a, Bool.true_and]
  exact decide_eq_true (by omega)
theorem shp_toldR (rows : List (List (Option Int))) (z : Str) (h : PyData.canLay0 (.str z) = true) : SeqAt.shaped (.tuple [.list (rows.map rowO), .str z]) = true := by
  obtain ⟨a, b⟩ := lay_rowsO rows
  unfold SeqAt.shaped
  rw [Bool.and_eq_true]
  refine ⟨?_, decide_eq_true ?_⟩
  · show (PyData.canLay0 (.list (rows.map rowO)) && (PyData.canLay0 (.str z) && true)) = true
    rw [a, h]
    rfl
  · have h2 : PyData.depth (.str z) ≤ 1 := by unfold PyData.depth; omega
    have e : ∀ x y : PyData, PyData.depth (.tuple [x, y]) = 1 + max x.depth (max y.depth 0) := fun x y => by
      first
        | rfl
        | (simp [PyData.depth, PyData.depthAll]; done)
        | (rw [PyData.depth, PyData.depthAll, PyData.depthAll, PyData.depthAll]; omega)
    rw [e]
    omega
theorem eqv_os (r : List (Option Int)) : PyData.eqvAll (r.map oD) (r.map oD) = true := by
  induction r with
  | nil => rfl
  | cons o r ih =>
    show (PyData.eqv (oD o) (oD o) && PyData.eqvAll (r.map oD) (r.map oD)) = true
    rw [ih, Bool.and_true]
    cases o with
    | none => rfl
    | some i => exact beq_self_eq_true i
theorem eqv_rowsO (rows : List (List (Option Int))) : PyData.eqv (.list (rows.map rowO)) (.list (rows.map rowO)) = true := by
  show PyData.eqvAll (rows.map rowO) (rows.map rowO) = true
  induction rows with
  | nil => rfl
  | cons r rows ih =>
    show (PyData.eqv (rowO r) (rowO r) && PyData.eqvAll (rows.map rowO) (rows.map rowO)) = true
    rw [ih, Bool.and_true]
    exact eqv_os r
theorem eqv_toldR (rows : List (List (Option Int))) (z : Str) : PyData.eqv (.tuple [.list (rows.map rowO), .str z]) (.tuple [.list (rows.map rowO), .str z]) = true := by
  show (PyData.eqv (.list (rows.map rowO)) (.list (rows.map rowO)) && ((z == z) && true)) = true
  rw [eqv_rowsO, beq_self_eq_true]
  rfl
theorem filter_bad (rows : List (List (Option Int))) : (rows.filter badR).isEmpty = okRs rows := by
  induction rows with
  | nil => rfl
  | cons r rows ih =>
    unfold okRs
    rw [List.filter_cons, List.all_cons]
    cases badR r
    · exact ih
    · rfl
theorem okRs_snoc {rows : List (List (Option Int))} {r : List (Option Int)} (h : okRs rows = true) (hr : badR r = false) : okRs (rows ++ [r]) = true := by
  unfold okRs at h ⊢
  rw [List.all_append, h, List.all_cons, hr]
  rfl
def rtx (r : List Int) : List Nat := TL.joinL [32] (r.map numI)
def ptx (rs : List (List Int)) : List Nat := TL.joinL [10] (rs.map rtx)
def sV : V → V
  | .int i => .str (SX.S (numI i))
  | _ => .non
theorem numI_len1900' {n : Int} (h : Sz 1900 n) : (numI n).length ≤ 1000 := by
  have h1 : n.natAbs < 10 ^ 900 := Nat.lt_of_lt_of_le h (by decide +kernel)
  have := TL.numL_len (n := n.natAbs) (k := 900) (by decide) h1
  unfold numI
  split
  · rw [List.length_cons]; omega
  · omega
theorem wgt_le {k : Nat} : ∀ {ws : List (List Nat)}, (∀ w ∈ ws, w.length ≤ k) → wgt ws ≤ ws.length * (k + 1)
  | [], _ => Nat.zero_le _
  | w :: ws, h => by
    have h1 := h w (by simp)
    have h2 := wgt_le fun x hx => h x (List.mem_cons_of_mem _ hx)
    show w.length + 1 + wgt ws ≤ (ws.length + 1) * (k + 1)
    rw [Nat.add_mul]
    omega
/-- rows that can be written -/
def WrR (rs : List (List Int)) : Prop := rs.length ≤ 90 ∧ ∀ r ∈ rs, r.length ≤ 10 ∧ ∀ x ∈ r, Sz 1900 x
theorem WrR.row {rs : List (List Int)} {r : List Int} (h : WrR rs) (hr : r ∈ rs) : wgt (r.map numI) ≤ 10010 ∧ (rtx r).length ≤ 10010 := by
  obtain ⟨l, z⟩ := h.2 r hr
  have h1 : wgt (r.map numI) ≤ (r.map numI).length * (1000 + 1) := wgt_le fun w hw => by
    obtain ⟨x, hx, rfl⟩ := List.mem_map.mp hw
    exact numI_len1900' (z x hx)
  rw [List.length_map] at h1
  have h2 := joinL_len 32 (r.map numI)
  have h3 : r.length * (1000 + 1) ≤ 10 * (1000 + 1) := Nat.mul_le_mul_right _ l
  refine ⟨by omega, ?_⟩
  unfold rtx
  omega
theorem WrR.all {rs : List (List Int)} (h : WrR rs) : wgt (rs.map rtx) ≤ 900990 := by
  have h1 : wgt (rs.map rtx) ≤ (rs.map rtx).length * (10010 + 1) := wgt_le fun w hw => by
    obtain ⟨r, hr, rfl⟩ := List.mem_map.mp hw
    exact (h.row hr).2
  rw [List.length_map] at h1
  have h3 : rs.length * (10010 + 1) ≤ 90 * (10010 + 1) := Nat.mul_le_mul_right _ h.1
  omega
theorem numI_ok (n : Int) : okT (numI n) := by
  have d : ∀ n, okT (TL.numL n) := fun n c hc => by
    have := TL.numL_digits n c hc
    omega
  intro c hc
  unfold numI at hc
  split at hc
  · rcases List.mem_cons.mp hc with rfl | hc
    · omega
    · exact d _ c hc
  · exact d _ c hc
theorem ptx_ok (rs : List (List Int)) : okT (ptx rs) := joinL_ok (by decide) fun w hw => by
  obtain ⟨r, _, rfl⟩ := List.mem_map.mp hw
  exact joinL_ok (by decide) fun w hw => by
    obtain ⟨x, _, rfl⟩ := List.mem_map.mp hw
    exact numI_ok x
theorem ptx_len {rs : List (List Int)} (h : WrR rs) : (ptx rs).length ≤ 900990 := Nat.le_trans (joinL_len 10 _) h.all
/-- tuples stay -/
def Kt (H H' : Hp) : Prop := ∀ (a : Addr) (xs : List V), H a = some (.tup xs) → H' a = some (.tup xs)
/-- [e for j in a range], e draws -/
theorem lc_rngD {σ : L2.St} {H : Hp} {Q : VK} {te : TE} {lo : Int} {n j : Nat} {vs : List Nat} {d : Addr} (P : Nat → V → Hp → Prop) (hP : ∀ i v H H', Kt H H' → P i v H → P i v H') (D : Dr H d) (hn : n ≤ 100000) (hw : ∀ x, wipe ((wipe σ vs).set j (some x)) vs = wipe σ vs)
    (he : ∀ i : Nat, i < n → ∀ H1, Kp d H H1 → Dr H1 d → ∀ Q : VK, (∀ v H2, Kp d H1 H2 → Dr H2 d → P i v H2 → Q v H2) → te ((wipe σ vs).set j (some (.int (lo + i)))) H1 Q)
    (k : ∀ Dl H1 us, H Dl = none → Kp d H H1 → Dr H1 d → H1 Dl = some (.lst us) → us.length = n → (∀ (i : Nat) v, us[i]? = some v → P i v H1) → Q (.ref Dl) H1) : LcB (Itr lo n) (gName j) tYes te vs σ H Q := fun Dl hD => by
  have nd : Dl ≠ d := D.free hD
  refine lc_range (fun i H' => Kp d H H' ∧ Dr H' d ∧ ∃ us, H' Dl = some (.lst us) ∧ us.length = i ∧ ∀ (t : Nat) v, us[t]? = some v → P t v H') ⟨(Ex.new hD).kp, D.up (Ex.new hD), [], upd_same, rfl, fun t v h => by simp at h⟩ (fun i H' hi p => ?_) (fun H' p => ?_)
  · obtain ⟨e, D', us, hd, hl, hp⟩ := p
    refine ⟨hw _, ?_⟩
    refine tYes_k ?_
    rw [if_pos rfl]
    refine he i hi H' e D' _ fun v H2 e2 D2 pv => ⟨us, e2 _ _ nd hd, len_lt (by omega), ?_⟩
    have hd2 := e2 _ _ nd hd
    have kt1 : Kt H' H2 := fun a xs ha => e2.tup D' ha
    have kt2 : Kt H2 (upd H2 Dl (.lst (us ++ [v]))) := fun a xs ha => (Kp.upd (H := H2)).tupL hd2 ha
    refine ⟨(e.trans e2).via hD Kp.upd, D2.kp nd.symm Kp.upd, us ++ [v], upd_same, by rw [List.length_append, hl]; rfl, fun t u ht => ?_⟩
    by_cases z : t < us.length
    · rw [List.getElem?_append_left z] at ht
      exact hP _ _ _ _ kt2 (hP _ _ _ _ kt1 (hp t u ht))
    · rw [List.getElem?_append_right (by omega)] at ht
      have : t - us.length = 0 := by
        by_cases y : t - us.length = 0
        · exact y
        · rw [List.getElem?_eq_none (by show 1 ≤ _; omega)] at ht
          cases ht
      rw [this] at ht
      cases ht
      have et : t = i := by omega
      subst et
      exact hP _ _ _ _ kt2 pv
  · obtain ⟨e, D', us, hd, hl, hp⟩ := p
    exact k Dl H' us hD e D' hd hl hp
theorem ints_of {P : Int → Prop} : ∀ {us : List V}, (∀ (i : Nat) v, us[i]? = some v → ∃ z, v = V.int z ∧ P z) → ∃ zs : List Int, us = zs.map V.int ∧ ∀ z ∈ zs, P z
  | [], _ => ⟨[], rfl, fun z h => by cases h⟩
  | u :: us, h => by
    obtain ⟨zs, e, hz⟩ := ints_of (us := us) fun i v g => h (i + 1) v g
    obtain ⟨z, rfl, pz⟩ := h 0 u rfl
    exact ⟨z :: zs, by rw [e]; rfl, fun x hx => by
      rcases List.mem_cons.mp hx with rfl | hx
      · exact pz
      · exact hz x hx⟩
theorem rows_of {H : Hp} {P : List Int → Prop} : ∀ {us : List V}, (∀ (i : Nat) v, us[i]? = some v → ∃ p r, v = V.ref p ∧ H p = some (.tup (r.map V.int)) ∧ P r) → ∃ rs : List (List Int), RowsA H us rs ∧ ∀ r ∈ rs, P r
  | [], _ => ⟨[], trivial, fun z h => by cases h⟩
  | u :: us, h => by
    obtain ⟨rs, e, hz⟩ := rows_of (us := us) fun i v g => h (i + 1) v g
    obtain ⟨p, r, rfl, hp, pr⟩ := h 0 u rfl
    exact ⟨r :: rs, ⟨⟨p, rfl, hp⟩, e⟩, fun x hx => by
      rcases List.mem_cons.mp hx with rfl | hx
      · exact pr
      · exact hz x hx⟩
theorem RowsA.takeT {H : Hp} : ∀ {xs : List V} {rs : List (List Int)} (k : Nat), RowsA H xs rs → RowsA H (xs.take k) (rs.take k)
  | _, _, 0, _ => trivial
  | [], [], k + 1, _ => trivial
  | _ :: _, _ :: _, k + 1, ⟨h, r⟩ => ⟨h, RowsA.takeT k r⟩
  | [], _ :: _, _ + 1, h => h.elim
  | _ :: _, [], _ + 1, h => h.elim
theorem cutV_takeT (xs : List V) {i : Int} (h0 : 0 ≤ i) : cutV xs none (some i) = xs.take i.toNat := by
  unfold cutV
  have e1 : HT.sIx xs.length 0 none = 0 := rfl
  have e2 : HT.sIx xs.length xs.length (some i) = min i.toNat xs.length := by
    show (if i < 0 then (i + (xs.length : Int)).toNat else min i.toNat xs.length) = _
    rw [if_neg (by omega)]
  rw [e1, e2]
  show List.take (min i.toNat xs.length - 0) (List.drop 0 xs) = _
  rw [Nat.sub_zero, List.drop_zero]
  by_cases c : i.toNat ≤ xs.length
  · rw [Nat.min_eq_left c]
  · rw [Nat.min_eq_right (by omega), List.take_of_length_le (Nat.le_refl _), List.take_of_length_le (by omega)]

def sp_paper_text (_ : PySem.W.Frag) : Sp := fun vs H Q _ => ∃ (l : Addr) (xs : List V) (rs : List (List Int)), vs = [.ref l] ∧ H l = some (.lst xs) ∧ RowsA H xs rs ∧ WrR rs ∧ ∀ H', Ex H H' → Q (.str (SX.S (ptx rs))) H'
theorem use_paper_text {K : PySem.W.Frag} {H : Hp} {Q : VK} {E : XK} {l : Addr} {xs : List V} {rs : List (List Int)} (hl : H l = some (.lst xs)) (R : RowsA H xs rs) (W : WrR rs) (q : ∀ H', Ex H H' → Q (.str (SX.S (ptx rs))) H') : sp_paper_text K [.ref l] H Q E := ⟨l, xs, rs, rfl, hl, R, W, q⟩
abbrev s_paper_text : Stmt := topS 26
abbrev nm_paper_text : List Str := ["paper", "row", "number"]
theorem sc_paper_text : FnScope nm_paper_text ["paper"] (defScope s_paper_text) := ⟨rfl, rfl, rfl, by decide +kernel, rfl, by decide +kernel, by decide +kernel⟩
theorem st_paper_text {v0 : V} : start nm_paper_text [v0] = [some v0, none, none] := rfl
section
variable {P : Program} {w : World} {K : PySem.W.Frag} {mg : Str → Option Value} {base : Heap} {c : Cl}
theorem ok_paper_text (D : DefAt K mg "paper_text" s_paper_text ["paper"]) (B_str : mg "str" = none) : Has P w K mg base CX0 2 "paper_text" ["paper"] (sp_paper_text K) := by
  refine D.ok sc_paper_text (by rintro _ _ _ _ ⟨_, _, _, rfl, _⟩; rfl) (fun f cdv A outer s H vs Q E hr h => ?_)
  obtain ⟨l, xs, rs, rfl, hl, R, W, q⟩ := h
  have lx := R.len
  have W1 := W.1
  have wall := W.all
  refine ⟨_, (pss_one (ps_ret (pe_bm PySem.F.plainAttrs_str PySem.F.slot_str_join PySem.F.type_str_join mt_joinR pe_str (pa_cons (pe_lc rfl sc_paper_text.nd (pi_list (pv 0)) (blkOk_by (own := [("row", 1)]) (N := nm_paper_text) (sc := defScope s_paper_text) (by decide +kernel)) (fun _ _ _ _ _ => (pg_name (i := 1) sc_paper_text.nd rfl (Or.inl rfl))) (fun _ _ _ _ _ => pts_nil) (fun _ _ _ _ _ => ((pe_bmK (K := K)) PySem.F.plainAttrs_str PySem.F.slot_str_join PySem.F.type_str_join (mt_joinRK (K := K)) pe_str (pa_cons (pe_lc rfl sc_paper_text.nd ((pi_tupK (K := K)) (pv 1)) (blkN (own := [("number", 2)]) (N := nm_paper_text) (sc := defScope s_paper_text) (by decide +kernel)) (fun _ _ _ _ _ => (pg_name (i := 2) sc_paper_text.nd rfl (Or.inl rfl))) (fun _ _ _ _ _ => pts_nil) (fun _ _ _ _ _ => (pe_callTy cl_strI (by rfl) B_str (by decide +kernel) (pa_cons (pv 2) pa_nil)))) pa_nil)))) pa_nil)))), ?_⟩
  rw [st_paper_text]
  try dsimp only [Cx.nox, Cx.wish, Cx.blk, cx_K, cxH_K]
  walk_at "go"
  refine lc_lstI (fun i => .str (SX.S (rtx (rs.getD i [])))) (SqL.of hl) (by omega) (fun _ => rfl) (fun i x hx G eG QE kE => ?_) (fun p1 H1 n1 e1 h1 => ?_)
  · obtain ⟨p, r, rfl, gr, hp⟩ := R.get hx
    have hp := eG.at hp
    have er : rs.getD i [] = r := by rw [List.getD_eq_getElem?_getD, gr]; rfl
    rw [er] at kE
    obtain ⟨l10, zr⟩ := W.2 r (List.mem_of_getElem? gr)
    have wr := (W.row (List.mem_of_getElem? gr)).1
    walk_at "go"
    refine lc_tupP sV (SqT.of hp) (by rw [List.length_map]; omega) (fun _ => rfl) (fun j y hy G2 eG2 QE2 kE2 => ?_) (fun p2 H2 n2 e2 h2 => ?_)
    · rw [List.getElem?_map] at hy
      obtain ⟨i, hi, rfl⟩ := Option.map_eq_some_iff.mp hy
      have zi := zr i (List.mem_of_getElem? hi)
      walk_at "go"
      exact kE2 _ Ex.refl
    · have h2 : H2 p2 = some (.lst (wstrs (r.map numI))) := by
        rw [h2]
        unfold wstrs
        rw [List.map_map, List.map_map]
        rfl
      walk_at "go"
      exact kE _ e2
  · have h1 : H1 p1 = some (.lst (wstrs (rs.map rtx))) := by
      rw [h1, lx]
      unfold wstrs
      rw [List.map_map]
      congr 2
      refine List.ext_getElem? fun i => ?_
      by_cases z : i < rs.length
      · rw [List.getElem?_map, List.getElem?_range z, List.getElem?_map, List.getElem?_eq_getElem z]
        show some (V.str (SX.S (rtx (rs.getD i [])))) = some (V.str (SX.S (rtx rs[i])))
        rw [List.getD_eq_getElem?_getD, List.getElem?_eq_getElem z]
        rfl
      · rw [List.getElem?_eq_none (by rw [List.length_map, List.length_range]; omega), List.getElem?_eq_none (by rw [List.length_map]; omega)]
    walk_at "go"
    exact q _ e1

end
def sp_law_number (_ : PySem.W.Frag) : Sp := fun vs H Q _ => ∃ l : List Nat, vs = [.str (SX.S l)] ∧ l.length ≤ 1000000 ∧ okT l ∧ ∀ H', Ex H H' → Q (oI (nT l)) H'
theorem use_law_number {K : PySem.W.Frag} {H : Hp} {Q : VK} {E : XK} {l : List Nat} (n : l.length ≤ 1000000) (ok : okT l) (q : ∀ H', Ex H H' → Q (oI (nT l)) H') : sp_law_number K [.str (SX.S l)] H Q E := ⟨l, rfl, n, ok, q⟩
abbrev s_law_number : Stmt := topS 36
abbrev nm_law_number : List Str := ["word", "figures", "sign"]
theorem sc_law_number : FnScope nm_law_number ["word"] (defScope s_law_number) := ⟨rfl, rfl, rfl, by decide +kernel, rfl, by decide +kernel, by decide +kernel⟩
theorem st_law_number {v0 : V} : start nm_law_number [v0] = [some v0, none, none] := rfl
section
variable {P : Program} {w : World} {K : PySem.W.Frag} {mg : Str → Option Value} {base : Heap} {c : Cl}
theorem ok_law_number (D : DefAt K mg "_law_number" s_law_number ["word"]) (B_int : mg "int" = none) (B_len : mg "len" = none) : Has P w K mg base CX0 2 "_law_number" ["word"] (sp_law_number K) := by
  refine D.ok sc_law_number (by rintro _ _ _ _ ⟨_, rfl, _⟩; rfl) (fun f cdv A outer s H vs Q E hr h => ?_)
  obtain ⟨l, rfl, n, ok, q⟩ := h
  refine ⟨_, (pss_cons (ps_set (i := 1) sc_law_number.nd rfl (Or.inl rfl) (pe_slice sl_str (pv 0) (po_some (pe_callTy cl_int1 (by rfl) B_int (by decide +kernel) (pa_cons (pe_cmpR op_eq (pe_slice sl_str (pv 0) po_none (po_some pe_int)) pe_str (nomark _)) pa_nil))) po_none))
      (pss_cons (ps_if (PW.pt (pw_or (pt_not (pt_chain op_lt op_lt pe_int (pe_callB cl_lenS (by rfl) B_len (by decide +kernel) (pa_cons (pv 1) pa_nil)) pe_int)) (pw_or1 (pt_cmpR (op_neD hr.units) (pe_lc rfl sc_law_number.nd (pi_str (pv 1)) (blkOk_by (own := [("sign", 2)]) (N := nm_law_number) (sc := defScope s_law_number) (by decide +kernel)) (fun _ _ _ _ _ => (pg_name (i := 2) sc_law_number.nd rfl (Or.inl rfl))) (fun _ _ _ _ _ => pts_one (pt_cmpR op_notInS (pv 2) pe_str (by rfl))) (fun _ _ _ _ _ => (pv 2))) (pe_lst pa_nil) (nomark _))))) (pss_one (ps_ret pe_non)) pss_nil)
      (pss_cons (ps_if (PW.pt (pw_and (pt_cmpR op_eq (pe_ix ix_str (pv 1) pe_int (fun _ _ => rfl)) pe_str (nomark _)) (pw_and1 (pt_cmpR op_ne (pv 0) pe_str (nomark _))))) (pss_one (ps_ret pe_non)) pss_nil)
      (pss_one (ps_ret (pe_callTy call_intS (by rfl) B_int (by decide +kernel) (pa_cons (pv 0) pa_nil))))))), ?_⟩
  rw [st_law_number]
  try dsimp only [Cx.nox, Cx.wish, Cx.blk, cx_K, cxH_K]
  have ef : l.drop (if decide (List.take (Int.toNat 1) l = [45]) = true then (1 : Int) else 0).toNat = figs l := by
    unfold figs
    by_cases h0 : l.take 1 = [45]
    · rw [if_pos h0, decide_eq_true (show List.take (Int.toNat 1) l = [45] from h0)]
      rfl
    · rw [if_neg h0, decide_eq_false (show ¬ List.take (Int.toNat 1) l = [45] from h0)]
      rfl
  have nf : (figs l).length ≤ 1000000 := by
    unfold figs
    split
    · rw [List.length_drop]; omega
    · exact n
  have okf : okT (figs l) := ok.sub (figs_sub l)
  walk_at "go"
  rw [ef]
  have none_ : (figs l).length < 1 ∨ 30 < (figs l).length ∨ l = [45, 48] → nT l = none := fun z => by unfold nT; rw [if_pos z]
  refine if_2 (fun h1 => ?_) (fun h1 => ?_)
  · have h1 := of_decide_eq_true h1
    walk_at "go"
    refine if_2 (fun h2 => ?_) (fun h2 => ?_)
    · have h2 : ¬ ((figs l).length : Int) < 31 := fun z => by rw [decide_eq_true z] at h2; cases h2
      walk_at "go"
      have e := q _ Ex.refl
      rw [none_ (.inr (.inl (by omega)))] at e
      exact e
    have h2 : ((figs l).length : Int) < 31 := by
      by_cases z : ((figs l).length : Int) < 31
      · exact z
      · rw [decide_eq_false z] at h2; cases h2
    walk_at "go"
    refine lc_strF (fun c => !(decide (48 ≤ c) && decide (c ≤ 57))) (fun c => .str (SX.S [c])) nf (fun _ => rfl) (fun z hz H1 e1 QE kE => ?_) (fun z hz _ H1 e1 QE kE => ?_) (fun p H1 np e1 hp => ?_)
    · walk_at "go"
      have e := kE _ Ex.refl
      rw [dig_in]
      exact e
    · walk_at "go"
      exact kE _ Ex.refl
    · walk_at "go"
      rename_i p2 H2 n2 e2 h2'
      refine r_neD (.lst (SqL.of (e2.at hp)) (dp_sgs _)) (.lst (SqL.of h2') .nil) (shp_sgs (okf.sub fun c hc => (List.mem_filter.mp hc).1)) (by rfl) ?_
      rw [eqv_nil, List.isEmpty_map, nodig_nil]
      have n2 : ∀ z : l = [45, 48], (figs l)[0]? = some 48 := fun z => by rw [z]; rfl
      cases hA : allD (figs l) with
      | false =>
        walk_at "go"
        have e := q _ (e1.trans e2)
        by_cases n1 : (figs l).length < 1 ∨ 30 < (figs l).length ∨ l = [45, 48]
        · rw [none_ n1] at e
          exact e
        · have : nT l = none := by unfold nT; rw [if_neg n1, if_pos (.inl hA)]
          rw [this] at e
          exact e
      | true =>
        walk_at "go"
        obtain ⟨c, hc⟩ : ∃ c, (figs l)[0]? = some c := ⟨_, List.getElem?_eq_getElem (by omega)⟩
        refine r_ixS (c := c) rfl (by decide) hc nf ?_
        walk_at "go"
        have fin : (c = 48 → l = [48]) → rIntS [.str (SX.S l)] H2 Q := fun z => by
          have e := q _ (e1.trans e2)
          obtain ⟨n, hn⟩ : ∃ n, nT l = some n := by
            unfold nT
            rw [if_neg, if_neg]
            · exact ⟨_, rfl⟩
            · rintro (z2 | ⟨z2, z3⟩)
              · rw [hA] at z2; cases z2
              · rw [hc] at z2
                rw [z (Option.some.inj z2)] at z3
                exact absurd z3 (by decide)
            · rintro (z2 | z2 | z2)
              · omega
              · omega
              · have := n2 z2
                rw [hc] at this
                rw [z (Option.some.inj this)] at z2
                exact absurd z2 (by decide)
          rw [hn] at e
          exact r_intS rfl (nT_int hn) (by have := nT_len hn; omega) e
        refine if_2 (fun h4 => ?_) (fun h4 => ?_)
        · have h4 : [c] = [48] := of_decide_eq_true h4
          have h4 : c = 48 := by simpa using h4
          subst h4
          walk_at "go"
          refine if_2 (fun h5 => ?_) (fun h5 => ?_)
          · have h5 : ¬ l = [48] := fun z => by rw [decide_eq_true z] at h5; cases h5
            walk_at "go"
            have e := q _ (e1.trans e2)
            have : nT l = none := by
              by_cases n1 : (figs l).length < 1 ∨ 30 < (figs l).length ∨ l = [45, 48]
              · exact none_ n1
              · unfold nT
                rw [if_neg n1, if_pos]
                refine .inr ⟨hc, Nat.lt_of_not_le fun z => ?_⟩
                have hf : figs l = [48] := by
                  match hm : figs l, z with
                  | [], _ => rw [hm] at h1; simp at h1
                  | [x], _ => rw [hm] at hc; cases hc; rfl
                unfold figs at hf
                split at hf
                · rename_i h45
                  refine n1 (.inr (.inr ?_))
                  have := List.take_append_drop 1 l
                  rw [h45, hf] at this
                  exact this.symm
                · exact h5 hf
            rw [this] at e
            exact e
          · have h5 : l = [48] := by
              by_cases z : l = [48]
              · exact z
              · rw [decide_eq_false z] at h5; cases h5
            walk_at "go"
            exact fin fun _ => h5
        · have h4 : ¬ [c] = [48] := of_decide_eq_false h4
          walk_at "go"
          exact fin fun z => (h4 (by rw [z])).elim
  · have h1 := of_decide_eq_false h1
    walk_at "go"
    have e := q _ Ex.refl
    rw [none_ (.inl (by omega))] at e
    exact e

end
def sp_law_read (_ : PySem.W.Frag) : Sp := fun vs H Q _ => ∃ l : List Nat, vs = [.str (SX.S l)] ∧ l.length ≤ 90000 ∧ okT l ∧ (okRs (rowsT l) = true → ∀ p us H', Ex H H' → H' p = some (.lst us) → RowsO H' us (rowsT l) → Q (.ref p) H') ∧ (okRs (rowsT l) = false → ∀ H', Ex H H' → Q .non H')
theorem use_law_read {K : PySem.W.Frag} {H : Hp} {Q : VK} {E : XK} {l : List Nat} (n : l.length ≤ 90000) (ok : okT l) (q1 : okRs (rowsT l) = true → ∀ p us H', Ex H H' → H' p = some (.lst us) → RowsO H' us (rowsT l) → Q (.ref p) H') (q2 : okRs (rowsT l) = false → ∀ H', Ex H H' → Q .non H') : sp_law_read K [.str (SX.S l)] H Q E := ⟨l, rfl, n, ok, q1, q2⟩
abbrev s_law_read : Stmt := topS 47
abbrev nm_law_read : List Str := ["text", "rows", "line", "word", "row"]
theorem sc_law_read : FnScope nm_law_read ["text"] (defScope s_law_read) := ⟨rfl, rfl, rfl, by decide +kernel, rfl, by decide +kernel, by decide +kernel⟩
theorem st_law_read {v0 : V} : start nm_law_read [v0] = [some v0, none, none, none, none] := rfl
section
variable {P : Program} {w : World} {K : PySem.W.Frag} {mg : Str → Option Value} {base : Heap} {c : Cl}
theorem ok_law_read (D : DefAt K mg "_law_read" s_law_read ["text"]) (B_tuple : mg "tuple" = none) (B_len : mg "len" = none) (G__law_number : Has P w K mg base CX0 2 "_law_number" ["word"] (sp_law_number K)) : Has P w K mg base CX0 3 "_law_read" ["text"] (sp_law_read K) := by
  refine D.ok sc_law_read (by rintro _ _ _ _ ⟨_, rfl, _⟩; rfl) (fun f cdv A outer s H vs Q E hr h => ?_)
  obtain ⟨l, rfl, n, ok, q1, q2⟩ := h
  have hl : l.length ≤ 1000000 := by omega
  refine ⟨_, (pss_cons (ps_setLc (i := 1) rfl sc_law_read.nd rfl rfl (sw_true rfl rfl rfl (by decide +kernel)) (pi_list (pe_bm PySem.F.plainAttrs_str PySem.F.slot_str_split PySem.F.type_str_split mt_splitR (pv 0) (pa_cons pe_str pa_nil))) (blkOk_by (own := [("line", 2)]) (N := nm_law_read) (sc := defScope s_law_read) (by decide +kernel)) (fun _ _ _ _ _ => (pg_name (i := 2) sc_law_read.nd rfl (Or.inl rfl))) (fun _ _ _ _ _ => pts_nil) (fun _ _ _ _ _ => (pe_callTy (cl_tupOfK (K := K)) (by rfl) B_tuple (by decide +kernel) (pa_cons (pe_lc rfl sc_law_read.nd ((pi_listK (K := K)) ((pe_bmK (K := K)) PySem.F.plainAttrs_str PySem.F.slot_str_split PySem.F.type_str_split mt_splitR (pv 2) (pa_cons pe_str pa_nil))) (blkN (own := [("word", 3)]) (N := nm_law_read) (sc := defScope s_law_read) (by decide +kernel)) (fun _ _ _ _ _ => (pg_name (i := 3) sc_law_read.nd rfl (Or.inl rfl))) (fun _ _ _ _ _ => pts_nil) (fun _ _ _ _ _ => (pcall G__law_number (hr.mono (by decide)) (pa_cons (pv 3) pa_nil)))) pa_nil))))
      (pss_cons (ps_if (pt_cmpR (op_neD hr.units) (pe_lc rfl sc_law_read.nd (pi_list (pv 1)) (blkOk_by (own := [("row", 4)]) (N := nm_law_read) (sc := defScope s_law_read) (by decide +kernel)) (fun _ _ _ _ _ => (pg_name (i := 4) sc_law_read.nd rfl (Or.inl rfl))) (fun _ _ _ _ _ => pts_one (PW.pt (pw_or (pt_cmpR op_ne (pe_callB (cl_lenK (K := K)) (by rfl) B_len (by decide +kernel) (pa_cons (pv 4) pa_nil)) pe_int (nomark _)) (pw_or1 (pt_cmpR (op_in_seqK (K := K)) pe_non (pv 4) (by rfl)))))) (fun _ _ _ _ _ => (pv 4))) (pe_lst pa_nil) (nomark _)) (pss_one (ps_ret pe_non)) pss_nil)
      (pss_one (ps_ret (pv 1))))), ?_⟩
  rw [st_law_read]
  try dsimp only [Cx.nox, Cx.wish, Cx.blk, cx_K, cxH_K]
  walk_at "go"
  rename_i p1 H1 n1 e1 h1
  rw [spl_eq] at h1
  have h1 : H1 p1 = some (.lst (wstrs (cutAt 10 l))) := h1
  have cl := cutAt_len 10 l
  refine lc_lstO (rowsT l) (by rw [wstrs_len]; exact List.length_map _) (SqL.of h1) (by rw [wstrs_len]; omega) (fun _ => rfl) (fun j x r hx gr G eG QE kE => ?_) (fun p2 H2 us n2 e2 h2 ro => ?_)
  · obtain ⟨w, rfl, hw, gw⟩ : ∃ w, x = .str (SX.S w) ∧ w ∈ cutAt 10 l ∧ (cutAt 10 l)[j]? = some w := by
      unfold wstrs at hx
      rw [List.getElem?_map] at hx
      obtain ⟨w, hw, rfl⟩ := Option.map_eq_some_iff.mp hx
      exact ⟨w, rfl, List.mem_of_getElem? hw, hw⟩
    have er : rowT w = r := by
      unfold rowsT at gr
      rw [List.getElem?_map, gw] at gr
      exact Option.some.inj gr
    subst er
    have lw : w.length ≤ l.length := by
      have h1 := wgt_mem hw
      have h2 := cut_wgt 10 l
      omega
    have cw := cutAt_len 32 w
    have okw : okT w := ok.sub (cutAt_sub hw)
    clear hx gr gw
    walk_at "go"
    rename_i p4 H4 n4 e4 h4
    rw [spl_eq] at h4
    have h4 : H4 p4 = some (.lst (wstrs (cutAt 32 w))) := h4
    refine lc_lstP nV (SqL.of h4) (by rw [wstrs_len]; omega) (fun _ => rfl) (fun i y hy G eG QE kE => ?_) (fun p5 H5 n5 e5 h5 => ?_)
    · obtain ⟨u, rfl, hu, mu⟩ : ∃ u, y = .str (SX.S u) ∧ u.length ≤ 1000000 ∧ u ∈ cutAt 32 w := by
        unfold wstrs at hy
        rw [List.getElem?_map] at hy
        obtain ⟨u, hu, rfl⟩ := Option.map_eq_some_iff.mp hy
        have h1 := wgt_mem (List.mem_of_getElem? hu)
        have h2 := cut_wgt 32 w
        exact ⟨u, rfl, by omega, List.mem_of_getElem? hu⟩
      walk_at "go"
      refine use_law_number hu (okw.sub (cutAt_sub mu)) fun G2 g2 => ?_
      exact kE _ g2
    · have h5 : H5 p5 = some (.lst ((rowT w).map oI)) := by
        rw [h5]
        unfold rowT wstrs
        rw [List.map_map, List.map_map]
        rfl
      walk_at "go"
      refine r_tupL (SqL.of h5) fun t6 H6 n6 e6 h6 => ?_
      walk_at "go"
      exact kE _ _ ((e4.trans e5).trans e6) h6
  · walk_at "go"
    have lus := ro.1
    have lrs : (rowsT l).length = (cutAt 10 l).length := List.length_map _
    refine lc_lstF (cBad H2) (SqL.of h2) (by omega) (fun _ => rfl) (fun x hx G eG QE kE => ?_) (fun x hx G eG QE kE => ?_) (fun p3 H3 n3 e3 h3 => ?_)
    · obtain ⟨i, hi⟩ := List.getElem?_of_mem hx
      obtain ⟨p, r, rfl, gr, hp⟩ := ro.2 i x hi
      rw [cBad_is hp] at kE
      have hp := eG.at hp
      by_cases o1 : r.length = 5
      · have l6 : ((r.map oI).length : Int) = 5 := by rw [List.length_map]; omega
        walk_at "go"
        refine r_inT (SqT.of hp) rfl (by
          rw [List.all_map, List.all_eq_true]
          intro o _
          cases o <;> rfl) ?_
        rw [inV_nons]
        have e := kE _ Ex.refl
        unfold badR at e
        rw [decide_eq_true o1] at e
        walk_at "go"
        exact e
      · have l6 : ((r.map oI).length : Int) ≠ 5 := by rw [List.length_map]; omega
        have e := kE _ Ex.refl
        unfold badR at e
        rw [decide_eq_false o1] at e
        walk_at "go"
        exact e
    · walk_at "go"
      exact kE _ Ex.refl
    · walk_at "go"
      rename_i p4 H4 n4 e4 h4
      have rf := (ro.filter.ex e3).ex e4
      refine r_neD (.lst (SqL.of (e4.at h3)) rf.tg.dp) (.lst (SqL.of h4) .nil) (shp_rowsO _) (by rfl) ?_
      rw [eqv_nil, List.isEmpty_map, filter_bad]
      have x4 := (e1.trans e2).trans (e3.trans e4)
      cases hok : okRs (rowsT l) with
      | true =>
        walk_at "go"
        exact q1 hok _ _ _ x4 ((e3.trans e4).at h2) (ro.ex (e3.trans e4))
      | false =>
        walk_at "go"
        exact q2 hok _ x4

end
def sp_need_text (_ : PySem.W.Frag) : Sp := fun vs H Q _ => ∃ z : Str, vs = [.str z] ∧ Q .non H
theorem use_need_text {K : PySem.W.Frag} {H : Hp} {Q : VK} {E : XK} {z : Str} (q : Q .non H) : sp_need_text K [.str z] H Q E := ⟨z, rfl, q⟩
abbrev s_need_text : Stmt := topS 25
abbrev nm_need_text : List Str := ["thing"]
theorem sc_need_text : FnScope nm_need_text ["thing"] (defScope s_need_text) := ⟨rfl, rfl, rfl, by decide +kernel, rfl, by decide +kernel, by decide +kernel⟩
theorem st_need_text {v0 : V} : start nm_need_text [v0] = [some v0] := rfl
section
variable {P : Program} {w : World} {K : PySem.W.Frag} {mg : Str → Option Value} {base : Heap} {c : Cl}
theorem ok_need_text (D : DefAt K mg "need_text" s_need_text ["thing"]) (B_isinstance : mg "isinstance" = none) (B_str : mg "str" = none) : Has P w K mg base CX0 2 "need_text" ["thing"] (sp_need_text K) := by
  refine D.ok sc_need_text (by rintro _ _ _ _ ⟨_, rfl, _⟩; rfl) (fun f cdv A outer s H vs Q E hr h => ?_)
  obtain ⟨z, rfl, q⟩ := h
  refine ⟨_, (pss_one (ps_if (pt_not (pt_val (pe_callB call_isi (by rfl) B_isinstance (by decide +kernel) (pa_cons (pv 0) (pa_cons (pe_bltn (v := .ty "str") (by rfl) B_str (by decide +kernel) rfl) pa_nil))))) (pss_one ps_never) pss_nil)), ?_⟩
  rw [st_need_text]
  try dsimp only [Cx.nox, Cx.wish, Cx.blk, cx_K, cxH_K]
  walk_at "go"
  exact q

end
abbrev MOST_FIGURES_val : Int := 30
def sp_number_in (_ : PySem.W.Frag) : Sp := fun vs H Q _ => ∃ l : List Nat, vs = [.str (SX.S l)] ∧ l.length ≤ 1000000 ∧ ∀ H', Ex H H' → Q (oI (nT l)) H'
theorem use_number_in {K : PySem.W.Frag} {H : Hp} {Q : VK} {E : XK} {l : List Nat} (n : l.length ≤ 1000000) (q : ∀ H', Ex H H' → Q (oI (nT l)) H') : sp_number_in K [.str (SX.S l)] H Q E := ⟨l, rfl, n, q⟩
abbrev s_number_in : Stmt := topS 24
abbrev nm_number_in : List Str := ["word", "figures", "sign"]
theorem sc_number_in : FnScope nm_number_in ["word"] (defScope s_number_in) := ⟨rfl, rfl, rfl, by decide +kernel, rfl, by decide +kernel, by decide +kernel⟩
theorem st_number_in {v0 : V} : start nm_number_in [v0] = [some v0, none, none] := rfl
section
variable {P : Program} {w : World} {K : PySem.W.Frag} {mg : Str → Option Value} {base : Heap} {c : Cl}
theorem ok_number_in (D : DefAt K mg "number_in" s_number_in ["word"]) (B_len : mg "len" = none) (B_all : mg "all" = none) (B_int : mg "int" = none) (T_MOST_FIGURES : ∃ t, mg "MOST_FIGURES" = some (.int MOST_FIGURES_val t)) : Has P w K mg base CX0 2 "number_in" ["word"] (sp_number_in K) := by
  refine D.ok sc_number_in (by rintro _ _ _ _ ⟨_, rfl, _⟩; rfl) (fun f cdv A outer s H vs Q E hr h => ?_)
  obtain ⟨_, T_MOST_FIGURES⟩ := T_MOST_FIGURES
  obtain ⟨l, rfl, n, q⟩ := h
  refine ⟨_, (pss_cons (ps_set (i := 1) sc_number_in.nd rfl (Or.inl rfl) (pv 0))
      (pcut (ps_if (pt_cmpR op_eq (pe_slice sl_str (pv 0) po_none (po_some pe_int)) pe_str (nomark _)) (pss_one (ps_set (i := 1) sc_number_in.nd rfl (Or.inl rfl) (pe_slice sl_str (pv 0) (po_some pe_int) po_none))) pss_nil)
      (pss_cons (ps_if (PW.pt (pw_or (pt_cmpR op_lt (pe_callB cl_lenS (by rfl) B_len (by decide +kernel) (pa_cons (pv 1) pa_nil)) pe_int (nomark _)) (pw_or (pt_cmpR op_gt (pe_callB cl_lenS (by rfl) B_len (by decide +kernel) (pa_cons (pv 1) pa_nil)) (pe_glob (v := .int (30)) rfl T_MOST_FIGURES ⟨_, rfl⟩) (nomark _)) (pw_or1 (pt_cmpR op_eq (pv 0) pe_str (nomark _)))))) (pss_one (ps_ret pe_non)) pss_nil)
      (pss_cons (ps_if (PW.pt (pw_or (pt_not (pt_val (pe_callB (cr_all rfl) (by rfl) B_all (by decide +kernel) (pa_cons (pe_lc rfl sc_number_in.nd (pi_str (pv 1)) (blkOk_by (own := [("sign", 2)]) (N := nm_number_in) (sc := defScope s_number_in) (by decide +kernel)) (fun _ _ _ _ _ => (pg_name (i := 2) sc_number_in.nd rfl (Or.inl rfl))) (fun _ _ _ _ _ => pts_nil) (fun _ _ _ _ _ => (pe_cmpR op_inS (pv 2) pe_str (by rfl)))) pa_nil)))) (pw_or1 (PW.pt (pw_and (pt_cmpR op_eq (pe_ix ix_str (pv 1) pe_int (fun _ _ => rfl)) pe_str (nomark _)) (pw_and1 (pt_cmpR op_gt (pe_callB cl_lenS (by rfl) B_len (by decide +kernel) (pa_cons (pv 1) pa_nil)) pe_int (nomark _)))))))) (pss_one (ps_ret pe_non)) pss_nil)
      (pss_one (ps_ret (pe_callTy call_intS (by rfl) B_int (by decide +kernel) (pa_cons (pv 0) pa_nil)))))))), ?_⟩
  rw [st_number_in]
  try dsimp only [Cx.nox, Cx.wish, Cx.blk, cx_K, cxH_K]
  walk_at "go"
  refine r_cut (fun σ H' => H' = H ∧ ∃ o2 : Option V, σ = [some (.str (SX.S l)), some (.str (SX.S (figs l))), o2]) ?_ ?_
  · walk_at "go"
    refine if_2 (fun h0 => ?_) (fun h0 => ?_)
    · have h0 : l.take 1 = [45] := of_decide_eq_true h0
      walk_at "go"
      refine ⟨rfl, none, ?_⟩
      unfold figs
      rw [if_pos h0]
      rfl
    · have h0 : ¬ l.take 1 = [45] := of_decide_eq_false h0
      walk_at "go"
      refine ⟨rfl, none, ?_⟩
      unfold figs
      rw [if_neg h0]
  rintro σ H' ⟨rfl, o2, rfl⟩
  have nf : (figs l).length ≤ 1000000 := by
    unfold figs
    split
    · rw [List.length_drop]; omega
    · exact n
  walk_at "go"
  have none_ : (figs l).length < 1 ∨ 30 < (figs l).length ∨ l = [45, 48] → nT l = none := fun z => by unfold nT; rw [if_pos z]
  refine if_2 (fun h1 => ?_) (fun h1 => ?_)
  · have h1 := of_decide_eq_true h1
    walk_at "go"
    have e := q _ Ex.refl
    rw [none_ (.inl (by omega))] at e
    exact e
  have h1 := of_decide_eq_false h1
  walk_at "go"
  refine if_2 (fun h2 => ?_) (fun h2 => ?_)
  · have h2 := of_decide_eq_true h2
    walk_at "go"
    have e := q _ Ex.refl
    rw [none_ (.inr (.inl (by omega)))] at e
    exact e
  have h2 := of_decide_eq_false h2
  walk_at "go"
  refine if_2 (fun h3 => ?_) (fun h3 => ?_)
  · have h3 := of_decide_eq_true h3
    walk_at "go"
    have e := q _ Ex.refl
    rw [none_ (.inr (.inr h3))] at e
    exact e
  have h3 := of_decide_eq_false h3
  walk_at "go"
  have n1 : ¬ ((figs l).length < 1 ∨ 30 < (figs l).length ∨ l = [45, 48]) := by
    rintro (z | z | z)
    · omega
    · omega
    · exact h3 z
  refine lc_strF (fun _ => true) (fun c => .bl (decide (48 ≤ c) && decide (c ≤ 57))) nf (fun _ => rfl) (fun z hz H1 e1 QE kE => tYes_k (kE _ Ex.refl)) (fun z hz _ H1 e1 QE kE => ?_) (fun p H1 np e1 hp => ?_)
  · walk_at "go"
    have e := kE _ Ex.refl
    rw [dig_in]
    exact e
  · walk_at "go"
    rw [List.filter_eq_self.mpr (fun _ _ => rfl)] at hp
    have hp : H1 p = some (.lst (((figs l).map fun c => decide (48 ≤ c) && decide (c ≤ 57)).map V.bl)) := by
      rw [hp, List.map_map]
      rfl
    refine r_all (SqL.of hp) ?_
    rw [List.all_map]
    show ∃ b, V.bl (allD (figs l)) = .bl b ∧ _
    walk_at "go"
    have none2 : allD (figs l) = false ∨ ((figs l)[0]? = some 48 ∧ 1 < (figs l).length) → nT l = none := fun z => by unfold nT; rw [if_neg n1, if_pos z]
    cases hA : allD (figs l) with
    | false =>
      walk_at "go"
      have e := q _ e1
      rw [none2 (.inl hA)] at e
      exact e
    | true =>
      walk_at "go"
      obtain ⟨c, hc⟩ : ∃ c, (figs l)[0]? = some c := ⟨_, List.getElem?_eq_getElem (by omega)⟩
      refine r_ixS (c := c) rfl (by decide) hc nf ?_
      walk_at "go"
      have last : ¬ ((figs l)[0]? = some 48 ∧ 1 < (figs l).length) → Q (oI (nT l)) H1 ∧ ∃ n, nT l = some n := fun z => ⟨q _ e1, _, by
        unfold nT
        rw [if_neg n1, if_neg]
        rintro (z2 | z2)
        · rw [hA] at z2; cases z2
        · exact z z2⟩
      have fin : ¬ ((figs l)[0]? = some 48 ∧ 1 < (figs l).length) → rIntS [.str (SX.S l)] H1 Q := fun z => by
        obtain ⟨e, n, hn⟩ := last z
        rw [hn] at e
        exact r_intS rfl (nT_int hn) (by have := nT_len hn; omega) e
      refine if_2 (fun h4 => ?_) (fun h4 => ?_)
      · have h4 : [c] = [48] := of_decide_eq_true h4
        have h4 : c = 48 := by simpa using h4
        subst h4
        walk_at "go"
        refine if_2 (fun h5 => ?_) (fun h5 => ?_)
        · have h5 := of_decide_eq_true h5
          walk_at "go"
          have e := q _ e1
          rw [none2 (.inr ⟨hc, by omega⟩)] at e
          exact e
        · have h5 := of_decide_eq_false h5
          walk_at "go"
          exact fin fun z => h5 (by have := z.2; omega)
      · have h4 : ¬ [c] = [48] := of_decide_eq_false h4
        walk_at "go"
        refine fin fun z => h4 ?_
        rw [hc] at z
        rw [Option.some.inj z.1]

end
def sp_read_paper (_ : PySem.W.Frag) : Sp := fun vs H Q _ => ∃ l : List Nat, vs = [.str (SX.S l)] ∧ l.length ≤ 90000 ∧ okRs (rowsT l) = true ∧ ∀ p us H', H p = none → Ex H H' → H' p = some (.lst us) → RowsO H' us (rowsT l) → Q (.ref p) H'
theorem use_read_paper {K : PySem.W.Frag} {H : Hp} {Q : VK} {E : XK} {l : List Nat} (n : l.length ≤ 90000) (ok : okRs (rowsT l) = true) (q : ∀ p us H', H p = none → Ex H H' → H' p = some (.lst us) → RowsO H' us (rowsT l) → Q (.ref p) H') : sp_read_paper K [.str (SX.S l)] H Q E := ⟨l, rfl, n, ok, q⟩
abbrev s_read_paper : Stmt := topS 27
abbrev nm_read_paper : List Str := ["text", "rows", "line", "row", "word"]
theorem sc_read_paper : FnScope nm_read_paper ["text"] (defScope s_read_paper) := ⟨rfl, rfl, rfl, by decide +kernel, rfl, by decide +kernel, by decide +kernel⟩
theorem st_read_paper {v0 : V} : start nm_read_paper [v0] = [some v0, none, none, none, none] := rfl
section
variable {P : Program} {w : World} {K : PySem.W.Frag} {mg : Str → Option Value} {base : Heap} {c : Cl}
theorem ok_read_paper (D : DefAt K mg "read_paper" s_read_paper ["text"]) (B_tuple : mg "tuple" = none) (B_len : mg "len" = none) (G_need_text : Has P w K mg base CX0 2 "need_text" ["thing"] (sp_need_text K)) (G_number_in : Has P w K mg base CX0 2 "number_in" ["word"] (sp_number_in K)) : Has P w K mg base CX0 3 "read_paper" ["text"] (sp_read_paper K) := by
  refine D.ok sc_read_paper (by rintro _ _ _ _ ⟨_, rfl, _⟩; rfl) (fun f cdv A outer s H vs Q E hr h => ?_)
  obtain ⟨l, rfl, n, ok, q⟩ := h
  have hl : l.length ≤ 1000000 := by omega
  refine ⟨_, (pss_cons (ps_expr (pcall G_need_text (hr.mono (by decide)) (pa_cons (pv 0) pa_nil)))
      (pss_cons (ps_set (i := 1) sc_read_paper.nd rfl (Or.inl rfl) (pe_lst pa_nil))
      (pss_cons (ps_for PassesOwn.never rfl (pi_list (pe_bm PySem.F.plainAttrs_str PySem.F.slot_str_split PySem.F.type_str_split mt_splitR (pv 0) (pa_cons pe_str pa_nil))) (pg_name (i := 2) sc_read_paper.nd rfl (Or.inl rfl))
        (pss_cons (ps_set (i := 3) sc_read_paper.nd rfl (Or.inl rfl) (pe_callTy cl_tupOf (by rfl) B_tuple (by decide +kernel) (pa_cons (pe_lc rfl sc_read_paper.nd (pi_list (pe_bm PySem.F.plainAttrs_str PySem.F.slot_str_split PySem.F.type_str_split mt_splitR (pv 2) (pa_cons pe_str pa_nil))) (blkOk_by (own := [("word", 4)]) (N := nm_read_paper) (sc := defScope s_read_paper) (by decide +kernel)) (fun _ _ _ _ _ => (pg_name (i := 4) sc_read_paper.nd rfl (Or.inl rfl))) (fun _ _ _ _ _ => pts_nil) (fun _ _ _ _ _ => (pcall G_number_in (hr.mono (by decide)) (pa_cons (pv 4) pa_nil)))) pa_nil)))
        (pss_cons (ps_if (PW.pt (pw_or (pt_cmpR op_ne (pe_callB cl_len (by rfl) B_len (by decide +kernel) (pa_cons (pv 3) pa_nil)) pe_int (nomark _)) (pw_or1 (pt_cmpR op_in_seq pe_non (pv 3) (by rfl))))) (pss_one ps_never) pss_nil)
        (pss_one (ps_expr (pe_bm PySem.F.plainAttrs_list PySem.F.slot_list_append PySem.F.type_list_append mt_append (pv 1) (pa_cons (pv 3) pa_nil)))))))
      (pss_one (ps_ret (pv 1)))))), ?_⟩
  rw [st_read_paper]
  try dsimp only [Cx.nox, Cx.wish, Cx.blk, cx_K, cxH_K]
  walk_at "go"
  refine use_need_text ?_
  walk_at "go"
  rename_i p1 H1 n1 e1 h1 p2 H2 n2 e2 h2
  rw [spl_eq] at h2
  have h2 : H2 p2 = some (.lst (wstrs (cutAt 10 l))) := h2
  have np2 : p2 ≠ p1 := (ne_of_none h1 n2).symm
  have h1 := e2.at h1
  have x2 := e1.trans e2
  have cl := cutAt_len 10 l
  refine for_lst (xs := wstrs (cutAt 10 l)) (fun j σ H' => Ex H H' ∧ H' p2 = some (.lst (wstrs (cutAt 10 l))) ∧ ∃ us, H' p1 = some (.lst us) ∧ RowsO H' us ((rowsT l).take j) ∧ ∃ o2 o3 o4 : Option V, σ = [some (.str (SX.S l)), some (.ref p1), o2, o3, o4]) ⟨x2, h2, [], h1, by rw [List.take_zero]; exact RowsO.nil, _, _, _, rfl⟩ (fun j σ H' _ p => SqL.of p.2.1) ?_ ?_
  · rintro j x σ H3 hx ⟨x3, g2, us, g1, ro, o2, o3, o4, rfl⟩
    obtain ⟨w, rfl, hw, gw⟩ : ∃ w, x = .str (SX.S w) ∧ w ∈ cutAt 10 l ∧ (cutAt 10 l)[j]? = some w := by
      unfold wstrs at hx
      rw [List.getElem?_map] at hx
      obtain ⟨w, hw, rfl⟩ := Option.map_eq_some_iff.mp hx
      exact ⟨w, rfl, List.mem_of_getElem? hw, hw⟩
    have jl : j < (cutAt 10 l).length := (List.getElem?_eq_some_iff.mp gw).1
    have grow : (rowsT l)[j]? = some (rowT w) := by
      unfold rowsT
      rw [List.getElem?_map, gw]
      rfl
    have okr : badR (rowT w) = false := by
      have := List.all_eq_true.mp ok _ (List.mem_of_getElem? grow)
      simpa using this
    have lw : w.length ≤ l.length := by
      have h1 := wgt_mem hw
      have h2 := cut_wgt 10 l
      omega
    have cw := cutAt_len 32 w
    have okr' := okr
    unfold badR at okr'
    rw [Bool.or_eq_false_iff] at okr'
    obtain ⟨o1, o2⟩ := okr'
    have o1 : (rowT w).length = 5 := by
      cases z : decide ((rowT w).length = 5) with
      | true => exact of_decide_eq_true z
      | false => rw [z] at o1; cases o1
    clear hx
    walk_at "go"
    rename_i p4 H4 n4 e4 h4
    rw [spl_eq] at h4
    have h4 : H4 p4 = some (.lst (wstrs (cutAt 32 w))) := h4
    refine lc_lstP nV (SqL.of h4) (by rw [wstrs_len]; omega) (fun _ => rfl) (fun i y hy G eG QE kE => ?_) (fun p5 H5 n5 e5 h5 => ?_)
    · obtain ⟨u, rfl, hu⟩ : ∃ u, y = .str (SX.S u) ∧ u.length ≤ 1000000 := by
        unfold wstrs at hy
        rw [List.getElem?_map] at hy
        obtain ⟨u, hu, rfl⟩ := Option.map_eq_some_iff.mp hy
        have h1 := wgt_mem (List.mem_of_getElem? hu)
        have h2 := cut_wgt 32 w
        exact ⟨u, rfl, by omega⟩
      walk_at "go"
      refine use_number_in hu fun G2 g2 => ?_
      exact kE _ g2
    · have h5 : H5 p5 = some (.lst ((rowT w).map oI)) := by
        rw [h5]
        unfold rowT wstrs
        rw [List.map_map, List.map_map]
        rfl
      walk_at "go"
      refine r_tupL (SqL.of h5) fun t6 H6 n6 e6 h6 => ?_
      have l6 : (((rowT w).map oI).length : Int) = 5 := by rw [List.length_map]; omega
      walk_at "go"
      refine r_inT (SqT.of h6) rfl (by
        rw [List.all_map, List.all_eq_true]
        intro o _
        cases o <;> rfl) ?_
      rw [inV_nons, o2]
      have x6 := (e4.trans e5).trans e6
      have g16 := x6.at g1
      walk_at "go"
      have lus := ro.1
      rw [List.length_take] at lus
      refine r_app g16 (by omega) fun H7 k7 h7 => ?_
      walk_at "go"
      have np1 : H p1 = none := n1
      refine ⟨(x3.trans x6).kpd np1 k7, k7 _ _ np2 (x6.at g2), _, h7, ?_, _, _, _, rfl⟩
      rw [List.take_add_one, grow]
      exact ((ro.ex x6).app h6).kpL k7 g16
  · rintro σ H3 ⟨x3, g2, us, g1, ro, o2, o3, o4, rfl⟩
    walk_at "go"
    rw [wstrs_len, show (cutAt 10 l).length = (rowsT l).length from (List.length_map _).symm, List.take_length] at ro
    exact q _ _ _ n1 x3 g1 ro

end
def spR_need_text (_ : PySem.W.Frag) (c : Cl) : Sp := fun vs H _ E => ∃ v : V, vs = [v] ∧ NoTx H v ∧ E (.ref c.NoText) none H
theorem useR_need_text {K : PySem.W.Frag} {c : Cl} {H : Hp} {Q : VK} {E : XK} {v : V} (h : NoTx H v) (e : E (.ref c.NoText) none H) : spR_need_text K c [v] H Q E := ⟨v, rfl, h, e⟩
section
variable {P : Program} {w : World} {K : PySem.W.Frag} {mg : Str → Option Value} {base : Heap} {c : Cl}
theorem okR_need_text (D : DefAt K mg "need_text" s_need_text ["thing"]) (B_isinstance : mg "isinstance" = none) (B_str : mg "str" = none) (XT0 : XT K mg c) (Y_NoText : XD K c.NoText) : Has P w K mg base (L2N.CX P w) 2 "need_text" ["thing"] (spR_need_text K c) := by
  refine D.okR sc_need_text (by rintro _ _ _ _ ⟨_, rfl, _⟩; rfl) (fun f cdv A outer s H vs Q E hr h => ?_)
  obtain ⟨v, rfl, ⟨h, no⟩, e⟩ := h
  refine ⟨_, (pss_one (ps_if (pt_not (pt_val (pe_callB call_isi (by rfl) B_isinstance (by decide +kernel) (pa_cons (pv 0) (pa_cons (pe_bltn (v := .ty "str") (by rfl) B_str (by decide +kernel) rfl) pa_nil))))) (pss_one (ps_raiseX rfl (L2N.takes_of rfl rfl rfl rfl) (XT0.xr XT0.g_NoText XT0.t_NoText Y_NoText) (by rfl))) pss_nil)), ?_⟩
  rw [st_need_text]
  try dsimp only [Cx.nox, Cx.wish, Cx.blk, cx_K, cxH_K]
  rcases h with ⟨i, rfl⟩ | ⟨b, rfl⟩ | rfl | ⟨z, rfl⟩ | ⟨p, xs, rfl, hp⟩ | ⟨p, xs, rfl, hp⟩
  · walk_at "go"
    refine r_isi (.int i) (b := false) (kit_ty (by decide +kernel)) ?_
    walk_at "go"
    exact e
  · walk_at "go"
    refine r_isi (.bl b) (b := false) (kit_ty (by decide +kernel)) ?_
    walk_at "go"
    exact e
  · walk_at "go"
    refine r_isi .non (b := false) (kit_ty (by decide +kernel)) ?_
    walk_at "go"
    exact e
  · exact (no z rfl).elim
  · walk_at "go"
    refine r_isi (.lst hp) (b := false) (kit_ty (by decide +kernel)) ?_
    walk_at "go"
    exact e
  · walk_at "go"
    refine r_isi (.tup hp) (b := false) (kit_ty (by decide +kernel)) ?_
    walk_at "go"
    exact e

end
def spR_read_paper (_ : PySem.W.Frag) (c : Cl) : Sp := fun vs H _ E => ∃ v : V, vs = [v] ∧ (NoTx H v ∨ ∃ l : List Nat, v = .str (SX.S l) ∧ l.length ≤ 90000 ∧ okRs (rowsT l) = false) ∧ ∀ H', Ex H H' → E (.ref c.NoText) none H'
theorem useR_read_paper {K : PySem.W.Frag} {c : Cl} {H : Hp} {Q : VK} {E : XK} {v : V} (h : NoTx H v ∨ ∃ l : List Nat, v = .str (SX.S l) ∧ l.length ≤ 90000 ∧ okRs (rowsT l) = false) (e : ∀ H', Ex H H' → E (.ref c.NoText) none H') : spR_read_paper K c [v] H Q E := ⟨v, rfl, h, e⟩
section
variable {P : Program} {w : World} {K : PySem.W.Frag} {mg : Str → Option Value} {base : Heap} {c : Cl}
theorem okR_read_paper (D : DefAt K mg "read_paper" s_read_paper ["text"]) (B_tuple : mg "tuple" = none) (B_len : mg "len" = none) (XT0 : XT K mg c) (Y_NoText : XD K c.NoText) (G_need_text : Has P w K mg base CX0 2 "need_text" ["thing"] (sp_need_text K)) (R_need_text : Has P w K mg base (L2N.CX P w) 2 "need_text" ["thing"] (spR_need_text K c)) (G_number_in : Has P w K mg base CX0 2 "number_in" ["word"] (sp_number_in K)) : Has P w K mg base (L2N.CX P w) 3 "read_paper" ["text"] (spR_read_paper K c) := by
  refine D.okR sc_read_paper (by rintro _ _ _ _ ⟨_, rfl, _⟩; rfl) (fun f cdv A outer s H vs Q E hr h => ?_)
  obtain ⟨v, rfl, h, e⟩ := h
  refine ⟨_, (pss_cons (ps_expr (pe_ei (pcall G_need_text (hr.mono (by decide)) (pa_cons (pv 0) pa_nil)) (pcallR R_need_text (hr.mono (by decide)) (L2N.takes_of rfl rfl rfl rfl) (pa_cons (pv 0) pa_nil))))
      (pss_cons (ps_set (i := 1) sc_read_paper.nd rfl (Or.inl rfl) (pe_lst pa_nil))
      (pss_cons (ps_for (passes_of rfl) rfl (pi_list (pe_bm PySem.F.plainAttrs_str PySem.F.slot_str_split PySem.F.type_str_split mt_splitR (pv 0) (pa_cons pe_str pa_nil))) (pg_name (i := 2) sc_read_paper.nd rfl (Or.inl rfl))
        (pss_cons (ps_set (i := 3) sc_read_paper.nd rfl (Or.inl rfl) (pe_callTy cl_tupOf (by rfl) B_tuple (by decide +kernel) (pa_cons (pe_lc rfl sc_read_paper.nd (pi_list (pe_bm PySem.F.plainAttrs_str PySem.F.slot_str_split PySem.F.type_str_split mt_splitR (pv 2) (pa_cons pe_str pa_nil))) (blkOk_by (own := [("word", 4)]) (N := nm_read_paper) (sc := defScope s_read_paper) (by decide +kernel)) (fun _ _ _ _ _ => (pg_name (i := 4) sc_read_paper.nd rfl (Or.inl rfl))) (fun _ _ _ _ _ => pts_nil) (fun _ _ _ _ _ => (pcall G_number_in (hr.mono (by decide)) (pa_cons (pv 4) pa_nil)))) pa_nil)))
        (pss_cons (ps_if (PW.pt (pw_or (pt_cmpR op_ne (pe_callB cl_len (by rfl) B_len (by decide +kernel) (pa_cons (pv 3) pa_nil)) pe_int (nomark _)) (pw_or1 (pt_cmpR op_in_seq pe_non (pv 3) (by rfl))))) (pss_one (ps_raiseX rfl (L2N.takes_of rfl rfl rfl rfl) (XT0.xr XT0.g_NoText XT0.t_NoText Y_NoText) (by rfl))) pss_nil)
        (pss_one (ps_expr (pe_bm PySem.F.plainAttrs_list PySem.F.slot_list_append PySem.F.type_list_append mt_append (pv 1) (pa_cons (pv 3) pa_nil)))))))
      (pss_one (ps_ret (pv 1)))))), ?_⟩
  rw [st_read_paper]
  try dsimp only [Cx.nox, Cx.wish, Cx.blk, cx_K, cxH_K]
  walk_at "go"
  rcases h with h | ⟨l, rfl, n, ok⟩
  · refine r_eiR ?_
    walk_at "go"
    exact useR_need_text h (e _ Ex.refl)
  have hl : l.length ≤ 1000000 := by omega
  refine r_eiL ?_
  walk_at "go"
  refine use_need_text ?_
  walk_at "go"
  rename_i p1 H1 n1 e1 h1 p2 H2 n2 e2 h2
  rw [spl_eq] at h2
  have h2 : H2 p2 = some (.lst (wstrs (cutAt 10 l))) := h2
  have np2 : p2 ≠ p1 := (ne_of_none h1 n2).symm
  have h1 := e2.at h1
  have x2 := e1.trans e2
  have cl := cutAt_len 10 l
  refine for_lst (xs := wstrs (cutAt 10 l)) (fun j σ H' => Ex H H' ∧ H' p2 = some (.lst (wstrs (cutAt 10 l))) ∧ ∃ us, H' p1 = some (.lst us) ∧ RowsO H' us ((rowsT l).take j) ∧ okRs ((rowsT l).take j) = true ∧ ∃ o2 o3 o4 : Option V, σ = [some (.str (SX.S l)), some (.ref p1), o2, o3, o4]) ⟨x2, h2, [], h1, by rw [List.take_zero]; exact RowsO.nil, by rw [List.take_zero]; rfl, _, _, _, rfl⟩ (fun j σ H' _ p => SqL.of p.2.1) ?_ ?_
  · rintro j x σ H3 hx ⟨x3, g2, us, g1, ro, okj, o2, o3, o4, rfl⟩
    obtain ⟨w, rfl, hw, gw⟩ : ∃ w, x = .str (SX.S w) ∧ w ∈ cutAt 10 l ∧ (cutAt 10 l)[j]? = some w := by
      unfold wstrs at hx
      rw [List.getElem?_map] at hx
      obtain ⟨w, hw, rfl⟩ := Option.map_eq_some_iff.mp hx
      exact ⟨w, rfl, List.mem_of_getElem? hw, hw⟩
    have jl : j < (cutAt 10 l).length := (List.getElem?_eq_some_iff.mp gw).1
    have grow : (rowsT l)[j]? = some (rowT w) := by
      unfold rowsT
      rw [List.getElem?_map, gw]
      rfl
    have lw : w.length ≤ l.length := by
      have h1 := wgt_mem hw
      have h2 := cut_wgt 10 l
      omega
    have cw := cutAt_len 32 w
    clear hx
    walk_at "go"
    rename_i p4 H4 n4 e4 h4
    rw [spl_eq] at h4
    have h4 : H4 p4 = some (.lst (wstrs (cutAt 32 w))) := h4
    refine lc_lstP nV (SqL.of h4) (by rw [wstrs_len]; omega) (fun _ => rfl) (fun i y hy G eG QE kE => ?_) (fun p5 H5 n5 e5 h5 => ?_)
    · obtain ⟨u, rfl, hu⟩ : ∃ u, y = .str (SX.S u) ∧ u.length ≤ 1000000 := by
        unfold wstrs at hy
        rw [List.getElem?_map] at hy
        obtain ⟨u, hu, rfl⟩ := Option.map_eq_some_iff.mp hy
        have h1 := wgt_mem (List.mem_of_getElem? hu)
        have h2 := cut_wgt 32 w
        exact ⟨u, rfl, by omega⟩
      walk_at "go"
      refine use_number_in hu fun G2 g2 => ?_
      exact kE _ g2
    · have h5 : H5 p5 = some (.lst ((rowT w).map oI)) := by
        rw [h5]
        unfold rowT wstrs
        rw [List.map_map, List.map_map]
        rfl
      walk_at "go"
      refine r_tupL (SqL.of h5) fun t6 H6 n6 e6 h6 => ?_
      have x6 := (e4.trans e5).trans e6
      by_cases o1 : (rowT w).length = 5
      case neg =>
        have l6 : (((rowT w).map oI).length : Int) ≠ 5 := by rw [List.length_map]; omega
        walk_at "go"
        exact e _ (x3.trans x6)
      have l6 : (((rowT w).map oI).length : Int) = 5 := by rw [List.length_map]; omega
      walk_at "go"
      refine r_inT (SqT.of h6) rfl (by
        rw [List.all_map, List.all_eq_true]
        intro o _
        cases o <;> rfl) ?_
      rw [inV_nons]
      have g16 := x6.at g1
      cases o2 : (rowT w).any Option.isNone with
      | true =>
        walk_at "go"
        exact e _ (x3.trans x6)
      | false =>
      have okr : badR (rowT w) = false := by
        unfold badR
        rw [o2, decide_eq_true o1]
        rfl
      walk_at "go"
      have lus := ro.1
      rw [List.length_take] at lus
      refine r_app g16 (by omega) fun H7 k7 h7 => ?_
      walk_at "go"
      have np1 : H p1 = none := n1
      refine ⟨(x3.trans x6).kpd np1 k7, k7 _ _ np2 (x6.at g2), _, h7, ?_, ?_, _, _, _, rfl⟩
      · rw [List.take_add_one, grow]
        exact ((ro.ex x6).app h6).kpL k7 g16
      · rw [List.take_add_one, grow]
        exact okRs_snoc okj okr
  · rintro σ H3 ⟨x3, g2, us, g1, ro, okj, o2, o3, o4, rfl⟩
    rw [wstrs_len, show (cutAt 10 l).length = (rowsT l).length from (List.length_map _).symm, List.take_length] at okj
    rw [ok] at okj
    cases okj

end

abbrev s_law_kind_of : Stmt := topS 35
abbrev nm_law_kind_of : List Str := ["e", "some", "words", "one", "word"]
theorem sc_law_kind_of : FnScope nm_law_kind_of ["e"] (defScope s_law_kind_of) := ⟨rfl, rfl, rfl, by decide +kernel, rfl, by decide +kernel, by decide +kernel⟩
theorem st_law_kind_of {v0 : V} : start nm_law_kind_of [v0] = [some v0, none, none, none, none] := rfl
section
variable {P : Program} {w : World} {K : PySem.W.Frag} {mg : Str → Option Value} {base : Heap} {c : Cl}
theorem ok_law_kind_of (D : DefAt K mg "_law_kind_of" s_law_kind_of ["e"]) (B_isinstance : mg "isinstance" = none) (B_ValueError : mg "ValueError" = none) (B_zip : mg "zip" = none) (XT0 : XT K mg c) : HasE P w K mg base 2 "_law_kind_of" ["e"] (KdK K c) := by
  refine D.okE sc_law_kind_of rfl (fun cls z kd f cdv A outer s H Q E p hot zc hr q => ?_)
  obtain ⟨i, D0, nth, rfl, rfl, xd⟩ := kd
  obtain ⟨hi, cT, k0, k1, k2, k3, k4, k5, k6, k7, k8, k9, k10, k11, k12, k13, k14, k15⟩ := XT0.kit nth
  have eC := XT0.exc cT xd
  have ef : ∃ vs, p.2.data = .fields vs := hot.2.imp fun _ h => h.1
  refine ⟨_, (pss_cons (ps_set (i := 1) sc_law_kind_of.nd rfl (Or.inl rfl) (pe_lst (pa_cons (pe_callB (call_isH (p := p) List.mem_cons_self eC zc ef) (by rfl) B_isinstance (by decide +kernel) (pa_cons (pv 0) (pa_cons (pe_glob (v := .ref c.NoBounds) rfl XT0.g_NoBounds rfl) pa_nil))) (pa_cons (pe_callB (call_isH (p := p) List.mem_cons_self eC zc ef) (by rfl) B_isinstance (by decide +kernel) (pa_cons (pv 0) (pa_cons (pe_glob (v := .ref c.NoCoins) rfl XT0.g_NoCoins rfl) pa_nil))) (pa_cons (pe_callB (call_isH (p := p) List.mem_cons_self eC zc ef) (by rfl) B_isinstance (by decide +kernel) (pa_cons (pv 0) (pa_cons (pe_glob (v := .ref c.NoCount) rfl XT0.g_NoCount rfl) pa_nil))) (pa_cons (pe_callB (call_isH (p := p) List.mem_cons_self eC zc ef) (by rfl) B_isinstance (by decide +kernel) (pa_cons (pv 0) (pa_cons (pe_glob (v := .ref c.NoEntry) rfl XT0.g_NoEntry rfl) pa_nil))) pa_nil))))))
      (pss_cons (ps_set (i := 1) sc_law_kind_of.nd rfl (Or.inl rfl) (pe_op op_cat (pv 1) (pe_lst (pa_cons (pe_callB (call_isH (p := p) List.mem_cons_self eC zc ef) (by rfl) B_isinstance (by decide +kernel) (pa_cons (pv 0) (pa_cons (pe_glob (v := .ref c.NoName) rfl XT0.g_NoName rfl) pa_nil))) (pa_cons (pe_callB (call_isH (p := p) List.mem_cons_self eC zc ef) (by rfl) B_isinstance (by decide +kernel) (pa_cons (pv 0) (pa_cons (pe_glob (v := .ref c.NoPartner) rfl XT0.g_NoPartner rfl) pa_nil))) (pa_cons (pe_callB (call_isH (p := p) List.mem_cons_self eC zc ef) (by rfl) B_isinstance (by decide +kernel) (pa_cons (pv 0) (pa_cons (pe_glob (v := .ref c.NoPower) rfl XT0.g_NoPower rfl) pa_nil))) (pa_cons (pe_callB (call_isH (p := p) List.mem_cons_self eC zc ef) (by rfl) B_isinstance (by decide +kernel) (pa_cons (pv 0) (pa_cons (pe_glob (v := .ref c.NoRing) rfl XT0.g_NoRing rfl) pa_nil))) pa_nil)))))))
      (pss_cons (ps_set (i := 1) sc_law_kind_of.nd rfl (Or.inl rfl) (pe_op op_cat (pv 1) (pe_lst (pa_cons (pe_callB (call_isH (p := p) List.mem_cons_self eC zc ef) (by rfl) B_isinstance (by decide +kernel) (pa_cons (pv 0) (pa_cons (pe_glob (v := .ref c.NoRise) rfl XT0.g_NoRise rfl) pa_nil))) (pa_cons (pe_callB (call_isH (p := p) List.mem_cons_self eC zc ef) (by rfl) B_isinstance (by decide +kernel) (pa_cons (pv 0) (pa_cons (pe_glob (v := .ref c.NoRow) rfl XT0.g_NoRow rfl) pa_nil))) (pa_cons (pe_callB (call_isH (p := p) List.mem_cons_self eC zc ef) (by rfl) B_isinstance (by decide +kernel) (pa_cons (pv 0) (pa_cons (pe_glob (v := .ref c.NoStair) rfl XT0.g_NoStair rfl) pa_nil))) (pa_cons (pe_callB (call_isH (p := p) List.mem_cons_self eC zc ef) (by rfl) B_isinstance (by decide +kernel) (pa_cons (pv 0) (pa_cons (pe_glob (v := .ref c.NoSteps) rfl XT0.g_NoSteps rfl) pa_nil))) pa_nil)))))))
      (pss_cons (ps_set (i := 1) sc_law_kind_of.nd rfl (Or.inl rfl) (pe_op op_cat (pv 1) (pe_lst (pa_cons (pe_callB (call_isH (p := p) List.mem_cons_self eC zc ef) (by rfl) B_isinstance (by decide +kernel) (pa_cons (pv 0) (pa_cons (pe_glob (v := .ref c.NoText) rfl XT0.g_NoText rfl) pa_nil))) (pa_cons (pe_callB (call_isH (p := p) List.mem_cons_self eC zc ef) (by rfl) B_isinstance (by decide +kernel) (pa_cons (pv 0) (pa_cons (pe_glob (v := .ref c.NoWalker) rfl XT0.g_NoWalker rfl) pa_nil))) (pa_cons (pe_callB (call_isH (p := p) List.mem_cons_self eC zc ef) (by rfl) B_isinstance (by decide +kernel) (pa_cons (pv 0) (pa_cons (pe_glob (v := .ref c.NothingLeft) rfl XT0.g_NothingLeft rfl) pa_nil))) (pa_cons (pe_callB (call_isH (p := p) List.mem_cons_self eC zc ef) (by rfl) B_isinstance (by decide +kernel) (pa_cons (pv 0) (pa_cons (pe_glob (v := .ref c.TooMany) rfl XT0.g_TooMany rfl) pa_nil))) pa_nil)))))))
      (pss_cons (ps_expr (pe_bm PySem.F.plainAttrs_list PySem.F.slot_list_append PySem.F.type_list_append mt_append (pv 1) (pa_cons (pe_callB (call_isH (p := p) List.mem_cons_self eC zc ef) (by rfl) B_isinstance (by decide +kernel) (pa_cons (pv 0) (pa_cons (pe_bltn (v := .ty "ValueError") (by rfl) B_ValueError (by decide +kernel) rfl) pa_nil))) pa_nil)))
      (pss_cons (ps_set (i := 2) sc_law_kind_of.nd rfl (Or.inl rfl) (pe_lst (pa_cons pe_str (pa_cons pe_str (pa_cons pe_str (pa_cons pe_str (pa_cons pe_str (pa_cons pe_str (pa_cons pe_str (pa_cons pe_str (pa_cons pe_str pa_nil)))))))))))
      (pss_cons (ps_set (i := 2) sc_law_kind_of.nd rfl (Or.inl rfl) (pe_op op_cat (pv 2) (pe_lst (pa_cons pe_str (pa_cons pe_str (pa_cons pe_str (pa_cons pe_str (pa_cons pe_str (pa_cons pe_str (pa_cons pe_str (pa_cons pe_str pa_nil)))))))))))
      (pss_one (ps_ret (pe_bm PySem.F.plainAttrs_str PySem.F.slot_str_join PySem.F.type_str_join mt_joinR pe_str (pa_cons (pe_lcH (hotc_of hot (by rfl) (by exact List.mem_cons_self)) sc_law_kind_of.nd (pi_zipH (by rfl) B_zip (pa_cons (pv 2) (pa_cons (pv 1) pa_nil))) (blkOk_by (own := [("word", 4), ("one", 3)]) (N := nm_law_kind_of) (sc := defScope s_law_kind_of) (by decide +kernel)) (fun _ _ _ _ _ => (pg_tupHK (K := K) (n := 2) (hotc_of hot (by rfl) (by exact List.mem_cons_self)) (pgs_cons (pg_name (i := 4) sc_law_kind_of.nd rfl (Or.inl rfl)) (pgs_cons (pg_name (i := 3) sc_law_kind_of.nd rfl (Or.inl rfl)) pgs_nil)))) (fun _ _ _ _ _ => pts_one (pt_val (pv 3))) (fun _ _ _ _ _ => (pv 4))) pa_nil))))))))))), ?_⟩
  rw [st_law_kind_of]
  try dsimp only [Cx.nox, Cx.wish, Cx.blk, cx_K, cxH_K]
  walk_at "go"
  rename_i l1 H1 f1 e1 a1 l2 H2 f2 e2 a2 l3 H3 f3 e3 a3 l4 H4 f4 e4 a4 l5 H5 f5 e5 a5 l6 H6 f6 e6 a6 l7 H7 f7 e7 a7
  refine r_app a7 (Nat.le_of_ble_eq_true rfl) fun H8 k8' a8 => ?_
  have e8 : Ex H H8 := ((((((e1.trans e2).trans e3).trans e4).trans e5).trans e6)).kpd (free_back ((((((e1.trans e2).trans e3).trans e4).trans e5).trans e6)) f7) (e7.kp.trans k8')
  walk_at "go"
  rename_i m1 H9 g1 o1 b1 m2 H10 g2 o2 b2 m3 H11 g3 o3 b3
  have z8 := ((o1.trans o2).trans o3).at a8
  refine ⟨m3, l7, _, _, rfl, SqL.of b3, SqL.of z8, ?_⟩
  refine lc_zipF (ws := kindW) (bs := kindB i) (SqL.of b3) (SqL.of z8) rfl (by decide) (by intros; rfl) ?_ ?_ ?_
  · intro w f H' e' Q' q'
    walk_at "go"
    exact q' _ Ex.refl
  · intro w f H' e' Q' q'
    walk_at "go"
    exact q' _ Ex.refl
  · intro r H12 f12 e12 h12
    walk_at "go"
    refine r_join (SqL.of h12) (kind_len i hi) ?_
    rw [kind_txt i hi]
    walk_at "go"
    exact q _ (e8.trans (((o1.trans o2).trans o3).trans e12))

end
def sp_law_told (_ : PySem.W.Frag) : Sp := fun vs H Q _ => ∃ v : V, vs = [v] ∧ ((∃ l : List Nat, v = .str (SX.S l) ∧ l.length ≤ 90000 ∧ okRs (rowsT l) = true ∧ ∀ t p us H', H p = none → Ex H H' → H' p = some (.lst us) → RowsO H' us (rowsT l) → H' t = some (.tup [.ref p, .str ""]) → Q (.ref t) H') ∨
  ((NoTx H v ∨ ∃ l : List Nat, v = .str (SX.S l) ∧ l.length ≤ 90000 ∧ okRs (rowsT l) = false) ∧ ∀ t H', Ex H H' → H' t = some (.tup [.non, .str "NoText+"]) → Q (.ref t) H'))
theorem use_law_told1 {K : PySem.W.Frag} {H : Hp} {Q : VK} {E : XK} {l : List Nat} (n : l.length ≤ 90000) (ok : okRs (rowsT l) = true) (q : ∀ t p us H', H p = none → Ex H H' → H' p = some (.lst us) → RowsO H' us (rowsT l) → H' t = some (.tup [.ref p, .str ""]) → Q (.ref t) H') : sp_law_told K [.str (SX.S l)] H Q E := ⟨_, rfl, .inl ⟨l, rfl, n, ok, q⟩⟩
theorem use_law_told2 {K : PySem.W.Frag} {H : Hp} {Q : VK} {E : XK} {v : V} (h : NoTx H v ∨ ∃ l : List Nat, v = .str (SX.S l) ∧ l.length ≤ 90000 ∧ okRs (rowsT l) = false) (q : ∀ t H', Ex H H' → H' t = some (.tup [.non, .str "NoText+"]) → Q (.ref t) H') : sp_law_told K [v] H Q E := ⟨_, rfl, .inr ⟨h, q⟩⟩
abbrev s_law_told : Stmt := topS 46
abbrev nm_law_told : List Str := ["text", "found", "kind", "e"]
theorem sc_law_told : FnScope nm_law_told ["text"] (defScope s_law_told) := ⟨rfl, rfl, rfl, by decide +kernel, rfl, by decide +kernel, by decide +kernel⟩
theorem st_law_told {v0 : V} : start nm_law_told [v0] = [some v0, none, none, none] := rfl
section
variable {P : Program} {w : World} {K : PySem.W.Frag} {mg : Str → Option Value} {base : Heap} {c : Cl}
theorem ok_law_told (D : DefAt K mg "_law_told" s_law_told ["text"]) (XT0 : XT K mg c) (Y_NoText : XD K c.NoText) (G_read_paper : Has P w K mg base CX0 3 "read_paper" ["text"] (sp_read_paper K)) (R_read_paper : Has P w K mg base (L2N.CX P w) 3 "read_paper" ["text"] (spR_read_paper K c)) (E__law_kind_of : HasE P w K mg base 2 "_law_kind_of" ["e"] (KdK K c)) : Has P w K mg base CX0 4 "_law_told" ["text"] (sp_law_told K) := by
  refine D.ok sc_law_told (by rintro _ _ _ _ ⟨_, rfl, _⟩; rfl) (fun f cdv A outer s H vs Q E hr h => ?_)
  obtain ⟨v, rfl, h⟩ := h
  refine ⟨_, (pss_cons (ps_set (i := 1) sc_law_told.nd rfl (Or.inl rfl) pe_non)
      (pss_cons (ps_set (i := 2) sc_law_told.nd rfl (Or.inl rfl) pe_str)
      (pss_cons (ps_tryX (i := 3) rfl rfl sc_law_told.nd rfl rfl (by rfl) (by decide) XT0.gS (fun W pn xe tk => (pss_one (ps_set (i := 1) sc_law_told.nd rfl (Or.inl rfl) (pe_ei (pcall G_read_paper (hr.mono (by decide)) (pa_cons (pv 0) pa_nil)) (pcallR R_read_paper (hr.mono (by decide)) tk (pa_cons (pv 0) pa_nil)))))) (fun a oe cls d pn hz hf => (pss_one (ps_set (i := 2) sc_law_told.nd rfl (Or.inl rfl) (pcallE E__law_kind_of (hr.mono (by decide)) hz hf (pa_cons (pv 3) pa_nil))))))
      (pss_one (ps_ret (pe_tup (pa_cons (pv 1) (pa_cons (pv 2) pa_nil)))))))), ?_⟩
  rw [st_law_told]
  try dsimp only [Cx.nox, Cx.wish, Cx.blk, cx_K, cxH_K]
  walk_at "go"
  rcases h with ⟨l, rfl, n, ok, q⟩ | ⟨h, q⟩
  · refine r_eiL ?_
    walk_at "go"
    refine use_read_paper n ok fun p us H1 nf e1 hf ro => ?_
    walk_at "go"
    rename_i t H2 n2 e2 h2
    exact q _ _ _ _ nf (e1.trans e2) (e2.at hf) (ro.ex e2) h2
  · refine r_eiR ?_
    walk_at "go"
    refine useR_read_paper h fun H1 e1 => w_as (XT0.xr XT0.g_NoText XT0.t_NoText Y_NoText).em fun x hx => ?_
    walk_at "go"
    refine ⟨rfl, rfl, _, kd_mk 12 Y_NoText rfl, fun H2 e2 => ?_⟩
    walk_at "go"
    rename_i t H3 n3 e3 h3
    exact q _ _ ((e1.trans e2).trans e3) h3

end
def sp_law_signs (_ : PySem.W.Frag) : Sp := fun vs H Q _ => vs = [] ∧ ∀ l : List Nat, l.length = 95 → okT l → Q (.str (SX.S l)) H
theorem use_law_signs {K : PySem.W.Frag} {H : Hp} {Q : VK} {E : XK} (q : ∀ l : List Nat, l.length = 95 → okT l → Q (.str (SX.S l)) H) : sp_law_signs K [] H Q E := ⟨rfl, q⟩
abbrev s_law_signs : Stmt := topS 38
abbrev nm_law_signs : List Str := []
theorem sc_law_signs : FnScope nm_law_signs [] (defScope s_law_signs) := ⟨rfl, rfl, rfl, by decide +kernel, rfl, by decide +kernel, by decide +kernel⟩
theorem st_law_signs  : start nm_law_signs [] = [] := rfl
section
variable {P : Program} {w : World} {K : PySem.W.Frag} {mg : Str → Option Value} {base : Heap} {c : Cl}
theorem ok_law_signs (D : DefAt K mg "_law_signs" s_law_signs []) : Has P w K mg base CX0 2 "_law_signs" [] (sp_law_signs K) := by
  refine D.ok sc_law_signs (by rintro _ _ _ _ ⟨rfl, _⟩; rfl) (fun f cdv A outer s H vs Q E hr h => ?_)
  obtain ⟨rfl, q⟩ := h
  refine ⟨_, (pss_one (ps_ret pe_str)), ?_⟩
  rw [st_law_signs]
  try dsimp only [Cx.nox, Cx.wish, Cx.blk, cx_K, cxH_K]
  walk_at "go"
  rw [lit_S]
  exact q _ (by decide +kernel) (by unfold okT; decide +kernel)

end
def sp_law_spoilt (_ : PySem.W.Frag) : Sp := fun vs H Q _ => ∃ (l : List Nat) (d : Addr), vs = [.str (SX.S l), .ref d] ∧ l.length ≤ 90000 ∧ okT l ∧ Dr H d ∧ ∀ l' H', l'.length ≤ 2 * l.length + 2 → okT l' → Kp d H H' → Dr H' d → Q (.str (SX.S l')) H'
theorem use_law_spoilt {K : PySem.W.Frag} {H : Hp} {Q : VK} {E : XK} {l : List Nat} {d : Addr} (n : l.length ≤ 90000) (ok : okT l) (D : Dr H d) (q : ∀ l' H', l'.length ≤ 2 * l.length + 2 → okT l' → Kp d H H' → Dr H' d → Q (.str (SX.S l')) H') : sp_law_spoilt K [.str (SX.S l), .ref d] H Q E := ⟨l, d, rfl, n, ok, D, q⟩
abbrev s_law_spoilt : Stmt := topS 39
abbrev nm_law_spoilt : List Str := ["text", "draws", "signs", "sign", "at", "way", "words", "other", "some"]
theorem sc_law_spoilt : FnScope nm_law_spoilt ["text", "draws"] (defScope s_law_spoilt) := ⟨rfl, rfl, rfl, by decide +kernel, rfl, by decide +kernel, by decide +kernel⟩
theorem st_law_spoilt {v0 v1 : V} : start nm_law_spoilt [v0, v1] = [some v0, some v1, none, none, none, none, none, none, none] := rfl
section
variable {P : Program} {w : World} {K : PySem.W.Frag} {mg : Str → Option Value} {base : Heap} {c : Cl}
theorem ok_law_spoilt (D : DefAt K mg "_law_spoilt" s_law_spoilt ["text", "draws"]) (B_len : mg "len" = none) (B_int : mg "int" = none) (G__law_signs : Has P w K mg base CX0 2 "_law_signs" [] (sp_law_signs K)) (G__law_draw : Has P w K mg base CX0 2 "_law_draw" ["draws", "many"] (sp_law_draw K)) : Has P w K mg base CX0 3 "_law_spoilt" ["text", "draws"] (sp_law_spoilt K) := by
  refine D.ok sc_law_spoilt (by rintro _ _ _ _ ⟨_, _, rfl, _⟩; rfl) (fun f cdv A outer s H vs Q E hr h => ?_)
  obtain ⟨l, d, rfl, n, ok, D, q⟩ := h
  have hl : l.length ≤ 1000000 := by omega
  have z1 : ((l.length : Nat) : Int) + 1 ≤ 1000000 := by omega
  refine ⟨_, (pss_cons (ps_set (i := 2) sc_law_spoilt.nd rfl (Or.inl rfl) (pcall0 G__law_signs (hr.mono (by decide))))
      (pss_cons (ps_set (i := 3) sc_law_spoilt.nd rfl (Or.inl rfl) (pe_ix ix_list (pe_lst (pa_cons (pe_ix ix_str (pv 2) (pcall G__law_draw (hr.mono (by decide)) (pa_cons (pv 1) (pa_cons (pe_callB cl_lenS (by rfl) B_len (by decide +kernel) (pa_cons (pv 2) pa_nil)) pa_nil))) (fun _ _ => rfl)) (pa_cons (pe_ix ix_str pe_str (pcall G__law_draw (hr.mono (by decide)) (pa_cons (pv 1) (pa_cons pe_int pa_nil))) (fun _ _ => rfl)) pa_nil))) (pcall G__law_draw (hr.mono (by decide)) (pa_cons (pv 1) (pa_cons pe_int pa_nil))) (fun _ _ => rfl)))
      (pss_cons (ps_set (i := 4) sc_law_spoilt.nd rfl (Or.inl rfl) (pcall G__law_draw (hr.mono (by decide)) (pa_cons (pv 1) (pa_cons (pe_op op_add (pe_callB cl_lenS (by rfl) B_len (by decide +kernel) (pa_cons (pv 0) pa_nil)) pe_int) pa_nil))))
      (pss_cons (ps_set (i := 5) sc_law_spoilt.nd rfl (Or.inl rfl) (pcall G__law_draw (hr.mono (by decide)) (pa_cons (pv 1) (pa_cons pe_int pa_nil))))
      (pss_cons (ps_if (pt_cmpR op_lt (pv 5) pe_int (nomark _)) (pss_one (ps_ret (pe_op op_addS (pe_op op_addS (pe_slice sl_str (pv 0) po_none (po_some (pv 4))) (pe_ix ix_list (pe_lst (pa_cons (pv 3) (pa_cons (pv 3) (pa_cons pe_str (pa_cons (pe_op op_repS (pe_slice sl_str (pv 0) (po_some (pv 4)) (po_some (pe_op op_add (pv 4) pe_int))) pe_int) pa_nil))))) (pv 5) (fun _ _ => rfl))) (pe_slice sl_str (pv 0) (po_some (pe_op op_add (pv 4) (pe_callTy cl_int1 (by rfl) B_int (by decide +kernel) (pa_cons (pe_cmpR op_gt (pv 5) pe_int (nomark _)) pa_nil)))) po_none)))) pss_nil)
      (pss_cons (ps_set (i := 6) sc_law_spoilt.nd rfl (Or.inl rfl) (pe_bm PySem.F.plainAttrs_str PySem.F.slot_str_split PySem.F.type_str_split mt_splitR (pv 0) (pa_cons pe_str pa_nil)))
      (pss_cons (ps_set (i := 4) sc_law_spoilt.nd rfl (Or.inl rfl) (pcall G__law_draw (hr.mono (by decide)) (pa_cons (pv 1) (pa_cons (pe_callB cl_len (by rfl) B_len (by decide +kernel) (pa_cons (pv 6) pa_nil)) pa_nil))))
      (pss_cons (ps_set (i := 7) sc_law_spoilt.nd rfl (Or.inl rfl) (pe_ix ix_list (pv 6) (pcall G__law_draw (hr.mono (by decide)) (pa_cons (pv 1) (pa_cons (pe_callB cl_len (by rfl) B_len (by decide +kernel) (pa_cons (pv 6) pa_nil)) pa_nil))) (fun _ _ => rfl)))
      (pss_cons (ps_set (i := 8) sc_law_spoilt.nd rfl (Or.inl rfl) (pe_ix ix_list (pe_lst (pa_cons (pe_lst pa_nil) (pa_cons (pe_op op_rep (pe_lst (pa_cons (pe_ix ix_list (pv 6) (pv 4) (fun _ _ => rfl)) pa_nil)) pe_int) (pa_cons (pe_lst (pa_cons (pv 7) pa_nil)) pa_nil)))) (pe_op op_sub (pv 5) pe_int) (fun _ _ => rfl)))
      (pss_one (ps_ret (pe_bm PySem.F.plainAttrs_str PySem.F.slot_str_join PySem.F.type_str_join mt_joinR pe_str (pa_cons (pe_op op_cat (pe_op op_cat (pe_slice sl_list (pv 6) po_none (po_some (pv 4))) (pv 8)) (pe_slice sl_list (pv 6) (po_some (pe_op op_add (pv 4) pe_int)) po_none)) pa_nil))))))))))))), ?_⟩
  rw [st_law_spoilt]
  try dsimp only [Cx.nox, Cx.wish, Cx.blk, cx_K, cxH_K]
  walk_at "go"
  refine use_law_signs fun sgs nsg oksg => ?_
  have nsg' : sgs.length ≤ 1000000 := by omega
  walk_at "go"
  refine use_law_draw D (by omega) (Sz.mono (n := 200) (Sz.small (by omega)) (by decide)) fun v1 H1 a1 b1 k1 D1 => ?_
  obtain ⟨c1, g1, m1⟩ := sg_at a1 b1
  walk_at "go"
  refine r_ixS rfl a1 g1 (by omega) ?_
  walk_at "go"
  refine use_law_draw D1 (by decide) (Sz.mono (n := 200) Sz.lit (by decide)) fun v2 H2 a2 b2 k2 D2 => ?_
  obtain ⟨c2, g2, m2⟩ := sg_at (l := lit "0123456789-+k/ ") a2 (by rw [show (lit "0123456789-+k/ ").length = 15 by decide +kernel]; exact b2)
  have okc2 : c2 < 128 := (show okT (lit "0123456789-+k/ ") by unfold okT; decide +kernel) c2 m2
  have okc1 := oksg c1 m1
  walk_at "go"
  refine r_ixS (lit_S _) a2 g2 (by decide +kernel) ?_
  walk_at "go"
  rename_i p3 H3 n3 e3 h3
  refine use_law_draw (D2.up e3) (by decide) (Sz.mono (n := 200) Sz.lit (by decide)) fun v4 H4 a4 b4 k4 D4 => ?_
  have np3 := D2.free n3
  have h4 := k4 _ _ np3 h3
  obtain ⟨y, gy, my⟩ := at_mem (xs := [V.str (SX.S [c1]), V.str (SX.S [c2])]) a4 b4
  walk_at "go"
  refine r_ixL (SqL.of h4) gy ?_
  obtain ⟨c, rfl, okc⟩ : ∃ c, y = .str (SX.S [c]) ∧ c < 128 := by
    rcases List.mem_cons.mp my with rfl | my
    · exact ⟨_, rfl, okc1⟩
    · rw [List.mem_singleton.mp my]
      exact ⟨_, rfl, okc2⟩
  have kk : Kp d H H4 := k1.trans (k2.trans (e3.kp.trans k4))
  clear k1 k2 k4 e3 h3 h4 n3 np3 D1 D2 gy my g1 g2 m1 m2 a1 a2 a4 b1 b2 b4 D
  walk_at "go"
  refine use_law_draw D4 (by omega) (Sz.mono (n := 200) (Sz.small (by omega)) (by decide)) fun at_ H5 a5 b5 k5 D5 => ?_
  walk_at "go"
  refine use_law_draw D5 (by decide) (Sz.mono (n := 200) Sz.lit (by decide)) fun way H6 a6 b6 k6 D6 => ?_
  have kk : Kp d H H6 := kk.trans (k5.trans k6)
  clear k5 k6 D4 D5
  walk_at "go"
  refine if_2 (fun hw => ?_) (fun hw => ?_)
  · have hw := of_decide_eq_true hw
    clear z1
    have lm : ((l.take (at_ + 1).toNat).drop at_.toNat).length ≤ 1 := by
      rw [List.length_drop, List.length_take]
      omega
    have e5 : 0 ≤ at_ + 1 := by omega
    walk_at "go"
    rename_i p7 H7 n7 e7 h7
    obtain ⟨y, gy, my⟩ := at_mem (xs := [V.str (SX.S [c]), V.str (SX.S [c]), V.str (Str.ofString ""), V.str (SX.S ((l.take (at_ + 1).toNat).drop at_.toNat ++ (l.take (at_ + 1).toNat).drop at_.toNat))]) a6 (by show way < 4; omega)
    refine r_ixL (SqL.of h7) gy ?_
    obtain ⟨w, rfl, okw, lw⟩ : ∃ w, y = .str (SX.S w) ∧ okT w ∧ w.length ≤ 2 := by
      have o1 : okT [c] := fun x hx => by rw [List.mem_singleton.mp hx]; exact okc
      have om : okT ((l.take (at_ + 1).toNat).drop at_.toNat) := (ok.take _).drop _
      rcases List.mem_cons.mp my with rfl | my
      · exact ⟨_, rfl, o1, by show 1 ≤ 2; decide⟩
      rcases List.mem_cons.mp my with rfl | my
      · exact ⟨_, rfl, o1, by show 1 ≤ 2; decide⟩
      rcases List.mem_cons.mp my with rfl | my
      · exact ⟨[], by rw [L_e], (fun x hx => by cases hx), by decide⟩
      · rw [List.mem_singleton.mp my]
        refine ⟨_, rfl, om.app om, ?_⟩
        rw [List.length_append]
        omega
    have e6 : 0 ≤ at_ + (if decide (0 < way) = true then 1 else 0) := by split <;> omega
    clear gy my e5 lm h7 n7
    walk_at "go"
    refine q _ _ ?_ (((ok.take _).app okw).app (ok.drop _)) (kk.trans e7.kp) (D6.up e7)
    rw [List.length_append, List.length_append, List.length_take, List.length_drop]
    omega
  have hw := of_decide_eq_false hw
  clear z1
  have lws := cutAt_len 32 l
  obtain ⟨pw, psw, ews⟩ := cutAt_ne 32 l
  have nws : 1 ≤ (cutAt 32 l).length := by rw [ews, List.length_cons]; omega
  have wws := cut_wgt 32 l
  have okws : ∀ w ∈ cutAt 32 l, okT w := fun w hw => ok.sub (cutAt_sub hw)
  clear ews
  walk_at "go"
  rename_i p7 H7 n7 e7 h7
  rw [spl_eq] at h7 ⊢
  generalize cutAt 32 l = ws at h7 lws nws wws okws ⊢
  have h7 : H7 p7 = some (.lst (wstrs ws)) := h7
  rw [show (List.map (fun z => V.str (SX.S z)) ws).length = ws.length from List.length_map _]
  refine use_law_draw (D6.up e7) (by omega) (Sz.mono (n := 200) (Sz.small (by omega)) (by decide)) fun at2 H8 a8 b8 k8 D8 => ?_
  have h8 := k8 _ _ (D6.free n7) h7
  walk_at "go"
  rw [wstrs_len]
  refine use_law_draw D8 (by omega) (Sz.mono (n := 200) (Sz.small (by omega)) (by decide)) fun at3 H9 a9 b9 k9 D9 => ?_
  have h9 := k9 _ _ (D6.free n7) h8
  have kk := kk.trans (e7.kp.trans (k8.trans k9))
  clear h7 h8 e7 k8 k9 D8
  obtain ⟨w3, g3, m3, _⟩ := wstrs_at a9 b9
  obtain ⟨w2, g2, m2, gg2⟩ := wstrs_at a8 b8
  refine r_ixL (SqL.of h9) g3 ?_
  walk_at "go"
  rename_i p10 H10 n10 e10 h10
  refine r_ixL (SqL.of (e10.at h9)) g2 ?_
  walk_at "go"
  rename_i p11 H11 n11 e11 h11
  refine r_repT h11 (by decide) (by decide) (by show 1 ≤ 1000; omega) fun p12 H12 n12 e12 h12 => ?_
  walk_at "go"
  rename_i p13 H13 n13 e13 h13 p14 H14 n14 e14 h14
  have x14 := ((((e10.trans e11).trans e12).trans e13).trans e14)
  have h9' := x14.at h9
  have f10 := (((e11.trans e12).trans e13).trans e14).at h10
  have f12 := (e13.trans e14).at h12
  have f13 := e14.at h13
  obtain ⟨y, gy, hy⟩ := at_3 (x := V.ref p10) (y := V.ref p12) (z := V.ref p13) (i := way - 4) (by omega) (by omega)
  refine r_ixL (SqL.of h14) gy ?_
  have b2 := wgt_mem m2
  have b3 := wgt_mem m3
  have hat : at2.toNat < ws.length := by omega
  have ew2 : ws[at2.toNat] = w2 := Option.some.inj ((List.getElem?_eq_getElem hat).symm.trans gg2)
  have cut := wgt_drop1 hat
  rw [ew2] at cut
  obtain ⟨s, zs, rfl, hs, okz, wz, lz⟩ : ∃ s zs, y = .ref s ∧ H14 s = some (.lst (wstrs zs)) ∧ (∀ w ∈ zs, okT w) ∧ wgt (ws.take at2.toNat) + wgt zs + wgt (ws.drop (at2.toNat + 1)) ≤ 2 * wgt ws ∧ zs.length ≤ 2 := by
    rcases hy with rfl | rfl | rfl
    · exact ⟨p10, [], rfl, f10, (fun w hw => by cases hw), (by show _ + 0 + _ ≤ _; omega), by decide⟩
    · refine ⟨p12, [w2, w2], rfl, f12, fun w hw => ?_, ?_, by show 2 ≤ 2; decide⟩
      · rcases List.mem_cons.mp hw with rfl | hw
        · exact okws _ m2
        · rw [List.mem_singleton.mp hw]
          exact okws _ m2
      · show _ + (w2.length + 1 + (w2.length + 1 + 0)) + _ ≤ _
        omega
    · refine ⟨p13, [w3], rfl, f13, fun w hw => ?_, ?_, by show 1 ≤ 2; decide⟩
      · rw [List.mem_singleton.mp hw]
        exact okws _ m3
      · show _ + (w3.length + 1 + 0) + _ ≤ _
        omega
  have kk := kk.trans x14.kp
  have DD := D9.up x14
  clear e10 e11 e12 e13 e14 x14 h9 f10 f12 f13 h10 h11 h12 h13 h14 gy hy D9
  have lt : (ws.take at2.toNat).length ≤ ws.length := by rw [List.length_take]; omega
  have luv : (ws.take at2.toNat).length + (ws.drop (at2 + 1).toNat).length ≤ ws.length := by rw [List.length_take, List.length_drop]; omega
  have ld : (ws.drop (at2 + 1).toNat).length ≤ ws.length := by rw [List.length_drop]; omega
  walk_at "go"
  refine r_slL h9' fun p15 H15 n15 e15 h15 => ?_
  rw [wcut_to ws a8 (by omega)] at h15
  walk_at "go"
  refine r_catL h15 (e15.at hs) (by rw [wstrs_len, wstrs_len]; omega) fun p16 H16 n16 e16 h16 => ?_
  rw [wstrs_app] at h16
  walk_at "go"
  refine r_slL ((e15.trans e16).at h9') fun p17 H17 n17 e17 h17 => ?_
  rw [wcut_from ws (by omega) (by omega)] at h17
  walk_at "go"
  refine r_catL (e17.at h16) h17 (by rw [wstrs_len, wstrs_len, List.length_append]; omega) fun p18 H18 n18 e18 h18 => ?_
  rw [wstrs_app] at h18
  have wfin : wgt ((ws.take at2.toNat ++ zs) ++ ws.drop (at2 + 1).toNat) ≤ 2 * wgt ws := by
    rw [wgt_app, wgt_app, show (at2 + 1).toNat = at2.toNat + 1 by omega]
    exact wz
  walk_at "go"
  have x18 := ((e15.trans e16).trans e17).trans e18
  refine q _ _ ?_ (joinL_ok (by decide) fun w hw => ?_) (kk.trans x18.kp) (DD.up x18)
  · have := joinL_len 32 ((ws.take at2.toNat ++ zs) ++ ws.drop (at2 + 1).toNat)
    omega
  · rcases List.mem_append.mp hw with hw | hw
    · rcases List.mem_append.mp hw with hw | hw
      · exact okws w (List.mem_of_mem_take hw)
      · exact okz w hw
    · exact okws w (List.mem_of_mem_drop hw)

end
def sp_law_bent (_ : PySem.W.Frag) : Sp := fun vs H Q _ => ∃ (l : List Nat) (d : Addr), vs = [.str (SX.S l), .ref d] ∧ l.length ≤ 90000 ∧ okT l ∧ Dr H d ∧ ∀ l' H', l'.length ≤ 2 * l.length + 2 → okT l' → Kp d H H' → Dr H' d → Q (.str (SX.S l')) H'
theorem use_law_bent {K : PySem.W.Frag} {H : Hp} {Q : VK} {E : XK} {l : List Nat} {d : Addr} (n : l.length ≤ 90000) (ok : okT l) (D : Dr H d) (q : ∀ l' H', l'.length ≤ 2 * l.length + 2 → okT l' → Kp d H H' → Dr H' d → Q (.str (SX.S l')) H') : sp_law_bent K [.str (SX.S l), .ref d] H Q E := ⟨l, d, rfl, n, ok, D, q⟩
theorem wcut_mid (zs : List (List Nat)) {i j : Int} (h0 : 0 ≤ i) (h : i ≤ zs.length) (hj : i ≤ j) : cutV (wstrs zs) (some i) (some j) = wstrs ((zs.drop i.toNat).take (j - i).toNat) := by
  unfold cutV
  have e1 : HT.sIx (wstrs zs).length 0 (some i) = i.toNat := by
    show (if i < 0 then (i + ((wstrs zs).length : Int)).toNat else min i.toNat (wstrs zs).length) = _
    rw [if_neg (by omega), wstrs_len]
    omega
  have e2 : HT.sIx (wstrs zs).length (wstrs zs).length (some j) = min j.toNat zs.length := by
    show (if j < 0 then (j + ((wstrs zs).length : Int)).toNat else min j.toNat (wstrs zs).length) = _
    rw [if_neg (by omega), wstrs_len]
  rw [e1, e2]
  show List.take _ (List.drop i.toNat (List.map _ zs)) = List.map _ _
  rw [List.map_take, List.map_drop]
  by_cases c : j.toNat ≤ zs.length
  · rw [Nat.min_eq_left c, show j.toNat - i.toNat = (j - i).toNat by omega]
  · rw [Nat.min_eq_right (a := j.toNat) (b := zs.length) (by omega), List.take_of_length_le (by rw [List.length_drop, List.length_map]; omega), List.take_of_length_le (by rw [List.length_drop, List.length_map]; omega)]
theorem wgt_rev : ∀ ws : List (List Nat), wgt ws.reverse = wgt ws
  | [] => rfl
  | w :: ws => by
    rw [List.reverse_cons, wgt_app, wgt_rev ws]
    show wgt ws + (w.length + 1 + 0) = w.length + 1 + wgt ws
    omega
theorem wgt_takeDrop (ws : List (List Nat)) (i k : Nat) : wgt ((ws.drop i).take k) ≤ wgt ws := by
  have h1 := wgt_app (ws.take i) (ws.drop i)
  rw [List.take_append_drop] at h1
  have h2 := wgt_app ((ws.drop i).take k) ((ws.drop i).drop k)
  rw [List.take_append_drop] at h2
  omega
abbrev s_law_bent : Stmt := topS 48
abbrev nm_law_bent : List Str := ["text", "draws", "lines", "at", "some"]
theorem sc_law_bent : FnScope nm_law_bent ["text", "draws"] (defScope s_law_bent) := ⟨rfl, rfl, rfl, by decide +kernel, rfl, by decide +kernel, by decide +kernel⟩
theorem st_law_bent {v0 v1 : V} : start nm_law_bent [v0, v1] = [some v0, some v1, none, none, none] := rfl
section
variable {P : Program} {w : World} {K : PySem.W.Frag} {mg : Str → Option Value} {base : Heap} {c : Cl}
theorem ok_law_bent (D : DefAt K mg "_law_bent" s_law_bent ["text", "draws"]) (B_len : mg "len" = none) (B_max : mg "max" = none) (G__law_draw : Has P w K mg base CX0 2 "_law_draw" ["draws", "many"] (sp_law_draw K)) (G__law_spoilt : Has P w K mg base CX0 3 "_law_spoilt" ["text", "draws"] (sp_law_spoilt K)) : Has P w K mg base CX0 4 "_law_bent" ["text", "draws"] (sp_law_bent K) := by
  refine D.ok sc_law_bent (by rintro _ _ _ _ ⟨_, _, rfl, _⟩; rfl) (fun f cdv A outer s H vs Q E hr h => ?_)
  obtain ⟨l, d, rfl, n, ok, D, q⟩ := h
  have hl : l.length ≤ 1000000 := by omega
  refine ⟨_, (pss_cons (ps_if (pt_cmpR op_eq (pcall G__law_draw (hr.mono (by decide)) (pa_cons (pv 1) (pa_cons pe_int pa_nil))) pe_int (nomark _)) (pss_one (ps_ret (pcall G__law_spoilt (hr.mono (by decide)) (pa_cons (pv 0) (pa_cons (pv 1) pa_nil))))) pss_nil)
      (pss_cons (ps_set (i := 2) sc_law_bent.nd rfl (Or.inl rfl) (pe_bm PySem.F.plainAttrs_str PySem.F.slot_str_split PySem.F.type_str_split mt_splitR (pv 0) (pa_cons pe_str pa_nil)))
      (pss_cons (ps_set (i := 3) sc_law_bent.nd rfl (Or.inl rfl) (pcall G__law_draw (hr.mono (by decide)) (pa_cons (pv 1) (pa_cons (pe_callB cl_len (by rfl) B_len (by decide +kernel) (pa_cons (pv 2) pa_nil)) pa_nil))))
      (pss_cons (ps_set (i := 4) sc_law_bent.nd rfl (Or.inl rfl) (pe_ix ix_list (pe_lst (pa_cons (pe_lst pa_nil) (pa_cons (pe_op op_rep (pe_lst (pa_cons (pe_ix ix_list (pv 2) (pv 3) (fun _ _ => rfl)) pa_nil)) pe_int) (pa_cons (pe_revL (pe_slice sl_list (pv 2) (po_some (pv 3)) (po_some (pe_op op_add (pv 3) pe_int)))) pa_nil)))) (pcall G__law_draw (hr.mono (by decide)) (pa_cons (pv 1) (pa_cons pe_int pa_nil))) (fun _ _ => rfl)))
      (pss_one (ps_ret (pe_bm PySem.F.plainAttrs_str PySem.F.slot_str_join PySem.F.type_str_join mt_joinR pe_str (pa_cons (pe_op op_cat (pe_op op_cat (pe_slice sl_list (pv 2) po_none (po_some (pv 3))) (pv 4)) (pe_slice sl_list (pv 2) (po_some (pe_op op_add (pv 3) (pe_callB (cl_max2 rfl) (by rfl) B_max (by decide +kernel) (pa_cons pe_int (pa_cons (pe_op op_sub (pe_callB cl_len (by rfl) B_len (by decide +kernel) (pa_cons (pv 4) pa_nil)) pe_int) pa_nil))))) po_none)) pa_nil)))))))), ?_⟩
  rw [st_law_bent]
  try dsimp only [Cx.nox, Cx.wish, Cx.blk, cx_K, cxH_K]
  walk_at "go"
  refine use_law_draw D (by decide) (Sz.mono (n := 200) Sz.lit (by decide)) fun v1 H1 a1 b1 k1 D1 => ?_
  walk_at "go"
  refine if_2 (fun h0 => ?_) (fun h0 => ?_)
  · walk_at "go"
    refine use_law_spoilt n ok D1 fun l' H2 ll' ok' k2 D2 => ?_
    walk_at "go"
    exact q _ _ ll' ok' (k1.trans k2) D2
  have lws := cutAt_len 10 l
  obtain ⟨pw, psw, ews⟩ := cutAt_ne 10 l
  have nws : 1 ≤ (cutAt 10 l).length := by rw [ews, List.length_cons]; omega
  have wws := cut_wgt 10 l
  have okws : ∀ w ∈ cutAt 10 l, okT w := fun w hw => ok.sub (cutAt_sub hw)
  clear ews
  walk_at "go"
  rename_i p7 H7 n7 e7 h7
  rw [spl_eq] at h7 ⊢
  generalize cutAt 10 l = ws at h7 lws nws wws okws ⊢
  have h7 : H7 p7 = some (.lst (wstrs ws)) := h7
  rw [show (List.map (fun z => V.str (SX.S z)) ws).length = ws.length from List.length_map _]
  refine use_law_draw (D1.up e7) (by omega) (Sz.mono (n := 200) (Sz.small (by omega)) (by decide)) fun at2 H8 a8 b8 k8 D8 => ?_
  have d7 := D1.free n7
  have h8 := k8 _ _ d7 h7
  have kk := k1.trans (e7.kp.trans k8)
  clear h7 k1 e7 k8 D1
  obtain ⟨w2, g2, m2, gg2⟩ := wstrs_at a8 b8
  walk_at "go"
  rename_i p10 H10 n10 e10 h10
  refine r_ixL (SqL.of (e10.at h8)) g2 ?_
  walk_at "go"
  rename_i p11 H11 n11 e11 h11
  refine r_repT h11 (by decide) (by decide) (by show 1 ≤ 1000; omega) fun p12 H12 n12 e12 h12 => ?_
  have h8' := ((e10.trans e11).trans e12).at h8
  walk_at "go"
  refine r_slL h8' fun p13 H13 n13 e13 h13 => ?_
  rw [wcut_mid ws a8 (by omega) (by omega)] at h13
  walk_at "go"
  refine r_revL h13 fun p14 H14 n14 e14 h14 => ?_
  walk_at "go"
  rename_i p15 H15 n15 e15 h15
  have x15 := ((e12.trans e13).trans e14).trans e15
  have y15 := (e10.trans e11).trans x15
  have D15 := D8.up y15
  refine use_law_draw D15 (by decide) (Sz.mono (n := 200) Sz.lit (by decide)) fun way H16 a16 b16 k16 D16 => ?_
  have E11 := D8.up (e10.trans e11)
  have E13 := E11.up (e12.trans e13)
  have E14 := E13.up e14
  have i7 := k16 _ _ d7 (y15.at h8)
  have i10 := k16 _ _ (D8.free n10) ((e11.trans x15).at h10)
  have i12 := k16 _ _ (E11.free n12) (((e13.trans e14).trans e15).at h12)
  have i14 := k16 _ _ (E13.free n14) (e15.at h14)
  have i15 := k16 _ _ (E14.free n15) h15
  obtain ⟨y, gy, hy⟩ := at_3 (x := V.ref p10) (y := V.ref p12) (z := V.ref p14) (i := way) (by omega) (by omega)
  refine r_ixL (SqL.of i15) gy ?_
  have b2 := wgt_mem m2
  have hat : at2.toNat < ws.length := by omega
  have ew2 : ws[at2.toNat] = w2 := Option.some.inj ((List.getElem?_eq_getElem hat).symm.trans gg2)
  have cut := wgt_drop1 hat
  rw [ew2] at cut
  obtain ⟨s, zs, rfl, hs, okz, wz, lz⟩ : ∃ s zs, y = .ref s ∧ H16 s = some (.lst (wstrs zs)) ∧ (∀ w ∈ zs, okT w) ∧ wgt (ws.take at2.toNat) + wgt zs + wgt (ws.drop (at2.toNat + 1)) ≤ 2 * wgt ws ∧ zs.length ≤ 2 := by
    rcases hy with rfl | rfl | rfl
    · exact ⟨p10, [], rfl, i10, (fun w hw => by cases hw), (by show _ + 0 + _ ≤ _; omega), by decide⟩
    · refine ⟨p12, [w2, w2], rfl, i12, fun w hw => ?_, ?_, by show 2 ≤ 2; decide⟩
      · rcases List.mem_cons.mp hw with rfl | hw
        · exact okws _ m2
        · rw [List.mem_singleton.mp hw]
          exact okws _ m2
      · show _ + (w2.length + 1 + (w2.length + 1 + 0)) + _ ≤ _
        omega
    · refine ⟨p14, ((ws.drop at2.toNat).take (at2 + 2 - at2).toNat).reverse, rfl, ?_, fun w hw => ?_, ?_, ?_⟩
      · rw [i14]
        unfold wstrs
        rw [List.map_reverse]
      · exact okws w (List.mem_of_mem_drop (List.mem_of_mem_take (List.mem_reverse.mp hw)))
      · rw [wgt_rev]
        have := wgt_takeDrop ws at2.toNat (at2 + 2 - at2).toNat
        omega
      · rw [List.length_reverse, List.length_take]
        omega
  have kk := kk.trans (y15.kp.trans k16)
  clear e10 e11 e12 e13 e14 e15 x15 y15 k16 E11 E13 E14 D15 D8 i10 i12 i14 i15 h8 h10 h11 h12 h13 h14 h15 h8' gy hy
  have lt : (ws.take at2.toNat).length ≤ ws.length := by rw [List.length_take]; omega
  have luv : (ws.take at2.toNat).length + (ws.drop (at2 + 1).toNat).length ≤ ws.length := by rw [List.length_take, List.length_drop]; omega
  walk_at "go"
  refine r_slL i7 fun p17 H17 n17 e17 h17 => ?_
  rw [wcut_to ws a8 (by omega)] at h17
  walk_at "go"
  refine r_catL h17 (e17.at hs) (by rw [wstrs_len, wstrs_len]; omega) fun p18 H18 n18 e18 h18 => ?_
  rw [wstrs_app] at h18
  have hs18 := (e17.trans e18).at hs
  walk_at "go"
  rw [show at2 + max 1 (((wstrs zs).length : Int) - 1) = at2 + 1 by rw [wstrs_len]; omega]
  refine r_slL ((e17.trans e18).at i7) fun p19 H19 n19 e19 h19 => ?_
  rw [wcut_from ws (by omega) (by omega)] at h19
  walk_at "go"
  refine r_catL (e19.at h18) h19 (by rw [wstrs_len, wstrs_len, List.length_append]; omega) fun p20 H20 n20 e20 h20 => ?_
  rw [wstrs_app] at h20
  have wfin : wgt ((ws.take at2.toNat ++ zs) ++ ws.drop (at2 + 1).toNat) ≤ 2 * wgt ws := by
    rw [wgt_app, wgt_app, show (at2 + 1).toNat = at2.toNat + 1 by omega]
    exact wz
  walk_at "go"
  have x20 := ((e17.trans e18).trans e19).trans e20
  refine q _ _ ?_ (joinL_ok (by decide) fun w hw => ?_) (kk.trans x20.kp) (D16.up x20)
  · have := joinL_len 10 ((ws.take at2.toNat ++ zs) ++ ws.drop (at2 + 1).toNat)
    omega
  · rcases List.mem_append.mp hw with hw | hw
    · rcases List.mem_append.mp hw with hw | hw
      · exact okws w (List.mem_of_mem_take hw)
      · exact okz w hw
    · exact okws w (List.mem_of_mem_drop hw)

end
def sp_law (K : PySem.W.Frag) : Sp := fun vs H Q _ => ∃ (a : Addr) (ns : List Int), vs = [.ref a] ∧ SqL K H a (ns.map V.int) ∧ ns.length ≤ 63 ∧ ∀ H', Q (.bl true) H'
theorem Gpr.sz {k : Nat} {n a b m : Int} {rs : List (List Int)} (h : Gpr n a b m rs) : 0 ≤ n → Sz k n → Sz k a → Sz k b → Sz k m → ∀ r ∈ rs, r.length ≤ 10 ∧ ∀ x ∈ r, Sz k x := by
  have row : ∀ n a b m : Int, 0 < m → Sz k n → Sz k a → Sz k b → Sz k m → ∀ x ∈ [n, a, b, m, a / m], Sz k x := by
    intro n a b m m0 zn za zb zm x hx
    simp only [List.mem_cons, List.not_mem_nil, or_false] at hx
    rcases hx with rfl | rfl | rfl | rfl | rfl
    · exact zn
    · exact za
    · exact zb
    · exact zm
    · exact za.div m0
  induction h with
  | last m0 _ =>
    intro n0 zn za zb zm r hr
    rw [List.mem_singleton.mp hr]
    exact ⟨by show 5 ≤ 10; decide, row _ _ _ _ m0 zn za zb zm⟩
  | @more n a b m rs m0 ht _ ih =>
    intro n0 zn za zb zm r hr
    rcases List.mem_cons.mp hr with rfl | hr
    · exact ⟨by show 5 ≤ 10; decide, row _ _ _ _ m0 zn za zb zm⟩
    · have r0 := Int.emod_nonneg a (show m ≠ 0 by omega)
      have r1 := Int.emod_lt_of_pos a m0
      have b0 := Int.emod_nonneg b (show m ≠ 0 by omega)
      have b1 := Int.emod_lt_of_pos b m0
      have y0 : 0 ≤ (a % m * n + b % m) / m := Int.ediv_nonneg (Int.add_nonneg (Int.mul_nonneg r0 n0) b0) (by omega)
      have y1 := summed_n' n0 r0 r1 b1
      exact ih y0 (zn.le (by omega) y1) zm (Sz.mod zm m0) (Sz.mod zm m0) r hr
theorem rtx_map (rs : List (List Int)) : some (HO.lst ((List.range rs.length).map fun i => V.str (SX.S (rtx (rs.getD i []))))) = some (HO.lst (wstrs (rs.map rtx))) := by
  unfold wstrs
  rw [List.map_map]
  congr 2
  refine List.ext_getElem? fun i => ?_
  by_cases z : i < rs.length
  · rw [List.getElem?_map, List.getElem?_range z, List.getElem?_map, List.getElem?_eq_getElem z]
    show some (V.str (SX.S (rtx (rs.getD i [])))) = some (V.str (SX.S (rtx rs[i])))
    rw [List.getD_eq_getElem?_getD, List.getElem?_eq_getElem z]
    rfl
  · rw [List.getElem?_eq_none (by rw [List.length_map, List.length_range]; omega), List.getElem?_eq_none (by rw [List.length_map]; omega)]
theorem shp_str {l : List Nat} (h : okT l) : SeqAt.shaped (.str (SX.S l)) = true := by
  unfold SeqAt.shaped
  rw [strOk_S h, Bool.true_and]
  exact decide_eq_true (by unfold PyData.depth; omega)
def PgF (_ : Nat) (v : V) (_ : Hp) : Prop := ∃ z, v = V.int z ∧ Sz 600 z
def PgR (_ : Nat) (v : V) (H : Hp) : Prop := ∃ (p : Addr) (r : List Int), v = V.ref p ∧ H p = some (.tup (r.map V.int)) ∧ (r.length ≤ 10 ∧ ∀ x ∈ r, Sz 1900 x)
abbrev s_law : Stmt := topS 49
abbrev nm_law : List Str := ["script", "k", "draws", "n", "paper", "handed", "text", "due", "turn", "found", "kind", "row", "j", "number", "thing"]
theorem sc_law : FnScope nm_law ["script"] (defScope s_law) := ⟨rfl, rfl, rfl, by decide +kernel, rfl, by decide +kernel, by decide +kernel⟩
theorem st_law {v0 : V} : start nm_law [v0] = [some v0, none, none, none, none, none, none, none, none, none, none, none, none, none, none] := rfl
section
variable {P : Program} {w : World} {K : PySem.W.Frag} {mg : Str → Option Value} {base : Heap} {c : Cl}
theorem ok_law  {f : Addr} {fd : FuncData} (F : Fun K "law" "law" s_law f fd) (B_range : mg "range" = none) (B_max : mg "max" = none) (B_min : mg "min" = none) (B_len : mg "len" = none) (B_tuple : mg "tuple" = none) (B_list : mg "list" = none) (B_str : mg "str" = none) (B_isinstance : mg "isinstance" = none) (B_int : mg "int" = none) (G__law_draws : Has P w K mg base CX0 2 "_law_draws" ["script", "k"] (sp_law_draws K)) (G__law_draw : Has P w K mg base CX0 2 "_law_draw" ["draws", "many"] (sp_law_draw K)) (G__law_great_count : Has P w K mg base CX0 4 "_law_great_count" ["draws"] (sp_law_great_count K)) (G__law_short_stair : Has P w K mg base CX0 6 "_law_short_stair" ["draws"] (sp_law_short_stair K)) (G_paper_of : Has P w K mg base CX0 5 "paper_of" ["stair", "n"] (sp_paper_of K)) (G__law_figures : Has P w K mg base CX0 3 "_law_figures" ["draws", "most"] (sp_law_figures K)) (G_paper_text : Has P w K mg base CX0 2 "paper_text" ["paper"] (sp_paper_text K)) (G__law_read : Has P w K mg base CX0 3 "_law_read" ["text"] (sp_law_read K)) (G__law_told : Has P w K mg base CX0 4 "_law_told" ["text"] (sp_law_told K)) (G__law_bent : Has P w K mg base CX0 4 "_law_bent" ["text", "draws"] (sp_law_bent K)) : FnOk P w K mg base CX0 7 f fd ["script"] (sp_law K) := by
  refine F.ok sc_law (by rintro _ _ _ _ ⟨_, _, rfl, _⟩; rfl) (fun cdv A outer s H vs Q E hr h => ?_)
  obtain ⟨a, ns, rfl, hS, hlen, q⟩ := h
  refine ⟨_, (pss_cons (ps_for PassesOwn.never rfl (pi_range1 rfl B_range (pa_cons (pe_callB (cl_max2 rfl) (by rfl) B_max (by decide +kernel) (pa_cons pe_int (pa_cons (pe_callB (cl_min2 rfl) (by rfl) B_min (by decide +kernel) (pa_cons pe_int (pa_cons (pe_callB cl_len (by rfl) B_len (by decide +kernel) (pa_cons (pv 0) pa_nil)) pa_nil))) pa_nil))) pa_nil)) (pg_name (i := 1) sc_law.nd rfl (Or.inl rfl))
        (pss_cons (ps_set (i := 2) sc_law.nd rfl (Or.inr rfl) (pcall G__law_draws (hr.mono (by decide)) (pa_cons (pv 0) (pa_cons (pv 1) pa_nil))))
        (pss_cons (ps_set (i := 3) sc_law.nd rfl (Or.inl rfl) (pe_ix ix_list (pe_lst (pa_cons (pcall G__law_great_count (hr.mono (by decide)) (pa_cons (pv 2) pa_nil)) (pa_cons (pcall G__law_draw (hr.mono (by decide)) (pa_cons (pv 2) (pa_cons pe_int pa_nil))) pa_nil))) (pcall G__law_draw (hr.mono (by decide)) (pa_cons (pv 2) (pa_cons pe_int pa_nil))) (fun _ _ => rfl)))
        (pss_cons (ps_set (i := 4) sc_law.nd rfl (Or.inl rfl) (pe_slice sl_list (pcall G_paper_of (hr.mono (by decide)) (pa_cons (pcall G__law_short_stair (hr.mono (by decide)) (pa_cons (pv 2) pa_nil)) (pa_cons (pv 3) pa_nil))) po_none (po_some pe_int)))
        (pcut (ps_if (pt_cmpR op_eq (pcall G__law_draw (hr.mono (by decide)) (pa_cons (pv 2) (pa_cons pe_int pa_nil))) pe_int (nomark _)) (pss_one (ps_setLc (i := 4) rfl sc_law.nd rfl rfl (sw_true rfl rfl rfl (by decide +kernel)) (pi_range1 rfl B_range (pa_cons (pe_op op_add pe_int (pcall G__law_draw (hr.mono (by decide)) (pa_cons (pv 2) (pa_cons pe_int pa_nil)))) pa_nil)) (blkOk_by (own := [("row", 11)]) (N := nm_law) (sc := defScope s_law) (by decide +kernel)) (fun _ _ _ _ _ => (pg_name (i := 11) sc_law.nd rfl (Or.inl rfl))) (fun _ _ _ _ _ => pts_nil) (fun _ _ _ _ _ => (pe_callTy (cl_tupOfK (K := K)) (by rfl) B_tuple (by decide +kernel) (pa_cons (pe_lc rfl sc_law.nd (pi_range1 rfl B_range (pa_cons pe_int pa_nil)) (blkN (own := [("j", 12)]) (N := nm_law) (sc := defScope s_law) (by decide +kernel)) (fun _ _ _ _ _ => (pg_name (i := 12) sc_law.nd rfl (Or.inl rfl))) (fun _ _ _ _ _ => pts_nil) (fun _ _ _ _ _ => (pcall G__law_figures (hr.mono (by decide)) (pa_cons (pv 2) (pa_cons pe_int pa_nil))))) pa_nil))))) pss_nil)
        (pss_cons (ps_set (i := 5) sc_law.nd rfl (Or.inl rfl) (pe_callTy cl_listOf (by rfl) B_list (by decide +kernel) (pa_cons (pv 4) pa_nil)))
        (pss_cons (ps_set (i := 6) sc_law.nd rfl (Or.inl rfl) (pcall G_paper_text (hr.mono (by decide)) (pa_cons (pv 5) pa_nil)))
        (pss_cons (ps_set (i := 7) sc_law.nd rfl (Or.inl rfl) (pe_bm PySem.F.plainAttrs_str PySem.F.slot_str_join PySem.F.type_str_join mt_joinR pe_str (pa_cons (pe_lc rfl sc_law.nd (pi_list (pv 4)) (blkOk_by (own := [("row", 11)]) (N := nm_law) (sc := defScope s_law) (by decide +kernel)) (fun _ _ _ _ _ => (pg_name (i := 11) sc_law.nd rfl (Or.inl rfl))) (fun _ _ _ _ _ => pts_nil) (fun _ _ _ _ _ => ((pe_bmK (K := K)) PySem.F.plainAttrs_str PySem.F.slot_str_join PySem.F.type_str_join (mt_joinRK (K := K)) pe_str (pa_cons (pe_lc rfl sc_law.nd ((pi_tupK (K := K)) (pv 11)) (blkN (own := [("number", 13)]) (N := nm_law) (sc := defScope s_law) (by decide +kernel)) (fun _ _ _ _ _ => (pg_name (i := 13) sc_law.nd rfl (Or.inl rfl))) (fun _ _ _ _ _ => pts_nil) (fun _ _ _ _ _ => (pe_callTy cl_strI (by rfl) B_str (by decide +kernel) (pa_cons (pv 13) pa_nil)))) pa_nil)))) pa_nil)))
        (pss_cons (ps_if (PW.pt (pw_or (pt_not (pt_val (pe_callB call_isi (by rfl) B_isinstance (by decide +kernel) (pa_cons (pv 6) (pa_cons (pe_bltn (v := .ty "str") (by rfl) B_str (by decide +kernel) rfl) pa_nil))))) (pw_or (pt_cmpR (op_neD hr.units) (pv 6) (pv 7) (nomark _)) (pw_or1 (pt_cmpR (op_neD hr.units) (pv 5) (pv 4) (nomark _)))))) (pss_one (ps_ret pe_bl)) pss_nil)
        (pss_cons (ps_set (i := 6) sc_law.nd rfl (Or.inl rfl) (pe_slice sl_str (pv 6) po_none (po_some pe_int)))
        (pss_one (ps_for PassesOwn.never rfl (pi_range1 rfl B_range (pa_cons pe_int pa_nil)) (pg_name (i := 8) sc_law.nd rfl (Or.inl rfl))
          (pss_cons (ps_set (i := 7) sc_law.nd rfl (Or.inl rfl) (pcall G__law_read (hr.mono (by decide)) (pa_cons (pv 6) pa_nil)))
          (pss_cons (ps_asg (pcall G__law_told (hr.mono (by decide)) (pa_cons (pv 6) pa_nil)) (pg_tup (by rfl) (pgs_cons (pg_name (i := 9) sc_law.nd rfl (Or.inl rfl)) (pgs_cons (pg_name (i := 10) sc_law.nd rfl (Or.inl rfl)) pgs_nil))))
          (pss_cons (ps_if (pt_cmpR (op_neD hr.units) (pe_tup (pa_cons (pv 9) (pa_cons (pv 10) pa_nil))) (pe_tup (pa_cons (pv 7) (pa_cons (pe_ix ix_list (pe_lst (pa_cons pe_str (pa_cons pe_str pa_nil))) (pe_callTy cl_int1 (by rfl) B_int (by decide +kernel) (pa_cons (pe_cmpR op_notNn (pv 7) pe_non (nomark _)) pa_nil)) (fun _ _ => rfl)) pa_nil))) (nomark _)) (pss_one (ps_ret pe_bl)) pss_nil)
          (pcut (ps_if (pt_cmpR op_notNn (pv 7) pe_non (nomark _)) (pss_cons (ps_expr (pe_bm PySem.F.plainAttrs_list PySem.F.slot_list_append PySem.F.type_list_append mt_append (pv 9) (pa_cons pe_int pa_nil)))
            (pss_one (ps_if (pt_cmpR (op_neD hr.units) (pcall G__law_told (hr.mono (by decide)) (pa_cons (pv 6) pa_nil)) (pe_tup (pa_cons (pv 7) (pa_cons pe_str pa_nil))) (nomark _)) (pss_one (ps_ret pe_bl)) pss_nil))) pss_nil)
          (pss_one (ps_set (i := 6) sc_law.nd rfl (Or.inl rfl) (pcall G__law_bent (hr.mono (by decide)) (pa_cons (pv 6) (pa_cons (pv 2) pa_nil)))))))))))))))))))))
      (pss_one (ps_ret (pe_cmpR (op_eqD hr.units) (pe_lc rfl sc_law.nd (pi_list (pe_lst (pa_cons pe_non (pa_cons pe_int (pa_cons pe_bl (pa_cons pe_str (pa_cons (pe_lst pa_nil) (pa_cons pe_str pa_nil)))))))) (blkOk_by (own := [("thing", 14)]) (N := nm_law) (sc := defScope s_law) (by decide +kernel)) (fun _ _ _ _ _ => (pg_name (i := 14) sc_law.nd rfl (Or.inl rfl))) (fun _ _ _ _ _ => pts_one (pt_cmpR (op_neDK (K := K) hr.units) (pcall G__law_told (hr.mono (by decide)) (pa_cons (pv 14) pa_nil)) (pe_tup (pa_cons pe_non (pa_cons pe_str pa_nil))) (nomark _))) (fun _ _ _ _ _ => (pv 14))) (pe_lst pa_nil) (nomark _))))), ?_⟩
  rw [st_law]
  try dsimp only [Cx.nox, Cx.wish, Cx.blk, cx_K, cxH_K]
  walk_at "go"
  rw [List.length_map]
  refine r_rng1 (by omega) (by omega) ?_
  refine for_rng (fun i σ H' => ∃ o1 o2 o3 o4 o5 o6 o7 o8 o9 o10 o11 o12 o13 o14 : Option V, σ = [some (.ref a), o1, o2, o3, o4, o5, o6, o7, o8, o9, o10, o11, o12, o13, o14] ∧ Ex H H') ⟨_, _, _, _, _, _, _, _, _, _, _, _, _, _, rfl, Ex.refl⟩ ?_ ?_
  · rintro i σ H0 hi ⟨o1, o2, o3, o4, o5, o6, o7, o8, o9, o10, o11, o12, o13, o14, rfl, e0⟩
    walk_at "go"
    refine use_law_draws (sql_up e0 hS) (by omega) (by omega) fun d H1 nd e1 D1 => ?_
    have w1 : Lw H0 d H1 := ⟨e1, nd, D1⟩
    clear e1 nd
    walk_at "go"
    refine use_law_great_count D1 fun c2 H2 c20 c21 k2 D2 => ?_
    have w2 := w1.kp k2 D2
    clear k2 w1 D1
    walk_at "go"
    refine use_law_draw D2 (by decide) (by walk_at "szm") fun c3 H3 c30 c31 k3 D3 => ?_
    have w3 := w2.kp k3 D3
    clear k3 w2 D2
    walk_at "go"
    rename_i l4 H4 n4 e4 h4
    have w4 := w3.ex e4
    refine use_law_draw w4.D (by decide) (by walk_at "szm") fun c5 H5 c50 c51 k5 D5 => ?_
    have w5 := w4.kp k5 D5
    have h5 := k5 _ _ (D3.free n4) h4
    walk_at "go"
    obtain ⟨v, gv, hv⟩ := at_2 (x := V.int c2) (y := V.int c3) c50 c51
    refine r_ixL (SqL.of h5) gv ?_
    obtain ⟨n, rfl, n0, n1⟩ : ∃ n, v = .int n ∧ 0 ≤ n ∧ n < 1000000000000000000000000000000 := by
      rcases hv with rfl | rfl
      · exact ⟨_, rfl, c20, c21⟩
      · exact ⟨_, rfl, c30, by omega⟩
    clear gv hv h5 h4 k5 e4 w4 w3 D3 n4 c20 c21 c30 c31 c50 c51
    walk_at "go"
    refine use_law_short_stair D5 fun p6 A B M H6 S np6 k6 D6 hp6 => ?_
    have w6 := w5.kp k6 D6
    have s30 : (10 : Nat) ^ 30 ≤ 2 ^ 110 := by decide +kernel
    have zA : Sz 110 A := Nat.lt_of_lt_of_le S.ha s30
    have zB : Sz 110 B := Nat.lt_of_lt_of_le S.hb s30
    have zM : Sz 110 M := Nat.lt_of_lt_of_le S.hm s30
    have zn : Sz 110 n := by
      show n.natAbs < 2 ^ 110
      omega
    clear k6 w5 D5 np6
    walk_at "go"
    refine use_paper_of hp6 S.m0 (zA.mono (by decide)) (zB.mono (by decide)) (zM.mono (by decide)) n0 n1 fun l7 rs H7 n7 e7 RL RZ lrs G => ?_
    have w7 := w6.ex e7
    have gsz := G.sz n0 zn zA zB zM
    obtain ⟨xs, hl7, RA⟩ := RL
    clear w6 e7 hp6 RZ G
    walk_at "go"
    refine r_slL hl7 fun l8 H8 n8 e8 h8 => ?_
    rw [cutV_takeT xs (by decide)] at h8
    have w8 := w7.ex e8
    have R8 := (RA.ex e8).takeT 60
    have W8 : WrR (rs.take 60) := ⟨by rw [List.length_take]; omega, fun r hr => by
      obtain ⟨a1, a2⟩ := gsz r (List.mem_of_mem_take hr)
      exact ⟨a1, fun x hx => (a2 x hx).mono (by decide)⟩⟩
    have d8 := w7.D.free n8
    clear w7 e8 RA hl7 gsz n7 n8
    walk_at "go"
    refine r_cut (fun σ' H' => Lw H0 d H' ∧ ∃ (l : Addr) (xs : List V) (rs : List (List Int)) (o5 o6 o7 o8 o9 o10 o11 o12 o13 o14 : Option V), σ' = [some (.ref a), some (.int (0 + i)), some (.ref d), some (.int n), some (.ref l), o5, o6, o7, o8, o9, o10, o11, o12, o13, o14] ∧ H' l = some (.lst xs) ∧ RowsA H' xs rs ∧ WrR rs) ?_ ?_
    · walk_at "go"
      refine use_law_draw w8.D (by decide) (by walk_at "szm") fun v9 H9 c9 d9 k9 D9 => ?_
      have w9 := w8.kp k9 D9
      walk_at "go"
      refine if_2 (fun h0 => ?_) (fun h0 => ?_)
      · walk_at "go"
        refine use_law_draw D9 (by decide) (by walk_at "szm") fun v10 H10 c10 d10 k10 D10 => ?_
        have w10 := w9.kp k10 D10
        clear R8 h8 k9 k10
        walk_at "go"
        refine r_rng1 (by omega) (by omega) ?_
        refine lc_rngD PgR (fun _ v G G' kt ⟨p, r, e1, e2, e3⟩ => ⟨p, r, e1, kt _ _ e2, e3⟩) D10 (by omega) (fun _ => rfl) (fun t ht G1 kG DG QE kE => ?_) (fun l11 H11 us n11 k11 D11 h11 lus hus => ?_)
        · walk_at "go"
          refine r_rng1 (by decide) (by decide) ?_
          refine lc_rngD PgF (fun _ v G G' kt z => z) DG (by decide) (fun _ => rfl) (fun t2 ht2 G2 kG2 DG2 QE2 kE2 => ?_) (fun l12 G3 us2 n12 k12 D12 h12 lus2 hus2 => ?_)
          · walk_at "go"
            refine use_law_figures DG2 (by decide) (by decide) fun z G4 zz kG4 DG4 => ?_
            exact kE2 _ _ kG4 DG4 ⟨z, rfl, zz⟩
          · obtain ⟨zs, rfl, hzs⟩ := ints_of hus2
            rw [List.length_map] at lus2
            have l5 : zs.length = 5 := lus2
            walk_at "go"
            refine r_tupL (SqL.of h12) fun t13 G5 n13 e13 h13 => ?_
            walk_at "go"
            exact kE _ _ (k12.trans e13.kp) (D12.up e13) ⟨t13, zs, rfl, h13, by omega, fun x hx => (hzs x hx).mono (by decide)⟩
        · obtain ⟨rs', R11, g11⟩ := rows_of hus
          walk_at "go"
          exact ⟨w10.kp k11 D11, l11, us, rs', _, _, _, _, _, _, _, _, _, _, rfl, h11, R11, by rw [← R11.len, lus]; omega, g11⟩
      · walk_at "go"
        exact ⟨w9, l8, _, _, _, _, _, _, _, _, _, _, _, _, rfl, k9 _ _ d8 h8, R8.kp k9 w8.D, W8⟩
    clear w8 R8 h8 W8 d8
    rintro σ' H8 ⟨w8, l, xs, rs, o5, o6, o7, o8, o9, o10, o11, o12, o13, o14, rfl, hl, R, W⟩
    walk_at "go"
    rename_i l9 H9 n9 e9 h9
    refine use_paper_text h9 (R.ex e9) W fun H10 e10 => ?_
    have hl := (e9.trans e10).at hl
    have h9 := e10.at h9
    have R := (R.ex e9).ex e10
    have w10 := w8.ex (e9.trans e10)
    have lx := R.len
    have W1 := W.1
    have wall := W.all
    have lp := ptx_len W
    have okp := ptx_ok rs
    clear w8 e9 e10 n9
    walk_at "go"
    refine lc_lstI (fun i => .str (SX.S (rtx (rs.getD i [])))) (SqL.of hl) (by omega) (fun _ => rfl) (fun i x hx G eG QE kE => ?_) (fun p1 H11 n1 e1 h1 => ?_)
    · obtain ⟨p, r, rfl, gr, hp⟩ := R.get hx
      have hp := eG.at hp
      have er : rs.getD i [] = r := by rw [List.getD_eq_getElem?_getD, gr]; rfl
      rw [er] at kE
      obtain ⟨l10, zr⟩ := W.2 r (List.mem_of_getElem? gr)
      have wr := (W.row (List.mem_of_getElem? gr)).1
      walk_at "go"
      refine lc_tupP sV (SqT.of hp) (by rw [List.length_map]; omega) (fun _ => rfl) (fun j y hy G2 eG2 QE2 kE2 => ?_) (fun p2 H2 n2 e2 h2 => ?_)
      · rw [List.getElem?_map] at hy
        obtain ⟨i, hi, rfl⟩ := Option.map_eq_some_iff.mp hy
        have zi := zr i (List.mem_of_getElem? hi)
        walk_at "go"
        exact kE2 _ Ex.refl
      · have h2 : H2 p2 = some (.lst (wstrs (r.map numI))) := by
          rw [h2]
          unfold wstrs
          rw [List.map_map, List.map_map]
          rfl
        walk_at "go"
        exact kE _ e2
    have h1 : H11 p1 = some (.lst (wstrs (rs.map rtx))) := by
      rw [h1, lx]
      exact rtx_map rs
    have hl := e1.at hl
    have h9 := e1.at h9
    have R := R.ex e1
    have w11 := w10.ex e1
    clear w10 e1
    walk_at "go"
    refine r_neD (d := .str (SX.S (ptx rs))) (e := .str (SX.S (ptx rs))) (.str _) (.str _) (shp_str okp) (shp_str okp) ?_
    rw [show PyData.eqv (.str (SX.S (ptx rs))) (.str (SX.S (ptx rs))) = true from beq_self_eq_true (SX.S (ptx rs))]
    walk_at "go"
    refine r_neR ⟨xs, h9, R⟩ ⟨xs, hl, R⟩ ?_
    rw [decide_eq_true rfl]
    walk_at "go"
    have ok32 : okT ((ptx rs).take (Int.toNat 3200)) := okp.take _
    have l32 : ((ptx rs).take (Int.toNat 3200)).length ≤ 3200 := by rw [List.length_take]; exact Nat.min_le_left _ _
    generalize (ptx rs).take (Int.toNat 3200) = t0 at ok32 l32 ⊢
    clear okp lp wall W1 R h9 hl h1 W lx
    refine r_rng1 (by decide) (by decide) ?_
    refine for_rng (fun j σ H' => ∃ (l1 : List Nat) (o7 o8 o9 o10 o11 o12 o13 o14 : Option V), σ = [some (.ref a), some (.int (0 + i)), some (.ref d), some (.int n), some (.ref l), some (.ref l9), some (.str (SX.S l1)), o7, o8, o9, o10, o11, o12, o13, o14] ∧ Lw H0 d H' ∧ okT l1 ∧ l1.length ≤ 3 ^ j * 3200) ⟨t0, _, _, _, _, _, _, _, _, rfl, w11, ok32, by show _ ≤ 1 * 3200; omega⟩ ?_ ?_
    · rintro j σ G hj ⟨t, o7, o8, o9, o10, o11, o12, o13, o14, rfl, g, ok, ll⟩
      have lj : 3 ^ j * 3200 ≤ 27 * 3200 := Nat.mul_le_mul_right _ (Nat.pow_le_pow_right (by decide) (show j ≤ 3 by omega))
      have l3 : 1 ≤ 3 ^ j := Nat.one_le_pow _ _ (by decide)
      have D4 := g.D
      walk_at "go"
      refine use_law_read (by omega) ok (fun good f1 us1 G1 x1 hf1 ro1 => ?_) (fun no G1 x1 => ?_)
      · have g1 := g.ex x1
        walk_at "go"
        refine use_law_told1 (by omega) good fun t2 f2 us2 G2 nf2 x2 hf2 ro2 ht => ?_
        have ne12 : f1 ≠ f2 := ne_of_none hf1 nf2
        have nf20 : H0 f2 = none := free_back g1.e nf2
        have d2 : f2 ≠ d := g1.D.free nf2
        have g2 := g1.ex x2
        have hf1 := x2.at hf1
        have ro1 := ro1.ex x2
        walk_at "go"
        rename_i t3 G3 n3 x3 h3 l4 G4 n4 x4 h4 t5 G5 n5 x5 h5
        have x35 := x3.trans (x4.trans x5)
        have hf1 := x35.at hf1
        have hf2 := x35.at hf2
        have ro1 := ro1.ex x35
        have ro2 := ro2.ex x35
        have h3 := (x4.trans x5).at h3
        have g5 := g2.ex x35
        clear x3 x4 x5 x2 x1 g1 g2 h4 ht n3 n4 n5 x35
        refine r_neD (.tup (SqT.of h3) (.cons (.lst (SqL.of hf2) ro2.tg.dp) (.cons (.str _) .nil))) (.tup (SqT.of h5) (.cons (.lst (SqL.of hf1) ro1.tg.dp) (.cons (.str _) .nil))) (shp_toldR _ _ (by decide +kernel)) (shp_toldR _ _ (by decide +kernel)) ?_
        rw [eqv_toldR]
        walk_at "go"
        refine r_cut (fun σ' H' => Lw H0 d H' ∧ ∃ o7 o8 o9 o10 o11 o12 o13 o14 : Option V, σ' = [some (.ref a), some (.int (0 + i)), some (.ref d), some (.int n), some (.ref l), some (.ref l9), some (.str (SX.S t)), o7, o8, o9, o10, o11, o12, o13, o14]) ?_ ?_
        · walk_at "go"
          have lus := ro2.1
          have lrow : (rowsT t).length ≤ t.length + 1 := by
            unfold rowsT
            rw [List.length_map]
            exact cutAt_len 10 t
          refine r_app hf2 (by omega) fun G6 k6 h6 => ?_
          have g6 := g5.own nf20 d2 k6
          have hf1 := k6 _ _ ne12 hf1
          have ro1 := ro1.kpL k6 hf2
          walk_at "go"
          refine use_law_told1 (by omega) good fun t7 f7 us7 G7 nf7 x7 hf7 ro7 ht7 => ?_
          walk_at "go"
          rename_i t8 G8 n8 x8 h8
          refine r_neD (.tup (SqT.of (x8.at ht7)) (.cons (.lst (SqL.of (x8.at hf7)) (ro7.ex x8).tg.dp) (.cons (.str _) .nil))) (.tup (SqT.of h8) (.cons (.lst (SqL.of ((x7.trans x8).at hf1)) (ro1.ex (x7.trans x8)).tg.dp) (.cons (.str _) .nil))) (shp_toldR _ _ (by decide +kernel)) (shp_toldR _ _ (by decide +kernel)) ?_
          rw [eqv_toldR]
          walk_at "go"
          exact ⟨g6.ex (x7.trans x8), _, _, _, _, _, _, _, _, rfl⟩
        · rintro σ' G6 ⟨g6, o7, o8, o9, o10, o11, o12, o13, o14, rfl⟩
          have D6 := g6.D
          walk_at "go"
          refine use_law_bent (by omega) ok D6 fun l7 G7 ll7 ok7 k7 D7 => ?_
          walk_at "go"
          refine ⟨l7, _, _, _, _, _, _, _, _, rfl, g6.kp k7 D7, ok7, ?_⟩
          rw [Nat.pow_succ]
          omega
      · have g1 := g.ex x1
        walk_at "go"
        refine use_law_told2 (.inr ⟨t, rfl, by omega, no⟩) fun t2 G2 x2 ht => ?_
        have g2 := g1.ex x2
        walk_at "go"
        rename_i t3 G3 n3 x3 h3 l4 G4 n4 x4 h4 t5 G5 n5 x5 h5
        have h3 := (x4.trans x5).at h3
        have g5 := g2.ex (x3.trans (x4.trans x5))
        refine r_neD (d := .tuple [.none, .str "NoText+"]) (e := .tuple [.none, .str "NoText+"]) (.tup (SqT.of h3) (.cons .non (.cons (.str _) .nil))) (.tup (SqT.of h5) (.cons .non (.cons (.str _) .nil))) (by decide +kernel) (by decide +kernel) ?_
        rw [show PyData.eqv (.tuple [.none, .str "NoText+"]) (.tuple [.none, .str "NoText+"]) = true by decide +kernel]
        walk_at "go"
        refine r_cut (fun σ' H' => Lw H0 d H' ∧ ∃ o7 o8 o9 o10 o11 o12 o13 o14 : Option V, σ' = [some (.ref a), some (.int (0 + i)), some (.ref d), some (.int n), some (.ref l), some (.ref l9), some (.str (SX.S t)), o7, o8, o9, o10, o11, o12, o13, o14]) ?_ ?_
        · walk_at "go"
          exact ⟨g5, _, _, _, _, _, _, _, _, rfl⟩
        · rintro σ' G6 ⟨g6, o7, o8, o9, o10, o11, o12, o13, o14, rfl⟩
          have D6 := g6.D
          walk_at "go"
          refine use_law_bent (by omega) ok D6 fun l7 G7 ll7 ok7 k7 D7 => ?_
          walk_at "go"
          refine ⟨l7, _, _, _, _, _, _, _, _, rfl, g6.kp k7 D7, ok7, ?_⟩
          rw [Nat.pow_succ]
          omega
    · rintro σ G ⟨t, o7, o8, o9, o10, o11, o12, o13, o14, rfl, g, ok, ll⟩
      walk_at "go"
      exact ⟨_, _, _, _, _, _, _, _, _, _, _, _, _, _, rfl, e0.trans g.e⟩
  · rintro σ H0 ⟨o1, o2, o3, o4, o5, o6, o7, o8, o9, o10, o11, o12, o13, o14, rfl, e0⟩
    walk_at "go"
    rename_i l1 G1 n1 x1 h1 l3 G3 n3 x3 h3
    have h1 := x3.at h1
    refine lc_lst0 (SqL.of h3) (fun _ => rfl) (fun j x hx G eG QE kE => ?_) (fun p G4 n4 x4 h4 => ?_)
    · have no : NoTx G x ∨ ∃ l : List Nat, x = .str (SX.S l) ∧ l.length ≤ 90000 ∧ okRs (rowsT l) = false := by
        match j, hx with
        | 0, hx => cases hx; exact .inl ⟨.inr (.inr (.inl rfl)), fun z h => by cases h⟩
        | 1, hx => cases hx; exact .inl ⟨.inl ⟨_, rfl⟩, fun z h => by cases h⟩
        | 2, hx => cases hx; exact .inl ⟨.inr (.inl ⟨_, rfl⟩), fun z h => by cases h⟩
        | 3, hx => cases hx; exact .inr ⟨lit "", by rw [lit_S], by decide +kernel, by decide +kernel⟩
        | 4, hx => cases hx; exact .inl ⟨.inr (.inr (.inr (.inr (.inl ⟨_, _, rfl, eG.at h1⟩)))), fun z h => by cases h⟩
        | 5, hx => cases hx; exact .inr ⟨lit "1 2 3 4", by rw [lit_S], by decide +kernel, by decide +kernel⟩
        | _ + 6, hx => simp at hx
      walk_at "go"
      refine use_law_told2 no fun t G9 x9 ht => ?_
      walk_at "go"
      rename_i t2 G10 n10 x10 h10
      refine r_neD (d := .tuple [.none, .str "NoText+"]) (e := .tuple [.none, .str "NoText+"]) (.tup (SqT.of (x10.at ht)) (.cons .non (.cons (.str _) .nil))) (.tup (SqT.of h10) (.cons .non (.cons (.str _) .nil))) (by decide +kernel) (by decide +kernel) ?_
      rw [show PyData.eqv (.tuple [.none, .str "NoText+"]) (.tuple [.none, .str "NoText+"]) = true by decide +kernel]
      walk_at "go"
      exact kE _ (x9.trans x10)
    · walk_at "go"
      rename_i p5 G5 n5 x5 h5
      refine r_eqD (d := .list []) (e := .list []) (.lst (SqL.of (x5.at h4)) .nil) (.lst (SqL.of h5) .nil) (by rfl) (by rfl) ?_
      exact q _

end
end Sd
namespace Sd
open PySem PySem.Spec PyProof.Rows L2
theorem all_mk {l : PySem.W.OpenLaw} {w : World} {K : PySem.W.Frag} {h : Heap} {mg : Str → Option Value} {fa : Addr} (X : K.In h) (G : h.Ns mainGlobals mg) (hfa : mg "law" = some (.ref fa))
    {f0 f1 f2 f3 f4 f5 f6 f7 f8 f9 f10 f11 f12 f13 f14 f15 f16 f17 f18 f19 f20 f21 f22 f23 f24 : Addr}
    {od0 an0 od1 an1 od2 an2 od3 an3 od4 an4 od5 an5 od6 an6 od7 an7 od8 an8 od9 an9 od10 an10 od11 an11 od12 an12 od13 an13 od14 an14 od15 an15 od16 an16 od17 an17 od18 an18 od19 an19 od20 an20 od21 an21 od22 an22 od23 an23 od24 an24 : Option Addr}
    {sl0 sl1 sl2 sl3 sl4 sl5 sl6 sl7 sl8 sl9 sl10 sl11 sl12 sl13 sl14 sl15 sl16 sl17 sl18 sl19 sl20 sl21 sl22 sl23 sl24 : Array (Option Value)}
    {oc0 kV0 dc0 pm0 cd0 ct0 oc1 kV1 dc1 pm1 cd1 ct1 oc2 kV2 dc2 pm2 cd2 ct2 oc3 kV3 dc3 pm3 cd3 ct3 oc4 kV4 dc4 pm4 cd4 ct4 oc5 kV5 dc5 pm5 cd5 ct5 oc6 kV6 dc6 pm6 cd6 ct6 oc7 kV7 dc7 pm7 cd7 ct7 oc8 kV8 dc8 pm8 cd8 ct8 oc9 kV9 dc9 pm9 cd9 ct9 oc10 kV10 dc10 pm10 cd10 ct10 oc11 kV11 dc11 pm11 cd11 ct11 oc12 kV12 dc12 pm12 cd12 ct12 oc13 kV13 dc13 pm13 cd13 ct13 oc14 kV14 dc14 pm14 cd14 ct14 oc15 kV15 dc15 pm15 cd15 ct15 oc16 kV16 dc16 pm16 cd16 ct16 oc17 kV17 dc17 pm17 cd17 ct17 oc18 kV18 dc18 pm18 cd18 ct18 oc19 kV19 dc19 pm19 cd19 ct19 oc20 kV20 dc20 pm20 cd20 ct20 oc21 kV21 dc21 pm21 cd21 ct21 oc22 kV22 dc22 pm22 cd22 ct22 oc23 kV23 dc23 pm23 cd23 ct23 oc24 kV24 dc24 pm24 cd24 ct24 : Value}
    {tk_COUNTS_BELOW tk_MOST_FIGURES : Tok}
    {C0 : Addr} {xn0 xq0 : Str} {xN0 : Addr} {xb0 xs0 : List Value} {xl0 : List Str} {xa0 : Bool} {xc0 : Option Bool} {xd0 : Option Addr} {xe0 xf0 xg0 xh0 xi0 : Option Value}
    {C1 : Addr} {xn1 xq1 : Str} {xN1 : Addr} {xb1 xs1 : List Value} {xl1 : List Str} {xa1 : Bool} {xc1 : Option Bool} {xd1 : Option Addr} {xe1 xf1 xg1 xh1 xi1 : Option Value}
    {C2 : Addr} {xn2 xq2 : Str} {xN2 : Addr} {xb2 xs2 : List Value} {xl2 : List Str} {xa2 : Bool} {xc2 : Option Bool} {xd2 : Option Addr} {xe2 xf2 xg2 xh2 xi2 : Option Value}
    {C3 : Addr} {xn3 xq3 : Str} {xN3 : Addr} {xb3 xs3 : List Value} {xl3 : List Str} {xa3 : Bool} {xc3 : Option Bool} {xd3 : Option Addr} {xe3 xf3 xg3 xh3 xi3 : Option Value}
    {C4 : Addr} {xn4 xq4 : Str} {xN4 : Addr} {xb4 xs4 : List Value} {xl4 : List Str} {xa4 : Bool} {xc4 : Option Bool} {xd4 : Option Addr} {xe4 xf4 xg4 xh4 xi4 : Option Value}
    {C5 : Addr} {xn5 xq5 : Str} {xN5 : Addr} {xb5 xs5 : List Value} {xl5 : List Str} {xa5 : Bool} {xc5 : Option Bool} {xd5 : Option Addr} {xe5 xf5 xg5 xh5 xi5 : Option Value}
    {C6 : Addr} {xn6 xq6 : Str} {xN6 : Addr} {xb6 xs6 : List Value} {xl6 : List Str} {xa6 : Bool} {xc6 : Option Bool} {xd6 : Option Addr} {xe6 xf6 xg6 xh6 xi6 : Option Value}
    {C7 : Addr} {xn7 xq7 : Str} {xN7 : Addr} {xb7 xs7 : List Value} {xl7 : List Str} {xa7 : Bool} {xc7 : Option Bool} {xd7 : Option Addr} {xe7 xf7 xg7 xh7 xi7 : Option Value}
    {C8 : Addr} {xn8 xq8 : Str} {xN8 : Addr} {xb8 xs8 : List Value} {xl8 : List Str} {xa8 : Bool} {xc8 : Option Bool} {xd8 : Option Addr} {xe8 xf8 xg8 xh8 xi8 : Option Value}
    {C9 : Addr} {xn9 xq9 : Str} {xN9 : Addr} {xb9 xs9 : List Value} {xl9 : List Str} {xa9 : Bool} {xc9 : Option Bool} {xd9 : Option Addr} {xe9 xf9 xg9 xh9 xi9 : Option Value}
    {C10 : Addr} {xn10 xq10 : Str} {xN10 : Addr} {xb10 xs10 : List Value} {xl10 : List Str} {xa10 : Bool} {xc10 : Option Bool} {xd10 : Option Addr} {xe10 xf10 xg10 xh10 xi10 : Option Value}
    {C11 : Addr} {xn11 xq11 : Str} {xN11 : Addr} {xb11 xs11 : List Value} {xl11 : List Str} {xa11 : Bool} {xc11 : Option Bool} {xd11 : Option Addr} {xe11 xf11 xg11 xh11 xi11 : Option Value}
    {C12 : Addr} {xn12 xq12 : Str} {xN12 : Addr} {xb12 xs12 : List Value} {xl12 : List Str} {xa12 : Bool} {xc12 : Option Bool} {xd12 : Option Addr} {xe12 xf12 xg12 xh12 xi12 : Option Value}
    {C13 : Addr} {xn13 xq13 : Str} {xN13 : Addr} {xb13 xs13 : List Value} {xl13 : List Str} {xa13 : Bool} {xc13 : Option Bool} {xd13 : Option Addr} {xe13 xf13 xg13 xh13 xi13 : Option Value}
    {C14 : Addr} {xn14 xq14 : Str} {xN14 : Addr} {xb14 xs14 : List Value} {xl14 : List Str} {xa14 : Bool} {xc14 : Option Bool} {xd14 : Option Addr} {xe14 xf14 xg14 xh14 xi14 : Option Value}
    {C15 : Addr} {xn15 xq15 : Str} {xN15 : Addr} {xb15 xs15 : List Value} {xl15 : List Str} {xa15 : Bool} {xc15 : Option Bool} {xd15 : Option Addr} {xe15 xf15 xg15 xh15 xi15 : Option Value}
    {C16 : Addr} {xn16 xq16 : Str} {xN16 : Addr} {xb16 xs16 : List Value} {xl16 : List Str} {xa16 : Bool} {xc16 : Option Bool} {xd16 : Option Addr} {xe16 xf16 xg16 xh16 xi16 : Option Value}
    (a0 : PySem.W.nsIn K mainGlobals "_law_draws" = some (some (.ref f0))) (l0 : K.lookup f0 = some ⟨oc0, od0, .func (PySem.W.fnOf "_law_draws" "_law_draws" (defArgs s_law_draws) (defBody s_law_draws) (defScope s_law_draws) .none kV0 dc0 pm0 an0 cd0 ct0), sl0⟩) (c0 : PySem.W.codeIn K cd0 "_law_draws" = true) (k0 : PySem.W.keepIn K (.ref f0) = true)
    (a1 : PySem.W.nsIn K mainGlobals "_law_draw" = some (some (.ref f1))) (l1 : K.lookup f1 = some ⟨oc1, od1, .func (PySem.W.fnOf "_law_draw" "_law_draw" (defArgs s_law_draw) (defBody s_law_draw) (defScope s_law_draw) .none kV1 dc1 pm1 an1 cd1 ct1), sl1⟩) (c1 : PySem.W.codeIn K cd1 "_law_draw" = true) (k1 : PySem.W.keepIn K (.ref f1) = true)
    (a2 : PySem.W.nsIn K mainGlobals "_law_figures" = some (some (.ref f2))) (l2 : K.lookup f2 = some ⟨oc2, od2, .func (PySem.W.fnOf "_law_figures" "_law_figures" (defArgs s_law_figures) (defBody s_law_figures) (defScope s_law_figures) .none kV2 dc2 pm2 an2 cd2 ct2), sl2⟩) (c2 : PySem.W.codeIn K cd2 "_law_figures" = true) (k2 : PySem.W.keepIn K (.ref f2) = true)
    (a3 : PySem.W.nsIn K mainGlobals "_law_great_count" = some (some (.ref f3))) (l3 : K.lookup f3 = some ⟨oc3, od3, .func (PySem.W.fnOf "_law_great_count" "_law_great_count" (defArgs s_law_great_count) (defBody s_law_great_count) (defScope s_law_great_count) .none kV3 dc3 pm3 an3 cd3 ct3), sl3⟩) (c3 : PySem.W.codeIn K cd3 "_law_great_count" = true) (k3 : PySem.W.keepIn K (.ref f3) = true)
    (a4 : PySem.W.nsIn K mainGlobals "_law_bottom" = some (some (.ref f4))) (l4 : K.lookup f4 = some ⟨oc4, od4, .func (PySem.W.fnOf "_law_bottom" "_law_bottom" (defArgs s_law_bottom) (defBody s_law_bottom) (defScope s_law_bottom) .none kV4 dc4 pm4 an4 cd4 ct4), sl4⟩) (c4 : PySem.W.codeIn K cd4 "_law_bottom" = true) (k4 : PySem.W.keepIn K (.ref f4) = true)
    (a5 : PySem.W.nsIn K mainGlobals "_law_stair" = some (some (.ref f5))) (l5 : K.lookup f5 = some ⟨oc5, od5, .func (PySem.W.fnOf "_law_stair" "_law_stair" (defArgs s_law_stair) (defBody s_law_stair) (defScope s_law_stair) .none kV5 dc5 pm5 an5 cd5 ct5), sl5⟩) (c5 : PySem.W.codeIn K cd5 "_law_stair" = true) (k5 : PySem.W.keepIn K (.ref f5) = true)
    (a6 : PySem.W.nsIn K mainGlobals "_law_short_stair" = some (some (.ref f6))) (l6 : K.lookup f6 = some ⟨oc6, od6, .func (PySem.W.fnOf "_law_short_stair" "_law_short_stair" (defArgs s_law_short_stair) (defBody s_law_short_stair) (defScope s_law_short_stair) .none kV6 dc6 pm6 an6 cd6 ct6), sl6⟩) (c6 : PySem.W.codeIn K cd6 "_law_short_stair" = true) (k6 : PySem.W.keepIn K (.ref f6) = true)
    (a7 : PySem.W.nsIn K mainGlobals "is_whole" = some (some (.ref f7))) (l7 : K.lookup f7 = some ⟨oc7, od7, .func (PySem.W.fnOf "is_whole" "is_whole" (defArgs s_is_whole) (defBody s_is_whole) (defScope s_is_whole) .none kV7 dc7 pm7 an7 cd7 ct7), sl7⟩) (c7 : PySem.W.codeIn K cd7 "is_whole" = true) (k7 : PySem.W.keepIn K (.ref f7) = true)
    (a8 : PySem.W.nsIn K mainGlobals "is_stair" = some (some (.ref f8))) (l8 : K.lookup f8 = some ⟨oc8, od8, .func (PySem.W.fnOf "is_stair" "is_stair" (defArgs s_is_stair) (defBody s_is_stair) (defScope s_is_stair) .none kV8 dc8 pm8 an8 cd8 ct8), sl8⟩) (c8 : PySem.W.codeIn K cd8 "is_stair" = true) (k8 : PySem.W.keepIn K (.ref f8) = true)
    (a9 : PySem.W.nsIn K mainGlobals "need_stair" = some (some (.ref f9))) (l9 : K.lookup f9 = some ⟨oc9, od9, .func (PySem.W.fnOf "need_stair" "need_stair" (defArgs s_need_stair) (defBody s_need_stair) (defScope s_need_stair) .none kV9 dc9 pm9 an9 cd9 ct9), sl9⟩) (c9 : PySem.W.codeIn K cd9 "need_stair" = true) (k9 : PySem.W.keepIn K (.ref f9) = true)
    (a10 : PySem.W.nsIn K mainGlobals "need_count" = some (some (.ref f10))) (l10 : K.lookup f10 = some ⟨oc10, od10, .func (PySem.W.fnOf "need_count" "need_count" (defArgs s_need_count) (defBody s_need_count) (defScope s_need_count) .none kV10 dc10 pm10 an10 cd10 ct10), sl10⟩) (c10 : PySem.W.codeIn K cd10 "need_count" = true) (k10 : PySem.W.keepIn K (.ref f10) = true)
    (a11 : PySem.W.nsIn K mainGlobals "follows" = some (some (.ref f11))) (l11 : K.lookup f11 = some ⟨oc11, od11, .func (PySem.W.fnOf "follows" "follows" (defArgs s_follows) (defBody s_follows) (defScope s_follows) .none kV11 dc11 pm11 an11 cd11 ct11), sl11⟩) (c11 : PySem.W.codeIn K cd11 "follows" = true) (k11 : PySem.W.keepIn K (.ref f11) = true)
    (a12 : PySem.W.nsIn K mainGlobals "paper_of" = some (some (.ref f12))) (l12 : K.lookup f12 = some ⟨oc12, od12, .func (PySem.W.fnOf "paper_of" "paper_of" (defArgs s_paper_of) (defBody s_paper_of) (defScope s_paper_of) .none kV12 dc12 pm12 an12 cd12 ct12), sl12⟩) (c12 : PySem.W.codeIn K cd12 "paper_of" = true) (k12 : PySem.W.keepIn K (.ref f12) = true)
    (a13 : PySem.W.nsIn K mainGlobals "paper_text" = some (some (.ref f13))) (l13 : K.lookup f13 = some ⟨oc13, od13, .func (PySem.W.fnOf "paper_text" "paper_text" (defArgs s_paper_text) (defBody s_paper_text) (defScope s_paper_text) .none kV13 dc13 pm13 an13 cd13 ct13), sl13⟩) (c13 : PySem.W.codeIn K cd13 "paper_text" = true) (k13 : PySem.W.keepIn K (.ref f13) = true)
    (a14 : PySem.W.nsIn K mainGlobals "_law_number" = some (some (.ref f14))) (l14 : K.lookup f14 = some ⟨oc14, od14, .func (PySem.W.fnOf "_law_number" "_law_number" (defArgs s_law_number) (defBody s_law_number) (defScope s_law_number) .none kV14 dc14 pm14 an14 cd14 ct14), sl14⟩) (c14 : PySem.W.codeIn K cd14 "_law_number" = true) (k14 : PySem.W.keepIn K (.ref f14) = true)
    (a15 : PySem.W.nsIn K mainGlobals "_law_read" = some (some (.ref f15))) (l15 : K.lookup f15 = some ⟨oc15, od15, .func (PySem.W.fnOf "_law_read" "_law_read" (defArgs s_law_read) (defBody s_law_read) (defScope s_law_read) .none kV15 dc15 pm15 an15 cd15 ct15), sl15⟩) (c15 : PySem.W.codeIn K cd15 "_law_read" = true) (k15 : PySem.W.keepIn K (.ref f15) = true)
    (a16 : PySem.W.nsIn K mainGlobals "need_text" = some (some (.ref f16))) (l16 : K.lookup f16 = some ⟨oc16, od16, .func (PySem.W.fnOf "need_text" "need_text" (defArgs s_need_text) (defBody s_need_text) (defScope s_need_text) .none kV16 dc16 pm16 an16 cd16 ct16), sl16⟩) (c16 : PySem.W.codeIn K cd16 "need_text" = true) (k16 : PySem.W.keepIn K (.ref f16) = true)
    (a17 : PySem.W.nsIn K mainGlobals "number_in" = some (some (.ref f17))) (l17 : K.lookup f17 = some ⟨oc17, od17, .func (PySem.W.fnOf "number_in" "number_in" (defArgs s_number_in) (defBody s_number_in) (defScope s_number_in) .none kV17 dc17 pm17 an17 cd17 ct17), sl17⟩) (c17 : PySem.W.codeIn K cd17 "number_in" = true) (k17 : PySem.W.keepIn K (.ref f17) = true)
    (a18 : PySem.W.nsIn K mainGlobals "read_paper" = some (some (.ref f18))) (l18 : K.lookup f18 = some ⟨oc18, od18, .func (PySem.W.fnOf "read_paper" "read_paper" (defArgs s_read_paper) (defBody s_read_paper) (defScope s_read_paper) .none kV18 dc18 pm18 an18 cd18 ct18), sl18⟩) (c18 : PySem.W.codeIn K cd18 "read_paper" = true) (k18 : PySem.W.keepIn K (.ref f18) = true)
    (a19 : PySem.W.nsIn K mainGlobals "_law_kind_of" = some (some (.ref f19))) (l19 : K.lookup f19 = some ⟨oc19, od19, .func (PySem.W.fnOf "_law_kind_of" "_law_kind_of" (defArgs s_law_kind_of) (defBody s_law_kind_of) (defScope s_law_kind_of) .none kV19 dc19 pm19 an19 cd19 ct19), sl19⟩) (c19 : PySem.W.codeIn K cd19 "_law_kind_of" = true) (k19 : PySem.W.keepIn K (.ref f19) = true)
    (a20 : PySem.W.nsIn K mainGlobals "_law_told" = some (some (.ref f20))) (l20 : K.lookup f20 = some ⟨oc20, od20, .func (PySem.W.fnOf "_law_told" "_law_told" (defArgs s_law_told) (defBody s_law_told) (defScope s_law_told) .none kV20 dc20 pm20 an20 cd20 ct20), sl20⟩) (c20 : PySem.W.codeIn K cd20 "_law_told" = true) (k20 : PySem.W.keepIn K (.ref f20) = true)
    (a21 : PySem.W.nsIn K mainGlobals "_law_signs" = some (some (.ref f21))) (l21 : K.lookup f21 = some ⟨oc21, od21, .func (PySem.W.fnOf "_law_signs" "_law_signs" (defArgs s_law_signs) (defBody s_law_signs) (defScope s_law_signs) .none kV21 dc21 pm21 an21 cd21 ct21), sl21⟩) (c21 : PySem.W.codeIn K cd21 "_law_signs" = true) (k21 : PySem.W.keepIn K (.ref f21) = true)
    (a22 : PySem.W.nsIn K mainGlobals "_law_spoilt" = some (some (.ref f22))) (l22 : K.lookup f22 = some ⟨oc22, od22, .func (PySem.W.fnOf "_law_spoilt" "_law_spoilt" (defArgs s_law_spoilt) (defBody s_law_spoilt) (defScope s_law_spoilt) .none kV22 dc22 pm22 an22 cd22 ct22), sl22⟩) (c22 : PySem.W.codeIn K cd22 "_law_spoilt" = true) (k22 : PySem.W.keepIn K (.ref f22) = true)
    (a23 : PySem.W.nsIn K mainGlobals "_law_bent" = some (some (.ref f23))) (l23 : K.lookup f23 = some ⟨oc23, od23, .func (PySem.W.fnOf "_law_bent" "_law_bent" (defArgs s_law_bent) (defBody s_law_bent) (defScope s_law_bent) .none kV23 dc23 pm23 an23 cd23 ct23), sl23⟩) (c23 : PySem.W.codeIn K cd23 "_law_bent" = true) (k23 : PySem.W.keepIn K (.ref f23) = true)
    (a24 : PySem.W.nsIn K mainGlobals "law" = some (some (.ref f24))) (l24 : K.lookup f24 = some ⟨oc24, od24, .func (PySem.W.fnOf "law" "law" (defArgs s_law) (defBody s_law) (defScope s_law) .none kV24 dc24 pm24 an24 cd24 ct24), sl24⟩) (c24 : PySem.W.codeIn K cd24 "law" = true) (k24 : PySem.W.keepIn K (.ref f24) = true)
    (z_ValueError : PySem.W.nsIn K mainGlobals "ValueError" = some none)
    (z_abs : PySem.W.nsIn K mainGlobals "abs" = some none)
    (z_all : PySem.W.nsIn K mainGlobals "all" = some none)
    (z_bool : PySem.W.nsIn K mainGlobals "bool" = some none)
    (z_int : PySem.W.nsIn K mainGlobals "int" = some none)
    (z_isinstance : PySem.W.nsIn K mainGlobals "isinstance" = some none)
    (z_len : PySem.W.nsIn K mainGlobals "len" = some none)
    (z_list : PySem.W.nsIn K mainGlobals "list" = some none)
    (z_max : PySem.W.nsIn K mainGlobals "max" = some none)
    (z_min : PySem.W.nsIn K mainGlobals "min" = some none)
    (z_range : PySem.W.nsIn K mainGlobals "range" = some none)
    (z_str : PySem.W.nsIn K mainGlobals "str" = some none)
    (z_tuple : PySem.W.nsIn K mainGlobals "tuple" = some none)
    (z_zip : PySem.W.nsIn K mainGlobals "zip" = some none)
    (q_COUNTS_BELOW : PySem.W.nsIn K mainGlobals "COUNTS_BELOW" = some (some (.int COUNTS_BELOW_val tk_COUNTS_BELOW)))
    (q_MOST_FIGURES : PySem.W.nsIn K mainGlobals "MOST_FIGURES" = some (some (.int MOST_FIGURES_val tk_MOST_FIGURES)))
    (xA0 : PySem.W.nsIn K mainGlobals "StairError" = some (some (.ref C0))) (xL0 : K.lookup C0 = some (excClassObj xn0 xq0 C0 xN0 xb0 vE true xl0 xs0 xa0 xc0 xd0 xe0 xf0 xg0 xh0 xi0 "ValueError.__new__"))
    (xA1 : PySem.W.nsIn K mainGlobals "NoBounds" = some (some (.ref C1))) (xL1 : K.lookup C1 = some (excClassObj xn1 xq1 C1 xN1 xb1 (.ref C0 :: vE) true xl1 xs1 xa1 xc1 xd1 xe1 xf1 xg1 xh1 xi1 "ValueError.__new__"))
    (xA2 : PySem.W.nsIn K mainGlobals "NoCoins" = some (some (.ref C2))) (xL2 : K.lookup C2 = some (excClassObj xn2 xq2 C2 xN2 xb2 (.ref C0 :: vE) true xl2 xs2 xa2 xc2 xd2 xe2 xf2 xg2 xh2 xi2 "ValueError.__new__"))
    (xA3 : PySem.W.nsIn K mainGlobals "NoCount" = some (some (.ref C3))) (xL3 : K.lookup C3 = some (excClassObj xn3 xq3 C3 xN3 xb3 (.ref C0 :: vE) true xl3 xs3 xa3 xc3 xd3 xe3 xf3 xg3 xh3 xi3 "ValueError.__new__"))
    (xA4 : PySem.W.nsIn K mainGlobals "NoEntry" = some (some (.ref C4))) (xL4 : K.lookup C4 = some (excClassObj xn4 xq4 C4 xN4 xb4 (.ref C0 :: vE) true xl4 xs4 xa4 xc4 xd4 xe4 xf4 xg4 xh4 xi4 "ValueError.__new__"))
    (xA5 : PySem.W.nsIn K mainGlobals "NoName" = some (some (.ref C5))) (xL5 : K.lookup C5 = some (excClassObj xn5 xq5 C5 xN5 xb5 (.ref C0 :: vE) true xl5 xs5 xa5 xc5 xd5 xe5 xf5 xg5 xh5 xi5 "ValueError.__new__"))
    (xA6 : PySem.W.nsIn K mainGlobals "NoPartner" = some (some (.ref C6))) (xL6 : K.lookup C6 = some (excClassObj xn6 xq6 C6 xN6 xb6 (.ref C0 :: vE) true xl6 xs6 xa6 xc6 xd6 xe6 xf6 xg6 xh6 xi6 "ValueError.__new__"))
    (xA7 : PySem.W.nsIn K mainGlobals "NoPower" = some (some (.ref C7))) (xL7 : K.lookup C7 = some (excClassObj xn7 xq7 C7 xN7 xb7 (.ref C0 :: vE) true xl7 xs7 xa7 xc7 xd7 xe7 xf7 xg7 xh7 xi7 "ValueError.__new__"))
    (xA8 : PySem.W.nsIn K mainGlobals "NoRing" = some (some (.ref C8))) (xL8 : K.lookup C8 = some (excClassObj xn8 xq8 C8 xN8 xb8 (.ref C0 :: vE) true xl8 xs8 xa8 xc8 xd8 xe8 xf8 xg8 xh8 xi8 "ValueError.__new__"))
    (xA9 : PySem.W.nsIn K mainGlobals "NoRise" = some (some (.ref C9))) (xL9 : K.lookup C9 = some (excClassObj xn9 xq9 C9 xN9 xb9 (.ref C0 :: vE) true xl9 xs9 xa9 xc9 xd9 xe9 xf9 xg9 xh9 xi9 "ValueError.__new__"))
    (xA10 : PySem.W.nsIn K mainGlobals "NoRow" = some (some (.ref C10))) (xL10 : K.lookup C10 = some (excClassObj xn10 xq10 C10 xN10 xb10 (.ref C0 :: vE) true xl10 xs10 xa10 xc10 xd10 xe10 xf10 xg10 xh10 xi10 "ValueError.__new__"))
    (xA11 : PySem.W.nsIn K mainGlobals "NoStair" = some (some (.ref C11))) (xL11 : K.lookup C11 = some (excClassObj xn11 xq11 C11 xN11 xb11 (.ref C0 :: vE) true xl11 xs11 xa11 xc11 xd11 xe11 xf11 xg11 xh11 xi11 "ValueError.__new__"))
    (xA12 : PySem.W.nsIn K mainGlobals "NoSteps" = some (some (.ref C12))) (xL12 : K.lookup C12 = some (excClassObj xn12 xq12 C12 xN12 xb12 (.ref C0 :: vE) true xl12 xs12 xa12 xc12 xd12 xe12 xf12 xg12 xh12 xi12 "ValueError.__new__"))
    (xA13 : PySem.W.nsIn K mainGlobals "NoText" = some (some (.ref C13))) (xL13 : K.lookup C13 = some (excClassObj xn13 xq13 C13 xN13 xb13 (.ref C0 :: vE) true xl13 xs13 xa13 xc13 xd13 xe13 xf13 xg13 xh13 xi13 "ValueError.__new__"))
    (xA14 : PySem.W.nsIn K mainGlobals "NoWalker" = some (some (.ref C14))) (xL14 : K.lookup C14 = some (excClassObj xn14 xq14 C14 xN14 xb14 (.ref C0 :: vE) true xl14 xs14 xa14 xc14 xd14 xe14 xf14 xg14 xh14 xi14 "ValueError.__new__"))
    (xA15 : PySem.W.nsIn K mainGlobals "NothingLeft" = some (some (.ref C15))) (xL15 : K.lookup C15 = some (excClassObj xn15 xq15 C15 xN15 xb15 (.ref C0 :: vE) true xl15 xs15 xa15 xc15 xd15 xe15 xf15 xg15 xh15 xi15 "ValueError.__new__"))
    (xA16 : PySem.W.nsIn K mainGlobals "TooMany" = some (some (.ref C16))) (xL16 : K.lookup C16 = some (excClassObj xn16 xq16 C16 xN16 xb16 (.ref C0 :: vE) true xl16 xs16 xa16 xc16 xd16 xe16 xf16 xg16 xh16 xi16 "ValueError.__new__"))
    (xNe : [C0, C1, C2, C3, C4, C5, C6, C7, C8, C9, C10, C11, C12, C13, C14, C15, C16].Nodup) (xHn : PySem.W.specialIn K (.builtin "object.__class__") "__get__" = some (some (.builtin "getset_descriptor.__get__"))) (xHt : PySem.W.takesIn K (.builtin "object.__class__") = some true)
    (yK13 : PySem.W.keepIn K (.ref C13) = true) (yE13 : PySem.W.excIn K C13 vE "ValueError.__new__" = true) (yG13 : PySem.W.findIn K (.ref C13) "__getattribute__" = some (some (.builtin "BaseException.__getattribute__"))) (yT13 : PySem.W.findIn K (.ref C13) "__getattr__" = some none) (yC13 : PySem.W.findIn K (.ref C13) "__class__" = some (some (.builtin "object.__class__")))
    : ∃ fd : FuncData, (∀ (s : Shared) (v : Value), BindsTo s fd ⟨[v], []⟩ [("script", v)]) ∧ ∀ base : Heap, K.In base → base.Ns mainGlobals mg → FnOk l.prog w K mg base CX0 7 fa fd ["script"] (sp_law K) := by
  have D_law_draws : DefAt K mg "_law_draws" s_law_draws ["script", "k"] := def_mk X G a0 l0 c0 k0 fun _ _ _ _ _ _ us hl => match us, hl with | [_, _], _ => rfl
  have D_law_draw : DefAt K mg "_law_draw" s_law_draw ["draws", "many"] := def_mk X G a1 l1 c1 k1 fun _ _ _ _ _ _ us hl => match us, hl with | [_, _], _ => rfl
  have D_law_figures : DefAt K mg "_law_figures" s_law_figures ["draws", "most"] := def_mk X G a2 l2 c2 k2 fun _ _ _ _ _ _ us hl => match us, hl with | [_, _], _ => rfl
  have D_law_great_count : DefAt K mg "_law_great_count" s_law_great_count ["draws"] := def_mk X G a3 l3 c3 k3 fun _ _ _ _ _ _ us hl => match us, hl with | [_], _ => rfl
  have D_law_bottom : DefAt K mg "_law_bottom" s_law_bottom ["draws"] := def_mk X G a4 l4 c4 k4 fun _ _ _ _ _ _ us hl => match us, hl with | [_], _ => rfl
  have D_law_stair : DefAt K mg "_law_stair" s_law_stair ["draws"] := def_mk X G a5 l5 c5 k5 fun _ _ _ _ _ _ us hl => match us, hl with | [_], _ => rfl
  have D_law_short_stair : DefAt K mg "_law_short_stair" s_law_short_stair ["draws"] := def_mk X G a6 l6 c6 k6 fun _ _ _ _ _ _ us hl => match us, hl with | [_], _ => rfl
  have D_is_whole : DefAt K mg "is_whole" s_is_whole ["thing"] := def_mk X G a7 l7 c7 k7 fun _ _ _ _ _ _ us hl => match us, hl with | [_], _ => rfl
  have D_is_stair : DefAt K mg "is_stair" s_is_stair ["thing"] := def_mk X G a8 l8 c8 k8 fun _ _ _ _ _ _ us hl => match us, hl with | [_], _ => rfl
  have D_need_stair : DefAt K mg "need_stair" s_need_stair ["thing"] := def_mk X G a9 l9 c9 k9 fun _ _ _ _ _ _ us hl => match us, hl with | [_], _ => rfl
  have D_need_count : DefAt K mg "need_count" s_need_count ["n"] := def_mk X G a10 l10 c10 k10 fun _ _ _ _ _ _ us hl => match us, hl with | [_], _ => rfl
  have D_follows : DefAt K mg "follows" s_follows ["n", "a", "b", "m", "rise"] := def_mk X G a11 l11 c11 k11 fun _ _ _ _ _ _ us hl => match us, hl with | [_, _, _, _, _], _ => rfl
  have D_paper_of : DefAt K mg "paper_of" s_paper_of ["stair", "n"] := def_mk X G a12 l12 c12 k12 fun _ _ _ _ _ _ us hl => match us, hl with | [_, _], _ => rfl
  have D_paper_text : DefAt K mg "paper_text" s_paper_text ["paper"] := def_mk X G a13 l13 c13 k13 fun _ _ _ _ _ _ us hl => match us, hl with | [_], _ => rfl
  have D_law_number : DefAt K mg "_law_number" s_law_number ["word"] := def_mk X G a14 l14 c14 k14 fun _ _ _ _ _ _ us hl => match us, hl with | [_], _ => rfl
  have D_law_read : DefAt K mg "_law_read" s_law_read ["text"] := def_mk X G a15 l15 c15 k15 fun _ _ _ _ _ _ us hl => match us, hl with | [_], _ => rfl
  have D_need_text : DefAt K mg "need_text" s_need_text ["thing"] := def_mk X G a16 l16 c16 k16 fun _ _ _ _ _ _ us hl => match us, hl with | [_], _ => rfl
  have D_number_in : DefAt K mg "number_in" s_number_in ["word"] := def_mk X G a17 l17 c17 k17 fun _ _ _ _ _ _ us hl => match us, hl with | [_], _ => rfl
  have D_read_paper : DefAt K mg "read_paper" s_read_paper ["text"] := def_mk X G a18 l18 c18 k18 fun _ _ _ _ _ _ us hl => match us, hl with | [_], _ => rfl
  have D_law_kind_of : DefAt K mg "_law_kind_of" s_law_kind_of ["e"] := def_mk X G a19 l19 c19 k19 fun _ _ _ _ _ _ us hl => match us, hl with | [_], _ => rfl
  have D_law_told : DefAt K mg "_law_told" s_law_told ["text"] := def_mk X G a20 l20 c20 k20 fun _ _ _ _ _ _ us hl => match us, hl with | [_], _ => rfl
  have D_law_signs : DefAt K mg "_law_signs" s_law_signs [] := def_mk X G a21 l21 c21 k21 fun _ _ _ _ _ _ us hl => match us, hl with | [], _ => rfl
  have D_law_spoilt : DefAt K mg "_law_spoilt" s_law_spoilt ["text", "draws"] := def_mk X G a22 l22 c22 k22 fun _ _ _ _ _ _ us hl => match us, hl with | [_, _], _ => rfl
  have D_law_bent : DefAt K mg "_law_bent" s_law_bent ["text", "draws"] := def_mk X G a23 l23 c23 k23 fun _ _ _ _ _ _ us hl => match us, hl with | [_, _], _ => rfl
  have D_law : DefAt K mg "law" s_law ["script"] := def_mk X G a24 l24 c24 k24 fun _ _ _ _ _ _ us hl => match us, hl with | [_], _ => rfl
  have XT0 : XT K mg ⟨C0, C1, C2, C3, C4, C5, C6, C7, C8, C9, C10, C11, C12, C13, C14, C15, C16⟩ := ⟨PySem.W.mg_of X G xA0, ⟨_, _, _, _, _, _, _, _, _, _, _, _, _, _, xL0⟩, PySem.W.mg_of X G xA1, ⟨_, _, _, _, _, _, _, _, _, _, _, _, _, _, xL1⟩, PySem.W.mg_of X G xA2, ⟨_, _, _, _, _, _, _, _, _, _, _, _, _, _, xL2⟩, PySem.W.mg_of X G xA3, ⟨_, _, _, _, _, _, _, _, _, _, _, _, _, _, xL3⟩, PySem.W.mg_of X G xA4, ⟨_, _, _, _, _, _, _, _, _, _, _, _, _, _, xL4⟩, PySem.W.mg_of X G xA5, ⟨_, _, _, _, _, _, _, _, _, _, _, _, _, _, xL5⟩, PySem.W.mg_of X G xA6, ⟨_, _, _, _, _, _, _, _, _, _, _, _, _, _, xL6⟩, PySem.W.mg_of X G xA7, ⟨_, _, _, _, _, _, _, _, _, _, _, _, _, _, xL7⟩, PySem.W.mg_of X G xA8, ⟨_, _, _, _, _, _, _, _, _, _, _, _, _, _, xL8⟩, PySem.W.mg_of X G xA9, ⟨_, _, _, _, _, _, _, _, _, _, _, _, _, _, xL9⟩, PySem.W.mg_of X G xA10, ⟨_, _, _, _, _, _, _, _, _, _, _, _, _, _, xL10⟩, PySem.W.mg_of X G xA11, ⟨_, _, _, _, _, _, _, _, _, _, _, _, _, _, xL11⟩, PySem.W.mg_of X G xA12, ⟨_, _, _, _, _, _, _, _, _, _, _, _, _, _, xL12⟩, PySem.W.mg_of X G xA13, ⟨_, _, _, _, _, _, _, _, _, _, _, _, _, _, xL13⟩, PySem.W.mg_of X G xA14, ⟨_, _, _, _, _, _, _, _, _, _, _, _, _, _, xL14⟩, PySem.W.mg_of X G xA15, ⟨_, _, _, _, _, _, _, _, _, _, _, _, _, _, xL15⟩, PySem.W.mg_of X G xA16, ⟨_, _, _, _, _, _, _, _, _, _, _, _, _, _, xL16⟩, xNe, xHn, xHt⟩
  have Y_NoText : XD K C13 := ⟨yK13, yE13, yG13, yT13, yC13⟩
  have e := hfa.symm.trans (PySem.W.mg_of X G a24)
  cases e
  refine ⟨PySem.W.fnOf "law" "law" (defArgs s_law) (defBody s_law) (defScope s_law) .none kV24 dc24 pm24 an24 cd24 ct24, fun s v => .of_eq rfl, fun base _ _ => ?_⟩
  have B_ValueError := PySem.W.mg_none_of X G z_ValueError
  have B_abs := PySem.W.mg_none_of X G z_abs
  have B_all := PySem.W.mg_none_of X G z_all
  have B_bool := PySem.W.mg_none_of X G z_bool
  have B_int := PySem.W.mg_none_of X G z_int
  have B_isinstance := PySem.W.mg_none_of X G z_isinstance
  have B_len := PySem.W.mg_none_of X G z_len
  have B_list := PySem.W.mg_none_of X G z_list
  have B_max := PySem.W.mg_none_of X G z_max
  have B_min := PySem.W.mg_none_of X G z_min
  have B_range := PySem.W.mg_none_of X G z_range
  have B_str := PySem.W.mg_none_of X G z_str
  have B_tuple := PySem.W.mg_none_of X G z_tuple
  have B_zip := PySem.W.mg_none_of X G z_zip
  have T_COUNTS_BELOW : ∃ t, mg "COUNTS_BELOW" = some (.int COUNTS_BELOW_val t) := ⟨_, PySem.W.mg_of X G q_COUNTS_BELOW⟩
  have T_MOST_FIGURES : ∃ t, mg "MOST_FIGURES" = some (.int MOST_FIGURES_val t) := ⟨_, PySem.W.mg_of X G q_MOST_FIGURES⟩
  have G_law_draws := ok_law_draws (P := l.prog) (w := w) (base := base) D_law_draws B_len B_int
  have G_law_draw := ok_law_draw (P := l.prog) (w := w) (base := base) D_law_draw
  have G_law_figures := ok_law_figures (P := l.prog) (w := w) (base := base) D_law_figures B_range G_law_draw
  have G_law_great_count := ok_law_great_count (P := l.prog) (w := w) (base := base) D_law_great_count B_abs G_law_figures G_law_draw
  have G_law_bottom := ok_law_bottom (P := l.prog) (w := w) (base := base) D_law_bottom B_abs G_law_draw G_law_figures
  have G_law_stair := ok_law_stair (P := l.prog) (w := w) (base := base) D_law_stair B_abs G_law_bottom G_law_draw G_law_figures
  have G_law_short_stair := ok_law_short_stair (P := l.prog) (w := w) (base := base) D_law_short_stair B_int G_law_stair
  have G_is_whole := ok_is_whole (P := l.prog) (w := w) (base := base) D_is_whole B_isinstance B_int B_bool
  have G_is_stair := ok_is_stair (P := l.prog) (w := w) (base := base) D_is_stair B_len B_isinstance B_tuple B_all G_is_whole
  have G_need_stair := ok_need_stair (P := l.prog) (w := w) (base := base) D_need_stair G_is_stair
  have G_need_count := ok_need_count (P := l.prog) (w := w) (base := base) D_need_count T_COUNTS_BELOW
  have G_follows := ok_follows (P := l.prog) (w := w) (base := base) D_follows
  have G_paper_of := ok_paper_of (P := l.prog) (w := w) (base := base) D_paper_of G_need_stair G_need_count G_follows
  have G_paper_text := ok_paper_text (P := l.prog) (w := w) (base := base) D_paper_text B_str
  have G_law_number := ok_law_number (P := l.prog) (w := w) (base := base) D_law_number B_int B_len
  have G_law_read := ok_law_read (P := l.prog) (w := w) (base := base) D_law_read B_tuple B_len G_law_number
  have G_need_text := ok_need_text (P := l.prog) (w := w) (base := base) D_need_text B_isinstance B_str
  have G_number_in := ok_number_in (P := l.prog) (w := w) (base := base) D_number_in B_len B_all B_int T_MOST_FIGURES
  have G_read_paper := ok_read_paper (P := l.prog) (w := w) (base := base) D_read_paper B_tuple B_len G_need_text G_number_in
  have R_need_text := okR_need_text (P := l.prog) (w := w) (base := base) D_need_text B_isinstance B_str XT0 Y_NoText
  have R_read_paper := okR_read_paper (P := l.prog) (w := w) (base := base) D_read_paper B_tuple B_len XT0 Y_NoText G_need_text R_need_text G_number_in
  have G_law_kind_of := ok_law_kind_of (P := l.prog) (w := w) (base := base) D_law_kind_of B_isinstance B_ValueError B_zip XT0
  have G_law_told := ok_law_told (P := l.prog) (w := w) (base := base) D_law_told XT0 Y_NoText G_read_paper R_read_paper G_law_kind_of
  have G_law_signs := ok_law_signs (P := l.prog) (w := w) (base := base) D_law_signs
  have G_law_spoilt := ok_law_spoilt (P := l.prog) (w := w) (base := base) D_law_spoilt B_len B_int G_law_signs G_law_draw
  have G_law_bent := ok_law_bent (P := l.prog) (w := w) (base := base) D_law_bent B_len B_max G_law_draw G_law_spoilt
  exact ok_law (fun_mk (st := s_law) l24 c24 k24) B_range B_max B_min B_len B_tuple B_list B_str B_isinstance B_int G_law_draws G_law_draw G_law_great_count G_law_short_stair G_paper_of G_law_figures G_paper_text G_law_read G_law_told G_law_bent
theorem walk {l : PySem.W.OpenLaw} {q : Program} {loose : List Str} {XP : (Str → Option Value) → Heap → Prop} {YP : World → Heap → Prop} {d : DefRec} {K : Params → PySem.W.Frag} (hn : l.most = some 63) (hdf : d.params.defaults = [])
    (hY : ∀ (w : World) (h : Heap), YP w h → (K w.params).In h)
    (F : ∀ (w : World) (mg : Str → Option Value) (fa : Addr) (h : Heap), (K w.params).In h → h.Ns mainGlobals mg → mg d.name = some (.ref fa) →
      ∃ fd : FuncData, (∀ (s : Shared) (u : Value), BindsTo s fd ⟨[u], []⟩ [("script", u)]) ∧ ∀ base : Heap, (K w.params).In base → base.Ns mainGlobals mg → FnOk l.prog w (K w.params) mg base CX0 7 fa fd ["script"] (sp_law (K w.params))) :
    PySem.W.WalkO q loose XP YP l.row.toRowW d [] (fun f vs => PySem.call f vs) :=
  L2.walk_of (n := 63) (k := 7) (x := "script") (CX := fun _ => CX0) (sp := fun w => sp_law (K w.params)) hn (by decide) hdf ⟨rfl, by decide, by decide⟩ hY F (fun _ _ a ns hl _ hS => ⟨a, ns, rfl, hS, hl, fun _ => rfl⟩) fun _ _ _ _ _ z => z
end Sd
open PySem PySem.W PyProof.Rows
set_option maxRecDepth 100000 in
set_option maxHeartbeats 0 in
theorem PySem.Challenge.cw_stairsum_k52_texts_of_papers_holds : PySem.Challenge.rw_stairsum_k52_texts_of_papers.Holds := by
  w_on; o_law; k_head; (case hw => w_witness2)
  k_fill
  refine Sd.walk (l := PySem.Challenge.rw_stairsum_k52_texts_of_papers) rfl rfl (fun w h Y => PySem.W.kIn_of Y) ?F
  case F =>
    intro w mg fa h KX G hmg
    refine' Sd.all_mk KX G hmg ?a0 ?l0 ?c0 ?k0 ?a1 ?l1 ?c1 ?k1 ?a2 ?l2 ?c2 ?k2 ?a3 ?l3 ?c3 ?k3 ?a4 ?l4 ?c4 ?k4 ?a5 ?l5 ?c5 ?k5 ?a6 ?l6 ?c6 ?k6 ?a7 ?l7 ?c7 ?k7 ?a8 ?l8 ?c8 ?k8 ?a9 ?l9 ?c9 ?k9 ?a10 ?l10 ?c10 ?k10 ?a11 ?l11 ?c11 ?k11 ?a12 ?l12 ?c12 ?k12 ?a13 ?l13 ?c13 ?k13 ?a14 ?l14 ?c14 ?k14 ?a15 ?l15 ?c15 ?k15 ?a16 ?l16 ?c16 ?k16 ?a17 ?l17 ?c17 ?k17 ?a18 ?l18 ?c18 ?k18 ?a19 ?l19 ?c19 ?k19 ?a20 ?l20 ?c20 ?k20 ?a21 ?l21 ?c21 ?k21 ?a22 ?l22 ?c22 ?k22 ?a23 ?l23 ?c23 ?k23 ?a24 ?l24 ?c24 ?k24 ?z_ValueError ?z_abs ?z_all ?z_bool ?z_int ?z_isinstance ?z_len ?z_list ?z_max ?z_min ?z_range ?z_str ?z_tuple ?z_zip ?q_COUNTS_BELOW ?q_MOST_FIGURES ?xA0 ?xL0 ?xA1 ?xL1 ?xA2 ?xL2 ?xA3 ?xL3 ?xA4 ?xL4 ?xA5 ?xL5 ?xA6 ?xL6 ?xA7 ?xL7 ?xA8 ?xL8 ?xA9 ?xL9 ?xA10 ?xL10 ?xA11 ?xL11 ?xA12 ?xL12 ?xA13 ?xL13 ?xA14 ?xL14 ?xA15 ?xL15 ?xA16 ?xL16 ?xNe ?xHn ?xHt ?yK13 ?yE13 ?yG13 ?yT13 ?yC13
    (case a0 => k_is)
    (case l0 => k_is)
    (case c0 => k_is)
    (case k0 => k_is)
    (case a1 => k_is)
    (case l1 => k_is)
    (case c1 => k_is)
    (case k1 => k_is)
    (case a2 => k_is)
    (case l2 => k_is)
    (case c2 => k_is)
    (case k2 => k_is)
    (case a3 => k_is)
    (case l3 => k_is)
    (case c3 => k_is)
    (case k3 => k_is)
    (case a4 => k_is)
    (case l4 => k_is)
    (case c4 => k_is)
    (case k4 => k_is)
    (case a5 => k_is)
    (case l5 => k_is)
    (case c5 => k_is)
    (case k5 => k_is)
    (case a6 => k_is)
    (case l6 => k_is)
    (case c6 => k_is)
    (case k6 => k_is)
    (case a7 => k_is)
    (case l7 => k_is)
    (case c7 => k_is)
    (case k7 => k_is)
    (case a8 => k_is)
    (case l8 => k_is)
    (case c8 => k_is)
    (case k8 => k_is)
    (case a9 => k_is)
    (case l9 => k_is)
    (case c9 => k_is)
    (case k9 => k_is)
    (case a10 => k_is)
    (case l10 => k_is)
    (case c10 => k_is)
    (case k10 => k_is)
    (case a11 => k_is)
    (case l11 => k_is)
    (case c11 => k_is)
    (case k11 => k_is)
    (case a12 => k_is)
    (case l12 => k_is)
    (case c12 => k_is)
    (case k12 => k_is)
    (case a13 => k_is)
    (case l13 => k_is)
    (case c13 => k_is)
    (case k13 => k_is)
    (case a14 => k_is)
    (case l14 => k_is)
    (case c14 => k_is)
    (case k14 => k_is)
    (case a15 => k_is)
    (case l15 => k_is)
    (case c15 => k_is)
    (case k15 => k_is)
    (case a16 => k_is)
    (case l16 => k_is)
    (case c16 => k_is)
    (case k16 => k_is)
    (case a17 => k_is)
    (case l17 => k_is)
    (case c17 => k_is)
    (case k17 => k_is)
    (case a18 => k_is)
    (case l18 => k_is)
    (case c18 => k_is)
    (case k18 => k_is)
    (case a19 => k_is)
    (case l19 => k_is)
    (case c19 => k_is)
    (case k19 => k_is)
    (case a20 => k_is)
    (case l20 => k_is)
    (case c20 => k_is)
    (case k20 => k_is)
    (case a21 => k_is)
    (case l21 => k_is)
    (case c21 => k_is)
    (case k21 => k_is)
    (case a22 => k_is)
    (case l22 => k_is)
    (case c22 => k_is)
    (case k22 => k_is)
    (case a23 => k_is)
    (case l23 => k_is)
    (case c23 => k_is)
    (case k23 => k_is)
    (case a24 => k_is)
    (case l24 => k_is)
    (case c24 => k_is)
    (case k24 => k_is)
    (case z_ValueError => k_is)
    (case z_abs => k_is)
    (case z_all => k_is)
    (case z_bool => k_is)
    (case z_int => k_is)
    (case z_isinstance => k_is)
    (case z_len => k_is)
    (case z_list => k_is)
    (case z_max => k_is)
    (case z_min => k_is)
    (case z_range => k_is)
    (case z_str => k_is)
    (case z_tuple => k_is)
    (case z_zip => k_is)
    (case q_COUNTS_BELOW => k_is)
    (case q_MOST_FIGURES => k_is)
    (case xA0 => k_is)
    (case xL0 => k_is)
    (case xA1 => k_is)
    (case xL1 => k_is)
    (case xA2 => k_is)
    (case xL2 => k_is)
    (case xA3 => k_is)
    (case xL3 => k_is)
    (case xA4 => k_is)
    (case xL4 => k_is)
    (case xA5 => k_is)
    (case xL5 => k_is)
    (case xA6 => k_is)
    (case xL6 => k_is)
    (case xA7 => k_is)
    (case xL7 => k_is)
    (case xA8 => k_is)
    (case xL8 => k_is)
    (case xA9 => k_is)
    (case xL9 => k_is)
    (case xA10 => k_is)
    (case xL10 => k_is)
    (case xA11 => k_is)
    (case xL11 => k_is)
    (case xA12 => k_is)
    (case xL12 => k_is)
    (case xA13 => k_is)
    (case xL13 => k_is)
    (case xA14 => k_is)
    (case xL14 => k_is)
    (case xA15 => k_is)
    (case xL15 => k_is)
    (case xA16 => k_is)
    (case xL16 => k_is)
    (case xNe => decide)
    (case xHn => k_is)
    (case xHt => k_is)
    (case yK13 => k_is)
    (case yE13 => k_exc)
    (case yG13 => k_is)
    (case yT13 => k_is)
    (case yC13 => k_is)

