import PyProof.Rows.All
import Wide.All
import OpenK.AllK
import Wide.FinOn
import HandS.ForMost
import HandS.Exc
import HandS.TryOnly
import HandS.ExcOwn
import HandS.WordsExc
import HandS.Wide
import HandS.WideMore
import HandS.Flow
import HandS.IsInst
import HandS.Style
import HandS.SortInts
import HandS.TupAny
import HandS.Flt
import HandS.Zip
import PyProof.LongRange
import HandS.HotCalls
import HandS.ExcIs
import HandS.ExcCtx
import HandS.Iter
import HandS.Comp
import PySem.Challenge.RW_stairsum_k41_whole_walkers
set_option Elab.async false
set_option linter.all false
set_option maxRecDepth 100000
set_option maxHeartbeats 4000000
set_option Elab.async false
set_option linter.all false
set_option maxRecDepth 100000
set_option maxHeartbeats 4000000
/-! The prelude: heaps, readings step by step, sizes, defs of the top by name. -/
namespace Sd
open PySem PySem.Spec PyProof.Rows L2

/-! ### heaps -/
def Ex (H H' : Hp) : Prop := ∀ a o, H a = some o → H' a = some o
/-- all but what stands at d is kept -/
def Kp (d : Addr) (H H' : Hp) : Prop := ∀ a o, a ≠ d → H a = some o → H' a = some o
theorem Ex.at {H H' : Hp} {a : Addr} {o : HO} (e : Ex H H') (h : H a = some o) : H' a = some o := e a o h
theorem Ex.refl {H : Hp} : Ex H H := fun _ _ h => h
theorem Ex.trans {H H1 H2 : Hp} (a : Ex H H1) (b : Ex H1 H2) : Ex H H2 := fun x o h => b x o (a x o h)
theorem Ex.kp {H H' : Hp} {d : Addr} (e : Ex H H') : Kp d H H' := fun a o _ h => e a o h
theorem Kp.refl {H : Hp} {d : Addr} : Kp d H H := fun _ _ _ h => h
theorem Kp.trans {H H1 H2 : Hp} {d : Addr} (a : Kp d H H1) (b : Kp d H1 H2) : Kp d H H2 := fun x o n h => b x o n (a x o n h)
theorem Ex.kpd {H H1 H2 : Hp} {d : Addr} (e : Ex H H1) (n : H d = none) (b : Kp d H1 H2) : Ex H H2 := fun x o h => b x o (ne_of_none h n) (e x o h)
theorem Ex.new {H : Hp} {p : Addr} {o : HO} (h : H p = none) : Ex H (upd H p o) := fun a u e => by
  rw [upd_ne (ne_of_none e h)]
  exact e
theorem Kp.upd {H : Hp} {d : Addr} {o : HO} : Kp d H (upd H d o) := fun a u n e => by
  rw [upd_ne n]
  exact e
theorem free_back {H H' : Hp} {p : Addr} (e : Ex H H') (h : H' p = none) : H p = none := by
  cases h1 : H p with
  | none => rfl
  | some o =>
    rw [e p o h1] at h
    cases h
theorem rd_up {H H' : Hp} {a : Addr} {u : HO} (e : Ex H H') (h : Rd H a u) : Rd H' a u := by
  rcases h with h | ⟨o, h⟩
  · exact Or.inl (e a _ h)
  · exact Or.inr ⟨o, e a _ h⟩
theorem sql_up {K : PySem.W.Frag} {H H' : Hp} {a : Addr} {xs : List V} (e : Ex H H') (h : SqL K H a xs) : SqL K H' a xs := by
  rcases h with h | h
  · exact Or.inl (rd_up e h)
  · exact Or.inr h
theorem sqt_up {K : PySem.W.Frag} {H H' : Hp} {a : Addr} {xs : List V} (e : Ex H H') (h : SqT K H a xs) : SqT K H' a xs := by
  rcases h with h | h
  · exact Or.inl (rd_up e h)
  · exact Or.inr h
/-- the list of drawn digits at d -/
def Dr (H : Hp) (d : Addr) : Prop := ∃ x y : Int, H d = some (.lst [.int x, .int y]) ∧ 0 ≤ y ∧ y < 2147483647
theorem Dr.up {H H' : Hp} {d : Addr} (D : Dr H d) (e : Ex H H') : Dr H' d := by
  obtain ⟨x, y, h, r⟩ := D
  exact ⟨x, y, e _ _ h, r⟩
theorem Kp.tup {H H' : Hp} {d p : Addr} {xs : List V} (k : Kp d H H') (D : Dr H d) (h : H p = some (.tup xs)) : H' p = some (.tup xs) := by
  obtain ⟨x, y, e, _⟩ := D
  exact k _ _ (ne_of h e (by intro z; cases z)) h
theorem Kp.frz {H H' : Hp} {d p : Addr} {o : Obj} {u : HO} (k : Kp d H H') (D : Dr H d) (h : H p = some (.frz o u)) : H' p = some (.frz o u) := by
  obtain ⟨x, y, e, _⟩ := D
  exact k _ _ (ne_of h e (by intro z; cases z)) h
theorem Dr.free {H : Hp} {d p : Addr} (D : Dr H d) (h : H p = none) : p ≠ d := fun e => by
  obtain ⟨x, y, k, _⟩ := D
  rw [e, k] at h
  cases h
theorem free_kp {H H' : Hp} {d p : Addr} (e : Kp d H H') (D' : Dr H' d) (h : H' p = none) : H p = none := by
  cases q : H p with
  | none => rfl
  | some o =>
    rw [e p o (D'.free h) q] at h
    cases h
theorem sqt_kp {K : PySem.W.Frag} {H H' : Hp} {d a : Addr} {xs : List V} (e : Kp d H H') (D : Dr H d) (h : SqT K H a xs) : SqT K H' a xs := by
  rcases h with (h | ⟨o, h⟩) | h
  · exact Or.inl (Or.inl (e.tup D h))
  · exact Or.inl (Or.inr ⟨o, e.frz D h⟩)
  · exact Or.inr h

/-! ### sizes -/
def Sz (n : Nat) (x : Int) : Prop := x.natAbs < 2 ^ n
theorem Sz.mono {n m : Nat} {x : Int} (h : Sz n x) (l : n ≤ m) : Sz m x := Nat.lt_of_lt_of_le h (Nat.pow_le_pow_right (by decide) l)
theorem Sz.mul {n m : Nat} {x y : Int} (h : Sz n x) (k : Sz m y) : Sz (n + m) (x * y) := wide_lt h k
theorem Sz.add {n m : Nat} {x y : Int} (h : Sz n x) (k : Sz m y) : Sz (n + m + 1) (x + y) := by
  have h' : x.natAbs < 2 ^ n := h
  have k' : y.natAbs < 2 ^ m := k
  have a : 2 ^ n ≤ 2 ^ (n + m) := Nat.pow_le_pow_right (by decide) (Nat.le_add_right _ _)
  have b : 2 ^ m ≤ 2 ^ (n + m) := Nat.pow_le_pow_right (by decide) (Nat.le_add_left _ _)
  show (x + y).natAbs < 2 ^ (n + m + 1)
  rw [Nat.pow_succ]
  omega
theorem Sz.neg {n : Nat} {x : Int} (h : Sz n x) : Sz n (-x) := by
  show (-x).natAbs < 2 ^ n
  rw [Int.natAbs_neg]
  exact h
theorem Sz.sub {n m : Nat} {x y : Int} (h : Sz n x) (k : Sz m y) : Sz (n + m + 1) (x - y) := by
  have := h.add k.neg
  rw [Int.sub_eq_add_neg]
  exact this
theorem Sz.div {n : Nat} {x y : Int} (h : Sz n x) (p : 0 < y) : Sz n (x / y) := by
  have h' : x.natAbs < 2 ^ n := h
  show (x / y).natAbs < 2 ^ n
  have l : (x / y).natAbs ≤ x.natAbs := by
    have e := Int.emod_add_mul_ediv x y
    have e1 := Int.emod_nonneg x (show y ≠ 0 by omega)
    have e2 := Int.emod_lt_of_pos x p
    by_cases hx : 0 ≤ x
    · have q0 : 0 ≤ x / y := Int.ediv_nonneg hx (by omega)
      have q1 : x / y ≤ x := Int.ediv_le_self _ hx
      omega
    · have q0 : x / y < 0 := Int.ediv_neg_of_neg_of_pos (by omega) p
      have q1 : x ≤ x / y := by
        have : (x / y) * y ≤ (x / y) * 1 := Int.mul_le_mul_of_nonpos_left (by omega) (by omega)
        have e' : x / y * y ≥ x - (y - 1) := by
          have : y * (x / y) = x / y * y := Int.mul_comm _ _
          omega
        by_cases hq : x / y = -1
        · omega
        · have q2 : x / y + 1 ≤ -1 := by omega
          have q3 : (x / y + 1) * y ≤ (x / y + 1) * 1 := Int.mul_le_mul_of_nonpos_left (by omega) (by omega)
          have q4 : (x / y + 1) * y = x / y * y + y := by rw [Int.add_mul, Int.one_mul]
          have : y * (x / y) = x / y * y := Int.mul_comm _ _
          omega
      omega
  omega
theorem Sz.mod {n : Nat} {x y : Int} (h : Sz n y) (p : 0 < y) : Sz n (x % y) := by
  have e1 := Int.emod_nonneg x (show y ≠ 0 by omega)
  have e2 := Int.emod_lt_of_pos x p
  have h' : y.natAbs < 2 ^ n := h
  show (x % y).natAbs < 2 ^ n
  omega
theorem Sz.le {n : Nat} {x y : Int} (h : Sz n y) (a : -y ≤ x) (b : x ≤ y) : Sz n x := by
  have h' : y.natAbs < 2 ^ n := h
  show x.natAbs < 2 ^ n
  omega
theorem Sz.lit {x : Int} (h : x.natAbs < 2 ^ 200 := by decide) : Sz 200 x := h
theorem mulW {i j : Int} {n m : Nat} (a : Sz n i) (b : Sz m j) (h : n + m ≤ 900000 := by decide) : CMulW i j :=
  wide_mul (a.mono (Nat.le_succ n)) (b.mono (Nat.le_succ m)) (Nat.succ_pos _) (Nat.succ_pos _) (by omega)
theorem divW {i j : Int} {n : Nat} (p : 0 < j) (a : Sz n j) (h : n ≤ 8999 := by decide) : CDivW i j :=
  wide_div p (a.mono (Nat.le_succ n)) (Nat.succ_pos _) (by omega)

/-- a product of two numbers, one small or both of a known size -/
def CMulX (i j : Int) : Prop := CMul i j ∨ CMulW i j
theorem op_mulX {X : Cx} : OpR X (binaryOp .Mult) (rI CMulX fun i j => .int (i * j)) := opI fun _ _ _ _ _ _ _ hc q => mul_int q (hc.elim (fun h => h.ok) (fun h => h.ok))
theorem mulX {i j : Int} {n m : Nat} (a : Sz n i) (b : Sz m j) (h : n + m ≤ 900000 := by decide) : CMulX i j := .inr (mulW a b h)
theorem mulR {i j : Int} (h : -(2 ^ 64) < j ∧ j < 2 ^ 64) : CMulX i j := .inl (.inr h)
theorem mulL {i j : Int} (h : -(2 ^ 64) < i ∧ i < 2 ^ 64) : CMulX i j := .inl (.inl h)
/-! ### defs of the top, by their names -/
/-- the def named x stands as st -/
def DefAt (K : PySem.W.Frag) (mg : Str → Option Value) (x : Str) (st : Stmt) (ps : List Str) : Prop :=
  ∃ f fd, Fun K x x st f fd ∧ mg x = some (.ref f) ∧ Binds K fd ps []
/-- the def named x keeps the promise sp -/
def Has (P : Program) (w : World) (K : PySem.W.Frag) (mg : Str → Option Value) (base : Heap) (CX : CXT) (k : Nat) (x : Str) (ps : List Str) (sp : Sp) : Prop :=
  ∃ f fd, mg x = some (.ref f) ∧ PySem.W.keepIn K (.ref f) = true ∧ Binds K fd ps [] ∧ FnOk P w K mg base CX k f fd ps sp
theorem def_mk {K : PySem.W.Frag} {h : Heap} {mg : Str → Option Value} {x : Str} {st : Stmt} {ps : List Str} {f : Addr} {oc : Value} {od an : Option Addr} {osl : Array (Option Value)} {kV doc pm cdv ct : Value} (X : K.In h) (G : h.Ns mainGlobals mg)
    (a : PySem.W.nsIn K mainGlobals x = some (some (.ref f))) (l : K.lookup f = some ⟨oc, od, .func (PySem.W.fnOf x x (defArgs st) (defBody st) (defScope st) .none kV doc pm an cdv ct), osl⟩)
    (c : PySem.W.codeIn K cdv x = true) (k : PySem.W.keepIn K (.ref f) = true)
    (b : ∀ (kV doc pm : Value) (an : Option Addr) (cdv ct : Value) (us : List Value), us.length = ps.length → bindArgs (PySem.W.fnOf x x (defArgs st) (defBody st) (defScope st) .none kV doc pm an cdv ct) ⟨us, []⟩ = pure (ps.zip us)) : DefAt K mg x st ps :=
  ⟨f, _, fun_mk l c k, PySem.W.mg_of X G a, (fun_mk l c k).binds b⟩
section
variable {P : Program} {w : World} {K : PySem.W.Frag} {mg : Str → Option Value} {base : Heap}
theorem DefAt.ok {x : Str} {st : Stmt} {N ps : List Str} {k : Nat} {sp : Sp} (D : DefAt K mg x st ps) (S : FnScope N ps (defScope st)) (len : ∀ vs H Q E, sp vs H Q E → vs.length = ps.length)
    (hbody : ∀ (f : Addr) (cdv : Value) (A : Around) (outer : List Env) (s : Shared) (H : Hp) (vs : List V) (Q : VK) (E : XK), Room k (A.deeper (envOfC x (defScope st) s.heap.objs.size f cdv)) → sp vs H Q E →
      ∃ t, PSs (cxOf CX0 P w K mg base N x (defScope st) f cdv A outer s H E).nox (defBody st) t ∧ t { nx := fun _ H' => Q .non H', rt := Q } (start N vs) H) : Has P w K mg base CX0 (k + 1) x ps sp := by
  obtain ⟨f, fd, F, m, b⟩ := D
  exact ⟨f, fd, m, F.kp, b, F.ok S len fun cdv A outer s H vs Q E hr h => hbody f cdv A outer s H vs Q E hr h⟩
theorem Has.mono {CX : CXT} {x : Str} {ps : List Str} {j k : Nat} {sp : Sp} (G : Has P w K mg base CX j x ps sp) (h : j ≤ k) : Has P w K mg base CX k x ps sp := by
  obtain ⟨f, fd, m, kp, b, F⟩ := G
  exact ⟨f, fd, m, kp, b, F.mono h⟩
end
theorem Has.alias {P : Program} {w : World} {K : PySem.W.Frag} {mg : Str → Option Value} {base : Heap} {CX : CXT} {x y : Str} {ps : List Str} {k : Nat} {sp : Sp} (G : Has P w K mg base CX k x ps sp) (e : mg y = mg x) : Has P w K mg base CX k y ps sp := by
  obtain ⟨f, fd, m, kp, b, F⟩ := G
  exact ⟨f, fd, e.trans m, kp, b, F⟩
/-- f(e, ..), f a def of the top; nothing is raised -/
def tCal (sp : Sp) (E : XK) (t : TA) : TE := fun σ H Q => t σ H fun vs H1 => sp vs H1 Q E
section
variable {X : Cx} {x : Str} {p pos : Pos} {e : Expr} {es : List Expr} {t : TA} {k : Nat} {ps : List Str} {sp : Sp}
theorem pcall (G : Has X.prog X.w X.K X.mg X.base CX0 k x ps sp) (hr : Room k X.A) (ha : PA X (e :: es) t) (hg : Gl X x := by rfl)
    (hdb : (x == ("__debug__" : Str)) = false := by decide) (he : starEach (e :: es) X.env = (false, eval e X.env) :: starEach es X.env := by rfl) (hpl : (backTo pos (starEach es X.env)).any (·.1) = false := by rfl) :
    PE X (.Call (.Name x p) (e :: es) [] pos) (tCal sp E0 t) := by
  obtain ⟨f, fd, m, kp, b, F⟩ := G
  have q := pe_call (p := p) F hr hg m kp b (dvs := []) .nil pass0 ha hdb he hpl
  refine ⟨fun pins s σ H Q I h => q.run pins s σ H Q I ?_⟩
  have h' : t σ H fun vs H1 => sp vs H1 Q E0 := h
  show t σ H fun vs H1 => sp (vs ++ []) H1 Q E0
  have ee : (fun (vs : List V) (H1 : Hp) => sp (vs ++ []) H1 Q E0) = fun vs H1 => sp vs H1 Q E0 := by
    funext vs H1
    rw [List.append_nil]
  rw [ee]
  exact h'
end

theorem cx_K {CX : CXT} {P : Program} {w : World} {K : PySem.W.Frag} {mg : Str → Option Value} {base : Heap} {N : List Str} {qual : Str} {scope : Scope} {f : Addr} {cd : Value} {A : Around} {outer : List Env} {s : Shared} {H : Hp} {E : XK} :
    (cxOf CX P w K mg base N qual scope f cd A outer s H E).K = K := rfl
/-- a statement, then the rest, with a word between them -/
def tCut (t u : TS) : TS := fun D σ H => ∃ M : L2.St → Hp → Prop, t { D with nx := M } σ H ∧ ∀ σ' H', M σ' H' → u D σ' H'
theorem pcut {X : Cx} {st : Stmt} {rest : List Stmt} {t u : TS} (h1 : PS X st t) (h2 : PSs X rest u) : PSs X (st :: rest) (tCut t u) := by
  refine ⟨fun pins s σ H D I h => ?_⟩
  obtain ⟨M, hm, hu⟩ := h
  refine wpAny_execs_cons (thn (h1.run pins s σ H { D with nx := M } I hm) fun f s1 q => ?_)
  cases f with
  | next =>
    obtain ⟨σ', H', I', q⟩ := q
    exact h2.run pins s1 σ' H' D I' (hu σ' H' q)
  | ret v => exact q
  | brk => exact q
  | cont => exact q
/-- a op b op c op d, a test -/
def tChain3 (r r' r'' : R2) (ta tb tc td : TE) : TT := fun σ H Q => ta σ H fun x H1 => tb σ H1 fun y H2 => r x y H2 fun z H3 => ∃ k, z = .bl k ∧
  (if k = true then tc σ H3 fun w' H4 => r' y w' H4 fun z2 H5 => ∃ k2, z2 = .bl k2 ∧ (if k2 = true then td σ H5 fun u' H6 => r'' w' u' H6 fun z3 H7 => ∃ k3, z3 = .bl k3 ∧ Q k3 H7 else Q false H5) else Q false H3)
theorem pt_chain3 {X : Cx} {a b c d : Expr} {ta tb tc td : TE} {pos : Pos} {op op' op'' : CmpOp} {r r' r'' : R2} (ho : OpR X (compareOp op) r) (ho' : OpR X (compareOp op') r') (ho'' : OpR X (compareOp op'') r'') (ha : PE X a ta) (hb : PE X b tb) (hc : PE X c tc) (hd : PE X d td)
    (hm : lastMarks [op, op', op''] [b, c, d] = false := by with_unfolding_all rfl) : PT X (.Compare a [op, op', op''] [b, c, d] pos) (tChain3 r r' r'' ta tb tc td) := by
  refine ⟨fun pins s σ H Q I h => ?_⟩
  refine isTrue_chain (thn (ha.run pins s σ H _ I h) fun v s1 ⟨x, H1, I1, r1, q1⟩ => test_link (thn (hb.run pins s1 σ H1 _ I1 q1) fun u s2 ⟨y, H2, I2, r2, q2⟩ =>
    thn (ho pins s2 σ H2 x y v u _ I2 r1 r2 q2) fun d s3 ⟨z, H3, I3, r3, k, e, q3⟩ => ?_)) hm
  subst e
  cases r3
  refine wpAny_truthy_bool ?_
  cases k with
  | false => exact ite_ff ⟨H3, I3, q3⟩
  | true =>
    refine ite_tt (test_link (thn (hc.run pins s3 σ H3 _ I3 q3) fun w' s4 ⟨z', H4, I4, r4, q4⟩ => thn (ho' pins s4 σ H4 y z' u w' _ I4 r2 r4 q4) fun d' s5 ⟨z2, H5, I5, r5, k2, e2, q5⟩ => ?_))
    subst e2
    cases r5
    refine wpAny_truthy_bool ?_
    cases k2 with
    | false => exact ite_ff ⟨H5, I5, q5⟩
    | true =>
      refine ite_tt (test_last (thn (hd.run pins s5 σ H5 _ I5 q5) fun w2 s6 ⟨z6, H6, I6, r6, q6⟩ => thn (ho'' pins s6 σ H6 z' z6 w' w2 _ I6 r4 r6 q6) fun d7 s7 ⟨z7, H7, I7, r7, k7, e7, q7⟩ => ?_))
      subst e7
      cases r7
      exact wpAny_truthy_bool ⟨H7, I7, q7⟩
/-! ### readings, step by step -/
section
variable {K : PySem.W.Frag} {σ : L2.St} {H : Hp} {Q : VK} {QT : Bool → Hp → Prop} {QA : List V → Hp → Prop} {ta tb tc te : TE} {t u : TT} {tr : TA} {v x y : V} {i j : Int} {D : Ends} {s1 s2 : TS}
theorem r_var {n : Nat} (h : σ[n]? = some (some v)) (k : Q v H) : tVar n σ H Q := ⟨v, h, k⟩
theorem r_c (k : Q v H) : tC v σ H Q := k
theorem r_op {r : R2} (k : ta σ H fun x H1 => tb σ H1 fun y H2 => r x y H2 Q) : tOp r ta tb σ H Q := k
theorem r_un {r : V → Hp → VK → Prop} (k : ta σ H fun x H1 => r x H1 Q) : tUn r ta σ H Q := k
theorem r_I0 {g : Int → Int → V} (k : Q (g i j) H) : rI0 g (.int i) (.int j) H Q := ⟨i, j, rfl, rfl, k⟩
theorem r_I {C : Int → Int → Prop} {g : Int → Int → V} (c : C i j) (k : Q (g i j) H) : rI C g (.int i) (.int j) H Q := ⟨i, j, rfl, rfl, c, k⟩
theorem r_mul (c : CMulX i j) (k : Q (.int (i * j)) H) : rI CMulX (fun i j => .int (i * j)) (.int i) (.int j) H Q := r_I c k
theorem r_div (c : CDivW i j) (k : Q (.int (i / j)) H) : rI CDivW (fun i j => .int (i / j)) (.int i) (.int j) H Q := r_I c k
theorem r_mod (c : 0 < j) (k : Q (.int (i % j)) H) : rI (fun _ j => 0 < j) (fun i j => .int (i % j)) (.int i) (.int j) H Q := ⟨i, j, rfl, rfl, c, k⟩
theorem r_pow (c : CPow i j) (k : Q (.int (i ^ j.toNat)) H) : rI CPow (fun i j => .int (i ^ j.toNat)) (.int i) (.int j) H Q := r_I c k
theorem r_p6 (k : Q (.int 1000000) H) : rI CPow (fun i j => .int (i ^ j.toNat)) (.int 10) (.int 6) H Q := r_I ⟨by decide, by decide, by decide⟩ (by rw [show (10 : Int) ^ Int.toNat 6 = 1000000 by decide +kernel]; exact k)
theorem r_p15 (k : Q (.int 1000000000000000) H) : rI CPow (fun i j => .int (i ^ j.toNat)) (.int 10) (.int 15) H Q := r_I ⟨by decide, by decide, by decide⟩ (by rw [show (10 : Int) ^ Int.toNat 15 = 1000000000000000 by decide +kernel]; exact k)
theorem r_p18 (k : Q (.int 1000000000000000000) H) : rI CPow (fun i j => .int (i ^ j.toNat)) (.int 10) (.int 18) H Q := r_I ⟨by decide, by decide, by decide⟩ (by rw [show (10 : Int) ^ Int.toNat 18 = 1000000000000000000 by decide +kernel]; exact k)
theorem r_p24 (k : Q (.int 1000000000000000000000000) H) : rI CPow (fun i j => .int (i ^ j.toNat)) (.int 10) (.int 24) H Q := r_I ⟨by decide, by decide, by decide⟩ (by rw [show (10 : Int) ^ Int.toNat 24 = 1000000000000000000000000 by decide +kernel]; exact k)
theorem r_p29 (k : Q (.int 100000000000000000000000000000) H) : rI CPow (fun i j => .int (i ^ j.toNat)) (.int 10) (.int 29) H Q := r_I ⟨by decide, by decide, by decide⟩ (by rw [show (10 : Int) ^ Int.toNat 29 = 100000000000000000000000000000 by decide +kernel]; exact k)
theorem r_p30 (k : Q (.int 1000000000000000000000000000000) H) : rI CPow (fun i j => .int (i ^ j.toNat)) (.int 10) (.int 30) H Q := r_I ⟨by decide, by decide, by decide⟩ (by rw [show (10 : Int) ^ Int.toNat 30 = 1000000000000000000000000000000 by decide +kernel]; exact k)
theorem r_p60 (k : Q (.int 1000000000000000000000000000000000000000000000000000000000000) H) : rI CPow (fun i j => .int (i ^ j.toNat)) (.int 10) (.int 60) H Q := r_I ⟨by decide, by decide, by decide⟩ (by rw [show (10 : Int) ^ Int.toNat 60 = 1000000000000000000000000000000000000000000000000000000000000 by decide +kernel]; exact k)
theorem r_U {g : Int → V} (k : Q (g i) H) : rU g (.int i) H Q := ⟨i, rfl, k⟩
theorem r_eqI (k : Q (.bl (decide (i = j))) H) : rEq (.int i) (.int j) H Q := ⟨rfl, by
  have e : decide (V.int i = V.int j) = decide (i = j) := by
    by_cases h : i = j
    · subst h
      rw [decide_eq_true rfl, decide_eq_true rfl]
    · rw [decide_eq_false h, decide_eq_false (fun z => h (V.int.inj z))]
  rw [e]
  exact k⟩
theorem r_neI (k : Q (.bl (!decide (i = j))) H) : rNe (.int i) (.int j) H Q := ⟨rfl, by
  have e : decide (V.int i = V.int j) = decide (i = j) := by
    by_cases h : i = j
    · subst h
      rw [decide_eq_true rfl, decide_eq_true rfl]
    · rw [decide_eq_false h, decide_eq_false (fun z => h (V.int.inj z))]
  rw [e]
  exact k⟩
theorem r_eqB {a b : Bool} (k : Q (.bl (a == b)) H) : rEq (.bl a) (.bl b) H Q := ⟨rfl, by rw [dec_bl]; exact k⟩
theorem r_neB {a b : Bool} (k : Q (.bl (!(a == b))) H) : rNe (.bl a) (.bl b) H Q := ⟨rfl, by rw [dec_bl]; exact k⟩
theorem r_eqS {a b : Str} (k : Q (.bl (a == b)) H) : rEq (.str a) (.str b) H Q := ⟨rfl, by rw [dec_str]; exact k⟩
theorem r_neS {a b : Str} (k : Q (.bl (!(a == b))) H) : rNe (.str a) (.str b) H Q := ⟨rfl, by rw [dec_str]; exact k⟩
theorem r_test (k : te σ H fun x H' => ∃ b, x = .bl b ∧ QT b H') : tTest te σ H QT := k
theorem r_tB (k : te σ H fun x H' => ∃ b, x = .bl b ∧ QT b H') : tB te σ H QT := k
theorem r_bl {b : Bool} (k : QT b H) : ∃ b', V.bl b = .bl b' ∧ QT b' H := ⟨b, rfl, k⟩
theorem r_not (k : t σ H fun b H1 => QT (!b) H1) : tNot t σ H QT := k
theorem r_and (k : t σ H fun b H1 => if b = true then u σ H1 QT else QT false H1) : tAnd t u σ H QT := k
theorem r_or (k : t σ H fun b H1 => if b = true then QT true H1 else u σ H1 QT) : tOr t u σ H QT := k
theorem r_notV (k : ta σ H fun x H1 => ∃ c, x = .bl c ∧ Q (.bl (!c)) H1) : tNotV ta σ H Q := k
theorem r_andV (k : ta σ H fun x H1 => ∃ c, x = .bl c ∧ if c = true then tb σ H1 Q else Q (.bl false) H1) : tAndV ta tb σ H Q := k
theorem r_orV (k : ta σ H fun x H1 => ∃ c, x = .bl c ∧ if c = true then Q (.bl true) H1 else tb σ H1 Q) : tOrV ta tb σ H Q := k
theorem r_blV {b : Bool} {R : Bool → Prop} (k : R b) : ∃ c, V.bl b = .bl c ∧ R c := ⟨b, rfl, k⟩
theorem r_chain {r r' : R2} (k : ta σ H fun x H1 => tb σ H1 fun y H2 => r x y H2 fun z H3 => ∃ k, z = .bl k ∧ (if k = true then tc σ H3 fun w' H4 => r' y w' H4 Q else Q (.bl false) H3)) : tChain r r' ta tb tc σ H Q := k
theorem r_chain3 {r r' r'' : R2} {td : TE} (k : ta σ H fun x H1 => tb σ H1 fun y H2 => r x y H2 fun z H3 => ∃ k, z = .bl k ∧ (if k = true then tc σ H3 fun w' H4 => r' y w' H4 fun z2 H5 => ∃ k2, z2 = .bl k2 ∧ (if k2 = true then td σ H5 fun u' H6 => r'' w' u' H6 fun z3 H7 => ∃ k3, z3 = .bl k3 ∧ QT k3 H7 else QT false H5) else QT false H3)) : tChain3 r r' r'' ta tb tc td σ H QT := k
theorem r_if (k : t σ H fun c H1 => if c = true then ta σ H1 Q else tb σ H1 Q) : tIf t ta tb σ H Q := k
theorem r_cons (k : ta σ H fun x H1 => tr σ H1 fun xs H2 => QA (x :: xs) H2) : tCons ta tr σ H QA := k
theorem r_nil (k : QA [] H) : tNil σ H QA := k
theorem r_cal {sp : Sp} {E : XK} (k : tr σ H fun vs H1 => sp vs H1 Q E) : tCal sp E tr σ H Q := k
/-- a new tuple, a new list -/
def NewT (xs : List V) (H : Hp) (Q : VK) : Prop := xs.length ≤ sizeLine ∧ ∀ p, H p = none → Q (.ref p) (upd H p (.tup xs))
def NewL (xs : List V) (H : Hp) (Q : VK) : Prop := xs.length ≤ sizeLine ∧ ∀ p, H p = none → Q (.ref p) (upd H p (.lst xs))
theorem r_tup (k : tr σ H fun xs H1 => NewT xs H1 Q) : tTup tr σ H Q := k
theorem r_lst (k : tr σ H fun xs H1 => NewL xs H1 Q) : tLst tr σ H Q := k
theorem sz_of {n : Nat} (h : n ≤ 100000) : n ≤ sizeLine := Nat.le_trans h (by decide)
theorem r_newT {xs : List V} (h : xs.length ≤ 100000) (k : ∀ p H1, H p = none → Ex H H1 → H1 p = some (.tup xs) → Q (.ref p) H1) : NewT xs H Q := ⟨sz_of h, fun p hp => k p _ hp (Ex.new hp) upd_same⟩
theorem r_newL {xs : List V} (h : xs.length ≤ 100000) (k : ∀ p H1, H p = none → Ex H H1 → H1 p = some (.lst xs) → Q (.ref p) H1) : NewL xs H Q := ⟨sz_of h, fun p hp => k p _ hp (Ex.new hp) upd_same⟩
theorem r_ixT {p : Addr} {xs : List V} (h : SqT K H p xs) (a : atI xs i = some v) (k : Q v H) : rIxT K (.ref p) (.int i) H Q := ⟨p, xs, i, v, rfl, rfl, h, a, k⟩
theorem r_ixL {p : Addr} {xs : List V} (h : SqL K H p xs) (a : atI xs i = some v) (k : Q v H) : rIxL K (.ref p) (.int i) H Q := ⟨p, xs, i, v, rfl, rfl, h, a, k⟩
/-! statements -/
theorem r_seq (k : s1 { D with nx := s2 D } σ H) : tSeq s1 s2 D σ H := k
theorem r_asg {n : Nat} (k : te σ H fun x H1 => D.nx (σ.set n (some x)) H1) : tAsg te (gName n) D σ H := k
theorem r_asgG {g : TG} (k : te σ H fun x H1 => g x σ H1 D.nx) : tAsg te g D σ H := k
theorem r_drop (k : te σ H fun _ H1 => D.nx σ H1) : tDrop te D σ H := k
theorem r_ret (k : te σ H D.rt) : tRet te D σ H := k
theorem r_retN (k : D.rt .non H) : tRetN D σ H := k
theorem r_ifS (k : t σ H fun b H1 => if b = true then s1 D σ H1 else s2 D σ H1) : tIfS t s1 s2 D σ H := k
theorem r_next (k : D.nx σ H) : tNext D σ H := k
theorem r_gTup {p : Addr} {xs : List V} {n : Nat} {g : TGs} {QS : L2.St → Hp → Prop} (h : SqT K H p xs) (l : xs.length = n) (k : g xs σ H QS) : gTup K n g (.ref p) σ H QS := ⟨p, xs, rfl, h, l, k⟩
theorem r_gCons {g : TG} {gs : TGs} {xs : List V} {QS : L2.St → Hp → Prop} (k : g x σ H fun σ' H' => gs xs σ' H' QS) : gCons g gs (x :: xs) σ H QS := ⟨x, xs, rfl, k⟩
theorem r_gNil {QS : L2.St → Hp → Prop} (k : QS σ H) : gNil [] σ H QS := ⟨rfl, k⟩
theorem r_gName {n : Nat} {QS : L2.St → Hp → Prop} (k : QS (σ.set n (some x)) H) : gName n x σ H QS := k
theorem r_par {n m : Nat} (k : tr σ H fun vs H1 => ∃ v w, vs = [v, w] ∧ D.nx ((σ.set n (some v)).set m (some w)) H1) : tPar n m tr D σ H := k
theorem r_parE {R : V → V → Prop} (k : R x y) : ∃ v w, [x, y] = [v, w] ∧ R v w := ⟨x, y, rfl, k⟩
theorem r_par3 {n m l : Nat} (k : tr σ H fun vs H1 => ∃ u v w, vs = [u, v, w] ∧ D.nx (((σ.set n (some u)).set m (some v)).set l (some w)) H1) : tPar3 n m l tr D σ H := k
theorem r_parE3 {z : V} {R : V → V → V → Prop} (k : R x y z) : ∃ u v w, [x, y, z] = [u, v, w] ∧ R u v w := ⟨x, y, z, rfl, k⟩
theorem r_aug {n : Nat} {f : Int → Int → Int} (h : σ[n]? = some (some (.int i))) (k : te σ H fun y H1 => ipI f (.int i) y H1 fun z H2 => D.nx (σ.set n (some z)) H2) : tAug n te (ipI f) D σ H := ⟨.int i, h, k⟩
theorem r_ipI {f : Int → Int → Int} (k : Q (.int (f i j)) H) : ipI f (.int i) (.int j) H Q := ⟨i, j, rfl, rfl, k⟩
theorem r_cut {t u : TS} (M : L2.St → Hp → Prop) (h : t { D with nx := M } σ H) (k : ∀ σ' H', M σ' H' → u D σ' H') : tCut t u D σ H := ⟨M, h, k⟩
/-! tests decided -/
theorem r_nx {f : L2.St → Hp → Prop} {g : VK} {b c : L2.St → Hp → Prop} (k : f σ H) : Ends.nx ⟨f, g, b, c⟩ σ H := k
theorem r_nxS {f : L2.St → Hp → Prop} {g : VK} {b c : L2.St → Hp → Prop} {n : Nat} {z : Option V} {l' : L2.St} (h : σ.set n z = l') (k : f l' H) : Ends.nx ⟨f, g, b, c⟩ (σ.set n z) H := by rw [h]; exact k
theorem set_z {x v : Option V} {l : L2.St} : List.set (x :: l) 0 v = v :: l := rfl
theorem set_s {x v : Option V} {n : Nat} {l l' : L2.St} (h : l.set n v = l') : List.set (x :: l) (n + 1) v = x :: l' := by rw [← h]; rfl
theorem set_in {v : Option V} {n : Nat} {e e' l' : L2.St} (h1 : e = e') (h2 : e'.set n v = l') : e.set n v = l' := by rw [h1]; exact h2
theorem r_rt {f : L2.St → Hp → Prop} {g : VK} {b c : L2.St → Hp → Prop} (k : g v H) : Ends.rt ⟨f, g, b, c⟩ v H := k
theorem not_t {b : Bool} (h : b = false) : (!b) = true := by rw [h]; rfl
theorem not_f {b : Bool} (h : b = true) : (!b) = false := by rw [h]; rfl
theorem if_T {b : Bool} {A B : Prop} (h : b = true) (k : A) : if b = true then A else B := by rw [if_pos h]; exact k
theorem if_F {b : Bool} {A B : Prop} (h : b = false) (k : B) : if b = true then A else B := by
  rw [h, if_neg Bool.false_ne_true]
  exact k
theorem if_2 {b : Bool} {A B : Prop} (h1 : b = true → A) (h2 : b = false → B) : if b = true then A else B := by
  cases b with
  | true => exact if_T rfl (h1 rfl)
  | false => exact if_F rfl (h2 rfl)
/-- what is set into the tuple of the draws -/
theorem r_setL {o : Addr} {xs : List V} {k0 : Nat} {z : V} {Qh : Hp → Prop} (h : H o = some (.lst xs)) (hi : ixN xs.length i = some k0) (k : Qh (upd H o (.lst (xs.set k0 z)))) : rSetL (.ref o) (.int i) z H Qh := ⟨o, xs, i, k0, rfl, rfl, h, hi, k⟩
theorem r_gSub {to ti : TE} {ts : TSet} {QS : L2.St → Hp → Prop} (k : to σ H fun o H1 => ti σ H1 fun i H2 => ts o i v H2 fun H3 => QS σ H3) : gSub to ti ts v σ H QS := k
end

/-! calls of built-ins, walks -/
def rLen (K : PySem.W.Frag) : List V → Hp → VK → Prop := fun xs H Q => ∃ p ys, xs = [.ref p] ∧ (SqL K H p ys ∨ SqT K H p ys) ∧ Q (.int ys.length) H
theorem cl_len {X : Cx} : CallR X (.builtin "len") (rLen X.K) := call_len_seq
def rLenStr : List V → Hp → VK → Prop := fun xs H Q => ∃ z, xs = [.str z] ∧ z.length ≤ sizeLine ∧ Q (.int z.length) H
theorem cl_lenS {X : Cx} : CallR X (.builtin "len") rLenStr := call_len_str
def rAbs : List V → Hp → VK → Prop := fun xs H Q => ∃ i, xs = [.int i] ∧ Q (.int (if i < 0 then -i else i)) H
theorem cl_abs {X : Cx} : CallR X (.builtin "abs") rAbs := call_abs
def rMax2 : List V → Hp → VK → Prop := fun xs H Q => ∃ i j, xs = [.int i, .int j] ∧ Q (.int (if j > i then j else i)) H
def rMin2 : List V → Hp → VK → Prop := fun xs H Q => ∃ i j, xs = [.int i, .int j] ∧ Q (.int (if j < i then j else i)) H
theorem cl_max2 {X : Cx} (hc : X.calm = true) : CallR X (.builtin "max") rMax2 := call_max2 hc
theorem cl_min2 {X : Cx} (hc : X.calm = true) : CallR X (.builtin "min") rMin2 := call_min2 hc
def rMin3 : List V → Hp → VK → Prop := fun xs H Q => ∃ i j k, xs = [.int i, .int j, .int k] ∧ Q (.int (min (min i j) k)) H
theorem nu_min3 (i j k : Int) : nuMin3 (.int i) (.int j) (.int k) = some (.int (min (min i j) k)) := by
  have h1 : (if decide (j < i) = true then V.int j else V.int i) = V.int (min i j) := by
    by_cases h : j < i
    · rw [decide_eq_true h, if_pos rfl, show min i j = j by omega]
    · rw [decide_eq_false h, if_neg (by decide), show min i j = i by omega]
  have h2 : (if decide (k < min i j) = true then V.int k else V.int (min i j)) = V.int (min (min i j) k) := by
    by_cases h : k < min i j
    · rw [decide_eq_true h, if_pos rfl, show min (min i j) k = k by omega]
    · rw [decide_eq_false h, if_neg (by decide), show min (min i j) k = min i j by omega]
  rw [← h2, ← h1]
  unfold nuMin3
  show (some (if decide (j < i) = true then V.int j else V.int i)).bind _ = _
  rw [h1]
  rfl
theorem cl_min3 {X : Cx} (hc : X.calm = true) : CallR X (.builtin "min") rMin3 := fun pins s σ H xs us Q I r h => by
  obtain ⟨i, j, k, rfl, q⟩ := h
  exact call_min3Nu hc pins s σ H _ us Q I r ⟨_, _, _, _, rfl, nu_min3 i j k, q⟩
theorem r_min3 {H : Hp} {Q : VK} {i j k : Int} (q : Q (.int (min (min i j) k)) H) : rMin3 [.int i, .int j, .int k] H Q := ⟨i, j, k, rfl, q⟩
def rInt1 : List V → Hp → VK → Prop := fun xs H Q => (∃ i, xs = [.int i] ∧ Q (.int i) H) ∨ ∃ k, xs = [.bl k] ∧ Q (.int (if k then 1 else 0)) H
theorem cl_int1 {X : Cx} : CallR X (.type "int") rInt1 := call_int1
def rBool1 : List V → Hp → VK → Prop := fun xs H Q => (∃ i, xs = [.int i] ∧ Q (.bl (i != 0)) H) ∨ ∃ k, xs = [.bl k] ∧ Q (.bl k) H
theorem cl_bool1 {X : Cx} : CallR X (.type "bool") rBool1 := call_bool1
def rStrI : List V → Hp → VK → Prop := fun xs H Q => ∃ i, xs = [.int i] ∧ i.natAbs.log2 < 1920 ∧ Q (.str (toString i)) H
theorem cl_strI {X : Cx} : CallR X (.type "str") rStrI := call_str_int
section
variable {K : PySem.W.Frag} {σ : L2.St} {H : Hp} {Q : VK} {QT : Bool → Hp → Prop} {ta tb tc te : TE} {t u : TT} {tr : TA} {v x y : V} {i j : Int} {D : Ends} {s1 s2 : TS} {g : TG}
theorem r_CB {r : List V → Hp → VK → Prop} (k : tr σ H fun vs H1 => r vs H1 Q) : tCB r tr σ H Q := k
theorem r_lenL {p : Addr} {ys : List V} (h : SqL K H p ys) (k : Q (.int (ys.length : Nat)) H) : rLen K [.ref p] H Q := ⟨p, ys, rfl, .inl h, k⟩
theorem r_lenT {p : Addr} {ys : List V} (h : SqT K H p ys) (k : Q (.int (ys.length : Nat)) H) : rLen K [.ref p] H Q := ⟨p, ys, rfl, .inr h, k⟩
theorem r_lenS {z : Str} (h : z.length ≤ sizeLine) (k : Q (.int (z.length : Nat)) H) : rLenStr [.str z] H Q := ⟨z, rfl, h, k⟩
theorem r_abs (k : Q (.int (i.natAbs : Int)) H) : rAbs [.int i] H Q := ⟨i, rfl, by
  have e : (if i < 0 then -i else i) = (i.natAbs : Int) := by split <;> omega
  rw [e]
  exact k⟩
theorem r_max2 (k : Q (.int (max i j)) H) : rMax2 [.int i, .int j] H Q := ⟨i, j, rfl, by
  have e : (if j > i then j else i) = max i j := by split <;> omega
  rw [e]
  exact k⟩
theorem r_min2 (k : Q (.int (min i j)) H) : rMin2 [.int i, .int j] H Q := ⟨i, j, rfl, by
  have e : (if j < i then j else i) = min i j := by split <;> omega
  rw [e]
  exact k⟩
theorem r_intI (k : Q (.int i) H) : rInt1 [.int i] H Q := .inl ⟨i, rfl, k⟩
theorem r_intB {b : Bool} (k : Q (.int (if b = true then 1 else 0)) H) : rInt1 [.bl b] H Q := .inr ⟨b, rfl, k⟩
theorem r_isII (k : Q (.bl true) H) : rIsi K [.int i, .ty "int"] H Q := ⟨_, _, _, _, _, rfl, .ty _, .base (.int _), kit_ty (by decide +kernel), k⟩
theorem r_isIB (k : Q (.bl false) H) : rIsi K [.int i, .ty "bool"] H Q := ⟨_, _, _, _, _, rfl, .ty _, .base (.int _), kit_ty (by decide +kernel), k⟩
theorem r_isTT {p : Addr} {xs : List V} (h : H p = some (.tup xs)) (k : Q (.bl true) H) : rIsi K [.ref p, .ty "tuple"] H Q := ⟨_, _, _, _, _, rfl, .ty _, .base (.tup h), kit_ty (by decide +kernel), k⟩
theorem r_isLL {p : Addr} {xs : List V} (h : H p = some (.lst xs)) (k : Q (.bl true) H) : rIsi K [.ref p, .ty "list"] H Q := ⟨_, _, _, _, _, rfl, .ty _, .base (.lst h), kit_ty (by decide +kernel), k⟩
theorem r_isBB {b : Bool} (k : Q (.bl true) H) : rIsi K [.bl b, .ty "bool"] H Q := ⟨_, _, _, _, _, rfl, .ty _, .base (.bl _), kit_ty (by decide +kernel), k⟩
theorem r_isBI {b : Bool} (k : Q (.bl true) H) : rIsi K [.bl b, .ty "int"] H Q := ⟨_, _, _, _, _, rfl, .ty _, .base (.bl _), kit_ty (by decide +kernel), k⟩
theorem r_isSS {z : Str} (k : Q (.bl true) H) : rIsi K [.str z, .ty "str"] H Q := ⟨_, _, _, _, _, rfl, .ty _, .base (.str _), kit_ty (by decide +kernel), k⟩
theorem r_all {p : Addr} {bs : List Bool} (h : SqL K H p (bs.map V.bl)) (k : Q (.bl (bs.all id)) H) : rAll K [.ref p] H Q := ⟨p, bs, rfl, h, k⟩
theorem r_any {p : Addr} {bs : List Bool} (h : SqL K H p (bs.map V.bl)) (k : Q (.bl (bs.any id)) H) : rAny K [.ref p] H Q := ⟨p, bs, rfl, h, k⟩
/-- a loop over J -/
def ForB (J : It) (g : TG) (tb : TS) (D : Ends) (σ : L2.St) (H1 : Hp) : Prop := ∃ W : Nat → Nat → L2.St → Hp → Prop, (∃ m, W 0 m σ H1) ∧ ∀ i m σ H, W i m σ H →
  (J.stop i H ∧ D.nx σ H) ∨ (J.go i H ∧ ∃ Nx : L2.St → Hp → Prop, (∀ σ' H', Nx σ' H' → ∃ m', m' < m ∧ W (i + 1) m' σ' H') ∧ ∀ x H', J.yld i H x H' → g x σ H' fun σ2 H2 => tb { D with nx := Nx, ct := Nx, bk := D.nx } σ2 H2)
def Rng1 (vs : List V) (H : Hp) (R : It → Hp → Prop) : Prop := ∃ j : Int, vs = [.int j] ∧ -(2 ^ 62) ≤ j ∧ j < 2 ^ 62 ∧ R (Itr 0 j.toNat) H
def Rng2 (vs : List V) (H : Hp) (R : It → Hp → Prop) : Prop := ∃ i j : Int, vs = [.int i, .int j] ∧ R (Itr i (j - i).toNat) H
def iRngL (ta : TA) : TI := fun σ H R => ta σ H fun vs H1 => Rng2 vs H1 R
def ItL (K : PySem.W.Frag) (x : V) (H : Hp) (R : It → Hp → Prop) : Prop := ∃ a, x = .ref a ∧ (∃ xs, SqL K H a xs) ∧ R (Itl K a) H
def ItT (K : PySem.W.Frag) (x : V) (H : Hp) (R : It → Hp → Prop) : Prop := ∃ a, x = .ref a ∧ (∃ xs, SqT K H a xs) ∧ R (Itt K a) H
variable {R : It → Hp → Prop} {wi : TI}
theorem r_for (k : wi σ H fun J H1 => ForB J g s1 D σ H1) : tFor wi g s1 D σ H := k
theorem r_iRng1 (k : tr σ H fun vs H1 => Rng1 vs H1 R) : iRng1 tr σ H R := k
theorem r_iRng2 (k : tr σ H fun vs H1 => Rng2 vs H1 R) : iRngL tr σ H R := k
theorem r_iList (k : te σ H fun x H1 => ItL K x H1 R) : iList K te σ H R := k
theorem r_iTup (k : te σ H fun x H1 => ItT K x H1 R) : iTup K te σ H R := k
theorem r_rng1 (h1 : -(2 ^ 62) ≤ i) (h2 : i < 2 ^ 62) (k : R (Itr 0 i.toNat) H) : Rng1 [.int i] H R := ⟨i, rfl, h1, h2, k⟩
theorem r_rng2 (h : -(2 ^ 62) ≤ i ∧ i < 2 ^ 62 ∧ -(2 ^ 62) ≤ j ∧ j < 2 ^ 62) (k : R (Itr i (j - i).toNat) H) : Rng2 [.int i, .int j] H R := ⟨i, j, rfl, k⟩
theorem r_rngL (k : R (Itr i (j - i).toNat) H) : Rng2 [.int i, .int j] H R := ⟨i, j, rfl, k⟩
theorem r_ItL {p : Addr} {xs : List V} (h : SqL K H p xs) (k : R (Itl K p) H) : ItL K (.ref p) H R := ⟨p, rfl, ⟨xs, h⟩, k⟩
theorem r_ItT {p : Addr} {xs : List V} (h : SqT K H p xs) (k : R (Itt K p) H) : ItT K (.ref p) H R := ⟨p, rfl, ⟨xs, h⟩, k⟩
theorem for_rng {lo : Int} {n j : Nat} (Pv : Nat → L2.St → Hp → Prop) (h0 : Pv 0 σ H)
    (hs : ∀ i σ H, i < n → Pv i σ H → s1 { D with nx := Pv (i + 1), ct := Pv (i + 1), bk := D.nx } (σ.set j (some (.int (lo + i)))) H) (hd : ∀ σ H, Pv n σ H → D.nx σ H) : ForB (Itr lo n) (gName j) s1 D σ H := for_range Pv h0 hs hd
theorem for_lst {a : Addr} {xs : List V} (Pv : Nat → L2.St → Hp → Prop) (h0 : Pv 0 σ H) (hl : ∀ i σ H, i ≤ xs.length → Pv i σ H → SqL K H a xs)
    (hs : ∀ i x σ H, xs[i]? = some x → Pv i σ H → g x σ H fun σ2 H2 => s1 { D with nx := Pv (i + 1), ct := Pv (i + 1), bk := D.nx } σ2 H2) (hd : ∀ σ H, Pv xs.length σ H → D.nx σ H) : ForB (Itl K a) g s1 D σ H := for_list Pv h0 hl hs hd
theorem for_tp {a : Addr} {xs : List V} (Pv : Nat → L2.St → Hp → Prop) (h0 : Pv 0 σ H) (hl : ∀ i σ H, i ≤ xs.length → Pv i σ H → SqT K H a xs)
    (hs : ∀ i x σ H, xs[i]? = some x → Pv i σ H → g x σ H fun σ2 H2 => s1 { D with nx := Pv (i + 1), ct := Pv (i + 1), bk := D.nx } σ2 H2) (hd : ∀ σ H, Pv xs.length σ H → D.nx σ H) : ForB (Itt K a) g s1 D σ H := for_tup Pv h0 hl hs hd
/-- a comprehension over J -/
def LcB (J : It) (g : TG) (tt : TT) (te : TE) (vs : List Nat) (σ : L2.St) (H1 : Hp) (Q : VK) : Prop := ∀ D, H1 D = none → ∃ W : Nat → Nat → Hp → Prop, (∃ m, W 0 m (upd H1 D (.lst []))) ∧ ∀ i m H, W i m H →
  (J.stop i H ∧ Q (.ref D) H) ∨ (J.go i H ∧ ∃ Nx : Hp → Prop, (∀ H', Nx H' → ∃ m', m' < m ∧ W (i + 1) m' H') ∧ ∀ x H', J.yld i H x H' → g x (wipe σ vs) H' fun σ2 H2 => wipe σ2 vs = wipe σ vs ∧ tt σ2 H2 fun b H3 =>
    if b = true then te σ2 H3 fun y H4 => ∃ acc, H4 D = some (.lst acc) ∧ acc.length < sizeLine ∧ Nx (upd H4 D (.lst (acc ++ [y]))) else Nx H3)
theorem r_lc {vs : List Nat} (k : wi σ H fun J H1 => LcB J g t te vs σ H1 Q) : tLc wi g t te vs σ H Q := k
end
/-! ranges of any size -/
theorem turn_long {P : Program} {w : World} {K : PySem.W.Frag} {tg : Expr} (it : Addr) (lo : Int) (n : Nat) : Turn P w K tg (Itr lo n) [it] it (fun i h => IsLongIter h it (lo + (i : Nat) * 1) ((n : Int) - (i : Nat)) 1) where
  mem := List.mem_cons_self
  obj := fun i h st b hb => by
    obtain rfl : b = it := by simpa using hb
    exact ⟨_, st, fun v z => by
      have z' : Data.fields _ = Data.cell v := z
      cases z'⟩
  keep := fun i h h' st k => k it List.mem_cons_self _ st
  item := by
    intro X hP hw hK hc i pins s σ H E I hf st hg
    subst hP hw hK
    obtain ⟨f0, f1, f2, f3, f4, f5⟩ := hf it List.mem_cons_self
    refine (Walks.longrange (prog := X.prog) (w := X.w) (I.ok.hd hc) it lo 1 n).item i s _ _ hg st fun v h' tk hv st' kk => ?_
    obtain ⟨t, rfl⟩ := hv
    have I1 : Inv X pins σ H { s with heap := h', toks := tk } := I.turned (fun b o hb e => kk b o (by simpa using hb) e) f0 f1 f3 f4 f5
    exact ⟨_, rfl, go_of (s := { s with heap := h', toks := tk }) (n := "longrange_iterator") st' rfl rfl (by decide) ⟨.int (lo + i), H, I1, ⟨t, by rw [Int.mul_one]⟩, ⟨rfl, rfl⟩, st', fun b hb => (hf b hb).1⟩⟩
  done := by
    intro X hP hw hK hc i pins s σ H E I hf st hg
    subst hP hw hK
    obtain ⟨f0, f1, f2, f3, f4, f5⟩ := hf it List.mem_cons_self
    have hg' : n ≤ i := hg
    exact wpAny_pyNext_long_end (I.ok.hd hc) st (by omega) fun h' eb => ⟨rfl, I.turned (t' := s.toks) (fun b o hb e => eb b o hb e) f0 f1 f3 f4 f5⟩
  self := fun _ _ _ _ _ st h => wpAny_pyIter_longiter st h
theorem size_0 {lo hi : Int} : (((hi - lo).toNat : Nat) : Int) - ((0 : Nat) : Int) = Builtin.Range.rangeSize lo hi 1 := by
  rw [rangeSize_one]
  split <;> omega
theorem rit_0 {h : Heap} {lo hi : Int} : IsRangeIter (h.push { cls := .type "range_iterator", data := .fields #[rawInt lo, rawInt (Builtin.Range.rangeSize lo hi 1), rawInt 1] }) h.objs.size (lo + ((0 : Nat) : Int) * 1) ((((hi - lo).toNat : Nat) : Int) - ((0 : Nat) : Int)) 1 := by
  have e1 : lo + ((0 : Nat) : Int) * 1 = lo := by omega
  rw [e1, size_0]
  exact Heap.get?_push_size _ rfl
theorem lit_0 {h : Heap} {lo hi : Int} : IsLongIter (h.push { cls := .type "longrange_iterator", data := .fields #[rawInt lo, rawInt (Builtin.Range.rangeSize lo hi 1), rawInt 1] }) h.objs.size (lo + ((0 : Nat) : Int) * 1) ((((hi - lo).toNat : Nat) : Int) - ((0 : Nat) : Int)) 1 := by
  have e1 : lo + ((0 : Nat) : Int) * 1 = lo := by omega
  rw [e1, size_0]
  exact Heap.get?_push_size _ rfl
theorem range_any {X : Cx} {tg : Expr} {pins : List (Addr × Obj)} {σ : L2.St} {H : Hp} {s : Shared} {R : It → Hp → Prop} {E : Value → Shared → Prop} {lo hi : Int} {t u v : Tok} {tk : Nat} (I : Inv X pins σ H s)
    (q : R (Itr lo (hi - lo).toNat) H) : wpAny (model X.prog X.w) X.A (pyIter (.ref s.heap.objs.size)) (PIE X pins σ tg R) E { s with heap := s.heap.push { cls := .type "range", data := .fields #[.int lo t, .int hi u, .int 1 v] }, toks := tk } := by
  have I1 : Inv X pins σ H { s with heap := s.heap.push { cls := .type "range", data := .fields #[.int lo t, .int hi u, .int 1 v] }, toks := tk } := I.kept fun b o e => Heap.get?_push_of_some _ e
  have fp : ∀ b ∈ [(s.heap.push { cls := .type "range", data := .fields #[.int lo t, .int hi u, .int 1 v] }).objs.size], FpOk X pins H b := fun b hb => by
    obtain rfl : b = (s.heap.push { cls := .type "range", data := .fields #[.int lo t, .int hi u, .int 1 v] }).objs.size := by simpa using hb
    exact I1.fpOk (Nat.le_refl _) (I1.hok.fresh (Nat.le_refl _))
  cases hs : Builtin.Range.small lo hi 1 with
  | true => exact wpAny_pyIter_range (IsRange.new ..) hs ⟨_, [_], _, _, H, rfl, I1.kept (t' := tk) fun b o e => Heap.get?_push_of_some _ e, turn_range _ lo (hi - lo).toNat, rit_0, fp, q⟩
  | false => exact wpAny_pyIter_longrange (IsRange.new ..) hs ⟨_, [_], _, _, H, rfl, I1.kept (t' := tk) fun b o e => Heap.get?_push_of_some _ e, turn_long _ lo (hi - lo).toNat, lit_0, fp, q⟩
theorem pi_rng2 {X : Cx} {tg : Expr} {a b : Expr} {ta : TA} {p pos : Pos} (hg : Gl X "range") (hm : X.mg "range" = none) (ha : PA X [a, b] ta) (hs : starEach [a, b] X.env = [(false, eval a X.env), (false, eval b X.env)] := by rfl) (hs2 : starEach [b] X.env = [(false, eval b X.env)] := by rfl) :
    PI X tg (.Call (.Name "range" p) [a, b] [] pos) (iRngL ta) := by
  refine ⟨fun pins s σ H R I h => Call_ (ld_blt I hg hm boot_range (PyProof.Rows.callWith_type1 (thn (ha.run pos pins s σ H _ I h) fun us s1 ⟨vs, H1, I1, r1, q1⟩ => ?_) (by rw [hs, hs2]) (by rw [hs2]; rfl)))⟩
  obtain ⟨i, j, rfl, q⟩ := q1
  cases r1 with
  | cons r rr =>
    cases rr with
    | cons r' rr =>
      cases rr
      obtain ⟨t, rfl⟩ := r
      obtain ⟨t', rfl⟩ := r'
      exact call_range_2 (range_any I1 q)
/-- what an expression gives without a change of what is tracked -/
def PureE (te : TE) (σ : L2.St) (H : Hp) (v : V) : Prop := ∀ H1, Ex H H1 → ∀ Q : VK, (∀ H2, Ex H1 H2 → Q v H2) → te σ H1 Q
section
variable {K : PySem.W.Frag} {σ : L2.St} {H : Hp} {Q : VK} {te : TE}
theorem tYes_k {F : Bool → Hp → Prop} (k : F true H) : tYes σ H F := k
theorem len_lt {n : Nat} (h : n ≤ 100000) : n < sizeLine := Nat.lt_of_le_of_lt h (by decide)
/-- [e for j in a range], e pure -/
theorem lc_rngP {lo : Int} {n j : Nat} {vs : List Nat} (f : Nat → V) (hn : n ≤ 100000) (hw : ∀ x, wipe ((wipe σ vs).set j (some x)) vs = wipe σ vs)
    (he : ∀ i : Nat, i < n → PureE te ((wipe σ vs).set j (some (.int (lo + i)))) H (f i)) (k : ∀ p H1, H p = none → Ex H H1 → H1 p = some (.lst ((List.range n).map f)) → Q (.ref p) H1) : LcB (Itr lo n) (gName j) tYes te vs σ H Q := fun Dl hD => by
  refine lc_range (fun i H' => Ex H H' ∧ H' Dl = some (.lst ((List.range i).map f))) ⟨Ex.new hD, upd_same⟩ (fun i H' hi p => ?_) (fun H' p => k Dl H' hD p.1 p.2)
  refine ⟨hw _, ?_⟩
  refine tYes_k ?_
  rw [if_pos rfl]
  refine he i hi H' p.1 _ fun H2 e2 => ⟨_, e2 _ _ p.2, ?_, ?_⟩
  · rw [List.length_map, List.length_range]
    exact len_lt (by omega)
  · refine ⟨fun a o ha => ?_, ?_⟩
    · rw [upd_ne (ne_of_none ha hD)]
      exact e2 _ _ (p.1 _ _ ha)
    · rw [upd_same, List.range_succ, List.map_append]
      rfl
theorem lc_lstP {a : Addr} {xs : List V} {j : Nat} {vs : List Nat} (f : V → V) (hx : SqL K H a xs) (hn : xs.length ≤ 100000) (hw : ∀ x, wipe ((wipe σ vs).set j (some x)) vs = wipe σ vs)
    (he : ∀ (i : Nat) x, xs[i]? = some x → PureE te ((wipe σ vs).set j (some x)) H (f x)) (k : ∀ p H1, H p = none → Ex H H1 → H1 p = some (.lst (xs.map f)) → Q (.ref p) H1) : LcB (Itl K a) (gName j) tYes te vs σ H Q := fun Dl hD => by
  refine lc_list (xs := xs) (fun i H' => Ex H H' ∧ H' Dl = some (.lst ((xs.take i).map f))) ⟨Ex.new hD, upd_same⟩ (fun i H' _ p => sql_up p.1 hx) (fun i x H' hi p => ?_) (fun H' p => k Dl H' hD p.1 (by rw [p.2, List.take_length]))
  refine ⟨hw _, ?_⟩
  refine tYes_k ?_
  rw [if_pos rfl]
  refine he i x hi H' p.1 _ fun H2 e2 => ⟨_, e2 _ _ p.2, ?_, ?_⟩
  · rw [List.length_map, List.length_take]
    exact len_lt (by omega)
  · refine ⟨fun a o ha => ?_, ?_⟩
    · rw [upd_ne (ne_of_none ha hD)]
      exact e2 _ _ (p.1 _ _ ha)
    · rw [upd_same, List.take_add_one, hi, List.map_append]
      rfl
theorem lc_tupP {a : Addr} {xs : List V} {j : Nat} {vs : List Nat} (f : V → V) (hx : SqT K H a xs) (hn : xs.length ≤ 100000) (hw : ∀ x, wipe ((wipe σ vs).set j (some x)) vs = wipe σ vs)
    (he : ∀ (i : Nat) x, xs[i]? = some x → PureE te ((wipe σ vs).set j (some x)) H (f x)) (k : ∀ p H1, H p = none → Ex H H1 → H1 p = some (.lst (xs.map f)) → Q (.ref p) H1) : LcB (Itt K a) (gName j) tYes te vs σ H Q := fun Dl hD => by
  refine lc_tup (xs := xs) (fun i H' => Ex H H' ∧ H' Dl = some (.lst ((xs.take i).map f))) ⟨Ex.new hD, upd_same⟩ (fun i H' _ p => sqt_up p.1 hx) (fun i x H' hi p => ?_) (fun H' p => k Dl H' hD p.1 (by rw [p.2, List.take_length]))
  refine ⟨hw _, ?_⟩
  refine tYes_k ?_
  rw [if_pos rfl]
  refine he i x hi H' p.1 _ fun H2 e2 => ⟨_, e2 _ _ p.2, ?_, ?_⟩
  · rw [List.length_map, List.length_take]
    exact len_lt (by omega)
  · refine ⟨fun a o ha => ?_, ?_⟩
    · rw [upd_ne (ne_of_none ha hD)]
      exact e2 _ _ (p.1 _ _ ha)
    · rw [upd_same, List.take_add_one, hi, List.map_append]
      rfl
end

theorem Sz.b2 {c : Prop} {_ : Decidable c} : Sz 1 (if c then 1 else 0) := by
  show (if c then (1 : Int) else 0).natAbs < 2 ^ 1
  split <;> decide
theorem div_mod_eq (x m : Int) : x / m * m + x % m = x := by
  have := Int.emod_add_mul_ediv x m
  rw [Int.mul_comm] at this
  omega
theorem Sz.small {x : Int} (h : x.natAbs < 1000000000000000000) : Sz 200 x := by
  show x.natAbs < 2 ^ 200
  omega
theorem at_ints {ns : List Int} {i : Int} (h0 : 0 ≤ i) (h1 : i < ns.length) : ∃ z, atI (ns.map V.int) i = some (.int z) ∧ ns[i.toNat]? = some z := by
  have hl : i.toNat < ns.length := by omega
  refine ⟨ns[i.toNat], ?_, List.getElem?_eq_getElem hl⟩
  refine at_of (j := i.toNat) (by omega) ?_
  rw [List.getElem?_map, List.getElem?_eq_getElem hl]
  rfl
theorem at_3 {x y z : V} {i : Int} (h0 : 0 ≤ i) (h1 : i < 3) : ∃ v, atI [x, y, z] i = some v ∧ (v = x ∨ v = y ∨ v = z) := by
  obtain rfl | rfl | rfl : i = 0 ∨ i = 1 ∨ i = 2 := by omega
  · exact ⟨_, rfl, .inl rfl⟩
  · exact ⟨_, rfl, .inr (.inl rfl)⟩
  · exact ⟨_, rfl, .inr (.inr rfl)⟩
theorem Sz.lt {n : Nat} {x y : Int} (h : Sz n y) (a : 0 ≤ x) (b : x < y) : Sz n x := by
  have h' : y.natAbs < 2 ^ n := h
  show x.natAbs < 2 ^ n
  omega
theorem Sz.abs {n : Nat} {x : Int} (h : Sz n x) : Sz n (x.natAbs : Int) := by
  show ((x.natAbs : Int)).natAbs < 2 ^ n
  exact h

section
variable {σ : L2.St} {H : Hp} {D : Ends} {t : TT} {s1 : TS}
/-- a while by its measure -/
theorem while_m (W : Nat → L2.St → Hp → Prop) (m0 : Nat) (h0 : W m0 σ H) (h : ∀ m σ H, W m σ H → t σ H fun b H1 => if b = true then ∃ N : L2.St → Hp → Prop, (∀ σ' H', N σ' H' → ∃ m', m' < m ∧ W m' σ' H') ∧ s1 { D with nx := N, ct := N, bk := D.nx } σ H1 else D.nx σ H1) : tWhile t s1 D σ H :=
  ⟨W, ⟨m0, h0⟩, fun m σ H w => h m σ H w⟩
theorem r_body {m : Nat} {W : Nat → L2.St → Hp → Prop} (N : L2.St → Hp → Prop) (hN : ∀ σ' H', N σ' H' → ∃ m', m' < m ∧ W m' σ' H') (k : s1 { D with nx := N, ct := N, bk := D.nx } σ H) :
    ∃ N : L2.St → Hp → Prop, (∀ σ' H', N σ' H' → ∃ m', m' < m ∧ W m' σ' H') ∧ s1 { D with nx := N, ct := N, bk := D.nx } σ H := ⟨N, hN, k⟩
end

/-- in a turn of the law, begun at H0, drawing from d -/
structure Lw (H0 : Hp) (d : Addr) (H : Hp) : Prop where
  e : Ex H0 H
  n : H0 d = none
  D : Dr H d
theorem Lw.ex {H0 H H' : Hp} {d : Addr} (w : Lw H0 d H) (e : Ex H H') : Lw H0 d H' := ⟨w.e.trans e, w.n, w.D.up e⟩
/-- a list of the turn's own is changed -/
theorem Lw.own {H0 H H' : Hp} {d l : Addr} (w : Lw H0 d H) (nf : H0 l = none) (ne : l ≠ d) (k : Kp l H H') : Lw H0 d H' := by
  obtain ⟨x, y, h, r⟩ := w.D
  exact ⟨w.e.kpd nf k, w.n, x, y, k _ _ (Ne.symm ne) h, r⟩
theorem Lw.kp {H0 H H' : Hp} {d : Addr} (w : Lw H0 d H) (k : Kp d H H') (D : Dr H' d) : Lw H0 d H' := ⟨w.e.kpd w.n k, w.n, D⟩

/-! data compared -/
theorem eqv_ints : ∀ xs ys : List Int, PyData.eqvAll (xs.map PyData.int) (ys.map PyData.int) = decide (xs = ys)
  | [], [] => by rw [decide_eq_true rfl]; rfl
  | [], y :: ys => by rw [decide_eq_false (by intro h; cases h)]; rfl
  | x :: xs, [] => by rw [decide_eq_false (by intro h; cases h)]; rfl
  | x :: xs, y :: ys => by
    show (PyData.eqv (.int x) (.int y) && PyData.eqvAll (xs.map PyData.int) (ys.map PyData.int)) = _
    rw [eqv_ints xs ys]
    show ((x == y) && decide (xs = ys)) = decide (x :: xs = y :: ys)
    by_cases h : x = y
    · subst h
      by_cases h2 : xs = ys
      · subst h2
        rw [decide_eq_true rfl, decide_eq_true rfl, beq_self_eq_true]
        rfl
      · rw [decide_eq_false h2, decide_eq_false (fun z => h2 (List.cons.inj z).2), Bool.and_false]
    · rw [beq_eq_false_iff_ne.mpr h, decide_eq_false (fun z => h (List.cons.inj z).1), Bool.false_and]
theorem lay_ints : ∀ xs : List Int, PyData.canLayAll0 (xs.map PyData.int) = true
  | [] => rfl
  | x :: xs => by
    show (PyData.canLay0 (.int x) && PyData.canLayAll0 (xs.map PyData.int)) = true
    rw [lay_ints xs]
    rfl
theorem dep_ints : ∀ xs : List Int, PyData.depthAll (xs.map PyData.int) ≤ 1
  | [] => Nat.zero_le _
  | x :: xs => by
    show max (PyData.depth (.int x)) (PyData.depthAll (xs.map PyData.int)) ≤ 1
    have h1 : PyData.depth (.int x) ≤ 1 := by
      unfold PyData.depth
      omega
    have := dep_ints xs
    omega
theorem shp_tup (xs : List Int) : SeqAt.shaped (.tuple (xs.map PyData.int)) = true := by
  unfold SeqAt.shaped
  rw [Bool.and_eq_true]
  refine ⟨?_, decide_eq_true ?_⟩
  · unfold PyData.canLay0
    exact lay_ints xs
  · unfold PyData.depth
    have := dep_ints xs
    omega
theorem shp_lst (xs : List Int) : SeqAt.shaped (.list (xs.map PyData.int)) = true := by
  unfold SeqAt.shaped
  rw [Bool.and_eq_true]
  refine ⟨?_, decide_eq_true ?_⟩
  · unfold PyData.canLay0
    exact lay_ints xs
  · unfold PyData.depth
    have := dep_ints xs
    omega
section
variable {K : PySem.W.Frag} {H : Hp} {Q : VK}
theorem dp_ints : ∀ xs : List Int, DpAll K H (xs.map V.int) (xs.map PyData.int)
  | [] => .nil
  | x :: xs => .cons (.int x) (dp_ints xs)
theorem r_eqD {x y : V} {d e : PyData} (hd : Dp K H x d) (he : Dp K H y e) (sd : SeqAt.shaped d = true) (se : SeqAt.shaped e = true) (k : Q (.bl (PyData.eqv d e)) H) : rEqD K x y H Q := ⟨d, e, hd, he, sd, se, k⟩
theorem r_neD {x y : V} {d e : PyData} (hd : Dp K H x d) (he : Dp K H y e) (sd : SeqAt.shaped d = true) (se : SeqAt.shaped e = true) (k : Q (.bl (!PyData.eqv d e)) H) : rNeD K x y H Q := ⟨d, e, hd, he, sd, se, k⟩
theorem eqvT (xs ys : List Int) : PyData.eqv (.tuple (xs.map PyData.int)) (.tuple (ys.map PyData.int)) = decide (xs = ys) := by
  unfold PyData.eqv
  exact eqv_ints xs ys
theorem eqvL (xs ys : List Int) : PyData.eqv (.list (xs.map PyData.int)) (.list (ys.map PyData.int)) = decide (xs = ys) := by
  unfold PyData.eqv
  exact eqv_ints xs ys
/-- two tuples of three whole numbers, two lists of whole numbers -/
theorem r_eqT3 {p q : Addr} {a b c a' b' c' : Int} (h : SqT K H p [.int a, .int b, .int c]) (h' : SqT K H q [.int a', .int b', .int c']) (k : Q (.bl (decide ([a, b, c] = [a', b', c']))) H) : rEqD K (.ref p) (.ref q) H Q :=
  r_eqD (.tup h (dp_ints [a, b, c])) (.tup h' (dp_ints [a', b', c'])) (shp_tup _) (shp_tup _) (by rw [eqvT]; exact k)
theorem r_neT3 {p q : Addr} {a b c a' b' c' : Int} (h : SqT K H p [.int a, .int b, .int c]) (h' : SqT K H q [.int a', .int b', .int c']) (k : Q (.bl (!decide ([a, b, c] = [a', b', c']))) H) : rNeD K (.ref p) (.ref q) H Q :=
  r_neD (.tup h (dp_ints [a, b, c])) (.tup h' (dp_ints [a', b', c'])) (shp_tup _) (shp_tup _) (by rw [eqvT]; exact k)
theorem r_eqL {p q : Addr} {xs ys : List Int} (h : SqL K H p (xs.map V.int)) (h' : SqL K H q (ys.map V.int)) (k : Q (.bl (decide (xs = ys))) H) : rEqD K (.ref p) (.ref q) H Q :=
  r_eqD (.lst h (dp_ints xs)) (.lst h' (dp_ints ys)) (shp_lst _) (shp_lst _) (by rw [eqvL]; exact k)
theorem r_neL {p q : Addr} {xs ys : List Int} (h : SqL K H p (xs.map V.int)) (h' : SqL K H q (ys.map V.int)) (k : Q (.bl (!decide (xs = ys))) H) : rNeD K (.ref p) (.ref q) H Q :=
  r_neD (.lst h (dp_ints xs)) (.lst h' (dp_ints ys)) (shp_lst _) (shp_lst _) (by rw [eqvL]; exact k)
end
theorem at_2 {x y : V} {i : Int} (h0 : 0 ≤ i) (h1 : i < 2) : ∃ v, atI [x, y] i = some v ∧ (v = x ∨ v = y) := by
  obtain rfl | rfl : i = 0 ∨ i = 1 := by omega
  · exact ⟨_, rfl, .inl rfl⟩
  · exact ⟨_, rfl, .inr rfl⟩
/-- what a test gives without a change of what is tracked -/
def PureT (tt : TT) (σ : L2.St) (H : Hp) (b : Bool) : Prop := ∀ H1, Ex H H1 → ∀ Q : Bool → Hp → Prop, (∀ H2, Ex H1 H2 → Q b H2) → tt σ H1 Q
section
variable {K : PySem.W.Frag} {σ : L2.St} {H : Hp} {Q : VK} {te : TE} {tt : TT}
/-- [e for j in a range if t], t and e pure -/
theorem lc_rngF {lo : Int} {n j : Nat} {vs : List Nat} (c : Nat → Bool) (f : Nat → V) (hn : n ≤ 100000) (hw : ∀ x, wipe ((wipe σ vs).set j (some x)) vs = wipe σ vs)
    (ht : ∀ i : Nat, i < n → PureT tt ((wipe σ vs).set j (some (.int (lo + i)))) H (c i))
    (he : ∀ i : Nat, i < n → c i = true → PureE te ((wipe σ vs).set j (some (.int (lo + i)))) H (f i)) (k : ∀ p H1, H p = none → Ex H H1 → H1 p = some (.lst (((List.range n).filter c).map f)) → Q (.ref p) H1) : LcB (Itr lo n) (gName j) tt te vs σ H Q := fun Dl hD => by
  refine lc_range (fun i H' => Ex H H' ∧ H' Dl = some (.lst (((List.range i).filter c).map f))) ⟨Ex.new hD, upd_same⟩ (fun i H' hi p => ?_) (fun H' p => k Dl H' hD p.1 p.2)
  refine ⟨hw _, ht i hi H' p.1 _ fun H2 e2 => ?_⟩
  cases hc : c i with
  | true =>
    rw [if_pos rfl]
    refine he i hi hc H2 (p.1.trans e2) _ fun H3 e3 => ⟨_, e3 _ _ (e2 _ _ p.2), ?_, ?_⟩
    · have l1 := List.length_filter_le c (List.range i)
      rw [List.length_range] at l1
      rw [List.length_map]
      exact len_lt (by omega)
    · refine ⟨fun a o ha => ?_, ?_⟩
      · rw [upd_ne (ne_of_none ha hD)]
        exact e3 _ _ (e2 _ _ (p.1 _ _ ha))
      · rw [upd_same, List.range_succ, List.filter_append, List.map_append]
        simp [hc]
  | false =>
    rw [if_neg Bool.false_ne_true]
    refine ⟨p.1.trans e2, ?_⟩
    rw [List.range_succ, List.filter_append, List.map_append]
    simp [hc, e2 _ _ p.2]
end
/-- a drawn stair -/
structure StB (a b m : Int) : Prop where
  m0 : 0 < m
  m1 : m ≤ 1000000000000000000000000000000000000000000000000000000000000
  za : Sz 620 a
  zb : Sz 620 b
theorem StB.zm {a b m : Int} (S : StB a b m) : Sz 200 m := by
  have := S.m0
  have := S.m1
  show m.natAbs < 2 ^ 200
  omega

section
variable {K : PySem.W.Frag} {σ : L2.St} {H : Hp} {Q : VK} {i : Int}
theorem r_sortI {a : Addr} {ns : List Int} (h : SqL K H a (ns.map V.int)) (k : ∀ (ns' : List Int) p H1, ns'.Perm ns → ns'.Pairwise (· ≤ ·) → H p = none → Ex H H1 → H1 p = some (.lst (ns'.map V.int)) → Q (.ref p) H1) : rSortedI K [.ref a] H Q :=
  ⟨a, ns, rfl, h, fun ns' p h1 h2 hp => k ns' p _ h1 h2 hp (Ex.new hp) upd_same⟩
theorem r_gLst {p : Addr} {xs : List V} {n : Nat} {g : TGs} {QS : L2.St → Hp → Prop} (h : SqL K H p xs) (l : xs.length = n) (k : g xs σ H QS) : gLst K n g (.ref p) σ H QS := ⟨p, xs, rfl, h, l, k⟩
end
theorem sort_2 {ns : List Int} {x y : Int} (h : ns.Perm [x, y]) (s : ns.Pairwise (· ≤ ·)) : ns = [min x y, max x y] := by
  have hl := h.length_eq
  match ns, hl with
  | [u, v], _ =>
    have m1 := h.mem_iff (a := u)
    have m2 := h.mem_iff (a := v)
    have m3 := h.mem_iff (a := x)
    have m4 := h.mem_iff (a := y)
    have huv : u ≤ v := by
      have := List.pairwise_cons.mp s
      exact this.1 v (by simp)
    simp at m1 m2 m3 m4
    have e1 : u = min x y := by omega
    have e2 : v = max x y := by omega
    rw [← e1, ← e2]
theorem sort_3 {ns : List Int} {x y z lo hi : Int} (h : ns.Perm [x, y, z]) (s : ns.Pairwise (· ≤ ·)) (h1 : lo ≤ x ∧ x ≤ hi) (h2 : lo ≤ y ∧ y ≤ hi) (h3 : lo ≤ z ∧ z ≤ hi) : ∃ u v w, ns = [u, v, w] ∧ lo ≤ u ∧ u ≤ v ∧ v ≤ w ∧ w ≤ hi := by
  have hl := h.length_eq
  match ns, hl with
  | [u, v, w], _ =>
    have m1 := h.mem_iff (a := u)
    have m3 := h.mem_iff (a := w)
    have p := List.pairwise_cons.mp s
    have huv : u ≤ v := p.1 v (by simp)
    have hvw : v ≤ w := (List.pairwise_cons.mp p.2).1 w (by simp)
    simp at m1 m3
    exact ⟨u, v, w, rfl, by omega, huv, hvw, by omega⟩
/-! none, True, membership -/
def rIsNn : R2 := fun x y H Q => y = .non ∧ Q (.bl (decide (x = .non))) H
def rNotNn : R2 := fun x y H Q => y = .non ∧ Q (.bl (!decide (x = .non))) H
theorem op_isNn {X : Cx} : OpR X (compareOp .Is) rIsNn := op_isN
theorem op_notNn {X : Cx} : OpR X (compareOp .IsNot) rNotNn := op_notN
section
variable {K : PySem.W.Frag} {H : Hp} {Q : VK} {x : V}
theorem r_isNnI {i : Int} (k : Q (.bl false) H) : rIsNn (.int i) .non H Q := ⟨rfl, k⟩
theorem r_isNnN (k : Q (.bl true) H) : rIsNn .non .non H Q := ⟨rfl, k⟩
theorem r_isNnR {a : Addr} (k : Q (.bl false) H) : rIsNn (.ref a) .non H Q := ⟨rfl, k⟩
theorem r_notNnI {i : Int} (k : Q (.bl true) H) : rNotNn (.int i) .non H Q := ⟨rfl, k⟩
theorem r_notNnN (k : Q (.bl false) H) : rNotNn .non .non H Q := ⟨rfl, k⟩
theorem r_notNnR {a : Addr} (k : Q (.bl true) H) : rNotNn (.ref a) .non H Q := ⟨rfl, k⟩
theorem all_flatI : ∀ ns : List Int, (ns.map V.int).all flatV = true
  | [] => rfl
  | n :: ns => by
    show (true && (ns.map V.int).all flatV) = true
    rw [all_flatI ns]
    rfl
theorem inV_ints (i : Int) : ∀ ns : List Int, inV (.int i) (ns.map V.int) = decide (i ∈ ns)
  | [] => rfl
  | n :: ns => by
    show (eqV (.int n) (.int i) || inV (.int i) (ns.map V.int)) = _
    rw [inV_ints i ns]
    show ((decide (n = i)) || _) = _
    by_cases h : n = i
    · subst h
      rw [decide_eq_true rfl, decide_eq_true (List.mem_cons_self ..)]
      rfl
    · rw [decide_eq_false h, Bool.false_or]
      by_cases h2 : i ∈ ns
      · rw [decide_eq_true h2, decide_eq_true (List.mem_cons_of_mem _ h2)]
      · rw [decide_eq_false h2, decide_eq_false]
        intro z
        rcases List.mem_cons.mp z with z | z
        · exact h z.symm
        · exact h2 z
theorem r_inI {i : Int} {ns : List Int} {p : Addr} (h : SqL K H p (ns.map V.int)) (k : Q (.bl (decide (i ∈ ns))) H) : rIn K false (.int i) (.ref p) H Q :=
  ⟨p, _, rfl, .inl h, rfl, all_flatI ns, by rw [inV_ints]; exact k⟩
end
/-! lists of rows of whole numbers -/
theorem Kp.tupL {H H' : Hp} {d p : Addr} {xs ys : List V} (k : Kp d H H') (D : H d = some (.lst ys)) (h : H p = some (.tup xs)) : H' p = some (.tup xs) :=
  k _ _ (ne_of h D (by intro z; cases z)) h
/-- each value a tuple of whole numbers -/
def RowsA (H : Hp) : List V → List (List Int) → Prop
  | [], [] => True
  | v :: vs, r :: rs => (∃ p, v = .ref p ∧ H p = some (.tup (r.map V.int))) ∧ RowsA H vs rs
  | _, _ => False
theorem RowsA.imp {H H' : Hp} (f : ∀ (p : Addr) (xs : List V), H p = some (.tup xs) → H' p = some (.tup xs)) : ∀ {vs : List V} {rs : List (List Int)}, RowsA H vs rs → RowsA H' vs rs
  | [], [], _ => trivial
  | _ :: _, _ :: _, ⟨⟨p, e, h⟩, r⟩ => ⟨⟨p, e, f _ _ h⟩, RowsA.imp f r⟩
  | [], _ :: _, h => h.elim
  | _ :: _, [], h => h.elim
theorem RowsA.ex {H H' : Hp} {vs : List V} {rs : List (List Int)} (h : RowsA H vs rs) (e : Ex H H') : RowsA H' vs rs := h.imp fun p xs q => e p _ q
theorem RowsA.kp {H H' : Hp} {d : Addr} {vs : List V} {rs : List (List Int)} (h : RowsA H vs rs) (k : Kp d H H') (D : Dr H d) : RowsA H' vs rs := h.imp fun _ _ q => k.tup D q
theorem RowsA.kpL {H H' : Hp} {d : Addr} {ys vs : List V} {rs : List (List Int)} (h : RowsA H vs rs) (k : Kp d H H') (D : H d = some (.lst ys)) : RowsA H' vs rs := h.imp fun _ _ q => k.tupL D q
theorem RowsA.len {H : Hp} : ∀ {vs : List V} {rs : List (List Int)}, RowsA H vs rs → vs.length = rs.length
  | [], [], _ => rfl
  | _ :: _, _ :: _, ⟨_, r⟩ => by
    rw [List.length_cons, List.length_cons, RowsA.len r]
  | [], _ :: _, h => h.elim
  | _ :: _, [], h => h.elim
theorem RowsA.app {H : Hp} {p : Addr} {r : List Int} (hp : H p = some (.tup (r.map V.int))) : ∀ {vs : List V} {rs : List (List Int)}, RowsA H vs rs → RowsA H (vs ++ [.ref p]) (rs ++ [r])
  | [], [], _ => ⟨⟨p, rfl, hp⟩, trivial⟩
  | _ :: _, _ :: _, ⟨h, r⟩ => ⟨h, RowsA.app hp r⟩
  | [], _ :: _, h => h.elim
  | _ :: _, [], h => h.elim
theorem RowsA.get {H : Hp} : ∀ {vs : List V} {rs : List (List Int)} {i : Nat} {v : V}, RowsA H vs rs → vs[i]? = some v → ∃ p r, v = .ref p ∧ rs[i]? = some r ∧ H p = some (.tup (r.map V.int))
  | _ :: _, r :: _, 0, _, ⟨⟨p, e, h⟩, _⟩, g => ⟨p, r, (Option.some.inj g).symm.trans e, rfl, h⟩
  | _ :: _, _ :: _, i + 1, _, ⟨_, h⟩, g => RowsA.get (i := i) h g
  | [], _, _, _, _, g => by simp at g
  | _ :: _, [], _, _, h, _ => h.elim
/-- a list of rows stands at l -/
def RwL (H : Hp) (l : Addr) (rs : List (List Int)) : Prop := ∃ vs, H l = some (.lst vs) ∧ RowsA H vs rs
theorem RwL.ex {H H' : Hp} {l : Addr} {rs : List (List Int)} (h : RwL H l rs) (e : Ex H H') : RwL H' l rs := by
  obtain ⟨vs, h1, h2⟩ := h
  exact ⟨vs, e _ _ h1, h2.ex e⟩
theorem RwL.kp {H H' : Hp} {d l : Addr} {rs : List (List Int)} (h : RwL H l rs) (k : Kp d H H') (D : Dr H d) (n : l ≠ d) : RwL H' l rs := by
  obtain ⟨vs, h1, h2⟩ := h
  exact ⟨vs, k _ _ n h1, h2.kp k D⟩
theorem RwL.app {H H' : Hp} {l p : Addr} {vs : List V} {rs : List (List Int)} {r : List Int} (h0 : H l = some (.lst vs)) (h : RowsA H vs rs) (hp : H p = some (.tup (r.map V.int))) (k : Kp l H H') (h1 : H' l = some (.lst (vs ++ [.ref p]))) : RwL H' l (rs ++ [r]) :=
  ⟨_, h1, RowsA.app (k.tupL h0 hp) (h.kpL k h0)⟩
theorem cutV_whole {xs : List V} {lo hi : Option Int} (w : HT.sIx xs.length 0 lo = 0 ∧ HT.sIx xs.length xs.length hi = xs.length) : cutV xs lo hi = xs := by
  unfold cutV
  rw [w.1, w.2, List.drop_zero, Nat.sub_zero, List.take_length]
theorem mem_cutV {xs : List V} {lo hi : Option Int} {v : V} (h : v ∈ cutV xs lo hi) : v ∈ xs := List.mem_of_mem_drop (List.mem_of_mem_take h)
def rListOf (K : PySem.W.Frag) : List V → Hp → VK → Prop := fun xs H Q => ∃ p ys, xs = [.ref p] ∧ (SqL K H p ys ∨ SqT K H p ys) ∧ ∀ l, H l = none → Q (.ref l) (upd H l (.lst ys))
theorem cl_listOf {X : Cx} : CallR X (.type "list") (rListOf X.K) := call_list_of
section
variable {K : PySem.W.Frag} {σ : L2.St} {H : Hp} {Q : VK} {ta te : TE} {t : TA} {p q l : Addr} {xs ys : List V} {tl th : TO}
theorem r_listL (h : SqL K H p ys) (k : ∀ l H1, H l = none → Ex H H1 → H1 l = some (.lst ys) → Q (.ref l) H1) : rListOf K [.ref p] H Q :=
  ⟨p, ys, rfl, .inl h, fun l n => k l _ n (Ex.new n) upd_same⟩
theorem r_listT (h : SqT K H p ys) (k : ∀ l H1, H l = none → Ex H H1 → H1 l = some (.lst ys) → Q (.ref l) H1) : rListOf K [.ref p] H Q :=
  ⟨p, ys, rfl, .inr h, fun l n => k l _ n (Ex.new n) upd_same⟩
theorem r_bm {T : String} {r : V → List V → Hp → VK → Prop} (k : ta σ H fun x H1 => tyV K T x H1 ∧ t σ H1 fun xs H2 => r x xs H2 Q) : tBM K T r ta t σ H Q := k
theorem r_tyL {R : Prop} (h : SqL K H p xs) (k : R) : tyV K "list" (.ref p) H ∧ R := ⟨.inl ⟨rfl, _, h⟩, k⟩
theorem r_app {y : V} (h : H l = some (.lst xs)) (n : xs.length ≤ 100000) (k : ∀ H1, Kp l H H1 → H1 l = some (.lst (xs ++ [y])) → Q .non H1) : rAppend (.ref l) [y] H Q :=
  ⟨l, xs, y, rfl, rfl, h, len_lt n, k _ Kp.upd upd_same⟩
theorem r_sl {r : V → Option Int → Option Int → Hp → VK → Prop} (k : te σ H fun x H1 => tl σ H1 fun l H2 => th σ H2 fun u H3 => r x l u H3 Q) : tSl r te tl th σ H Q := k
theorem r_noP {R : Option Int → Hp → Prop} (k : R none H) : tNoPart σ H R := k
theorem r_part {R : Option Int → Hp → Prop} (k : te σ H fun x H1 => ∃ i, x = .int i ∧ R (some i) H1) : tPart te σ H R := k
theorem r_partI {i : Int} {R : Int → Prop} (k : R i) : ∃ j, V.int i = .int j ∧ R j := ⟨i, rfl, k⟩
theorem r_slA {lo hi : Option Int} (h : H p = some (.tup xs)) (k : ∀ q H1, Ex H H1 → H1 q = some (.tup (cutV xs lo hi)) → Q (.ref q) H1) : rSlA K (.ref p) lo hi H Q :=
  ⟨p, xs, rfl, SqT.of h, fun w => k p H Ex.refl (by rw [cutV_whole w]; exact h), fun _ q hq => k q _ (Ex.new hq) upd_same⟩
theorem r_sl4 {a b c d e : V} (h : SqT K H p [a, b, c, d, e]) (k : ∀ q H1, H q = none → Ex H H1 → H1 q = some (.tup [a, b, c, d]) → Q (.ref q) H1) : rSlA K (.ref p) none (some 4) H Q :=
  ⟨p, _, rfl, h, fun w => absurd (show (4 : Nat) = 5 from w.2) (by decide), fun _ q hq => k q _ hq (Ex.new hq) upd_same⟩
theorem r_catA (h : H p = some (.tup xs)) (h2 : H q = some (.tup ys)) (n : xs.length + ys.length ≤ sizeLine) (k : ∀ l H1, Ex H H1 → H1 l = some (.tup (xs ++ ys)) → Q (.ref l) H1) : rCatA K (.ref p) (.ref q) H Q :=
  ⟨p, q, xs, ys, rfl, rfl, SqT.of h, SqT.of h2, n, fun e => k q H Ex.refl (by subst e; exact h2), fun _ e => k p H Ex.refl (by subst e; rw [List.append_nil]; exact h), fun _ _ l hl => k l _ (Ex.new hl) upd_same⟩
theorem r_catT {x y : V} {xs ys : List V} (h : SqT K H p (x :: xs)) (h2 : SqT K H q (y :: ys)) (n : (x :: xs).length + (y :: ys).length ≤ sizeLine) (k : ∀ l H1, H l = none → Ex H H1 → H1 l = some (.tup (x :: xs ++ y :: ys)) → Q (.ref l) H1) : rCatA K (.ref p) (.ref q) H Q :=
  ⟨p, q, x :: xs, y :: ys, rfl, rfl, h, h2, n, fun z => absurd z (List.cons_ne_nil _ _), fun _ z => absurd z (List.cons_ne_nil _ _), fun _ _ l hl => k l _ hl (Ex.new hl) upd_same⟩
theorem r_cat13 {x a b c : V} (h : SqT K H p [x]) (h2 : SqT K H q [a, b, c]) (k : ∀ l H1, H l = none → Ex H H1 → H1 l = some (.tup [x, a, b, c]) → Q (.ref l) H1) : rCatA K (.ref p) (.ref q) H Q :=
  r_catT h h2 (show 4 ≤ sizeLine by decide) k
theorem r_cat41 {x a b c y : V} (h : SqT K H p [x, a, b, c]) (h2 : SqT K H q [y]) (k : ∀ l H1, H l = none → Ex H H1 → H1 l = some (.tup [x, a, b, c, y]) → Q (.ref l) H1) : rCatA K (.ref p) (.ref q) H Q :=
  r_catT h h2 (show 5 ≤ sizeLine by decide) k
theorem r_slL {lo hi : Option Int} (h : H p = some (.lst xs)) (k : ∀ q H1, H q = none → Ex H H1 → H1 q = some (.lst (cutV xs lo hi)) → Q (.ref q) H1) : rSlL K (.ref p) lo hi H Q :=
  ⟨p, xs, rfl, SqL.of h, fun q hq => k q _ hq (Ex.new hq) upd_same⟩
theorem r_catL (h : H p = some (.lst xs)) (h2 : H q = some (.lst ys)) (n : xs.length + ys.length ≤ 100000) (k : ∀ l H1, H l = none → Ex H H1 → H1 l = some (.lst (xs ++ ys)) → Q (.ref l) H1) : rCat (.ref p) (.ref q) H Q :=
  ⟨p, q, xs, ys, rfl, rfl, h, h2, Nat.le_of_lt (len_lt n), fun l hl => k l _ hl (Ex.new hl) upd_same⟩
def rRev (K : PySem.W.Frag) (x : V) (H : Hp) (Q : VK) : Prop := ∃ a xs, x = .ref a ∧ SqL K H a xs ∧ ∀ p, H p = none → Q (.ref p) (upd H p (.lst xs.reverse))
theorem r_rev (k : te σ H fun x H1 => rRev K x H1 Q) : tRevL K te σ H Q := k
theorem r_revL (h : H p = some (.lst xs)) (k : ∀ q H1, H q = none → Ex H H1 → H1 q = some (.lst xs.reverse) → Q (.ref q) H1) : rRev K (.ref p) H Q :=
  ⟨p, xs, rfl, SqL.of h, fun q hq => k q _ hq (Ex.new hq) upd_same⟩
theorem ixN_in {n : Nat} {i : Int} (h0 : 0 ≤ i) (h1 : i < n) : ixN n i = some i.toNat := by
  unfold ixN
  rw [if_pos h0, if_pos h1]
theorem r_neT4 {a b c d a' b' c' d' : Int} (h : SqT K H p [.int a, .int b, .int c, .int d]) (h' : SqT K H q [.int a', .int b', .int c', .int d']) (k : Q (.bl (!decide ([a, b, c, d] = [a', b', c', d']))) H) : rNeD K (.ref p) (.ref q) H Q :=
  r_neD (.tup h (dp_ints [a, b, c, d])) (.tup h' (dp_ints [a', b', c', d'])) (shp_tup _) (shp_tup _) (by rw [eqvT]; exact k)
theorem r_notB {a b : Bool} (k : Q (.bl (!decide (a = b))) H) : rNotB (.bl a) (.bl b) H Q := ⟨a, b, rfl, rfl, k⟩
theorem r_isB {a b : Bool} (k : Q (.bl (decide (a = b))) H) : rIsB (.bl a) (.bl b) H Q := ⟨a, b, rfl, rfl, k⟩
end
/-! lists of rows compared -/
def rowD (r : List Int) : PyData := .tuple (r.map PyData.int)
theorem dp_rows {K : PySem.W.Frag} {H : Hp} : ∀ {vs : List V} {rs : List (List Int)}, RowsA H vs rs → DpAll K H vs (rs.map rowD)
  | [], [], _ => .nil
  | _ :: _, r :: _, ⟨⟨p, e, h⟩, g⟩ => by
    subst e
    exact .cons (.tup (SqT.of h) (dp_ints r)) (dp_rows g)
  | [], _ :: _, h => h.elim
  | _ :: _, [], h => h.elim
theorem lay_rows : ∀ rs : List (List Int), PyData.canLayAll0 (rs.map rowD) = true
  | [] => rfl
  | r :: rs => by
    show (PyData.canLay0 (rowD r) && PyData.canLayAll0 (rs.map rowD)) = true
    rw [lay_rows rs]
    show (PyData.canLay0 (.tuple (r.map PyData.int)) && true) = true
    unfold PyData.canLay0
    rw [lay_ints]
    rfl
theorem dep_rows : ∀ rs : List (List Int), PyData.depthAll (rs.map rowD) ≤ 2
  | [] => Nat.zero_le _
  | r :: rs => by
    show max (PyData.depth (rowD r)) (PyData.depthAll (rs.map rowD)) ≤ 2
    have h1 : PyData.depth (rowD r) ≤ 2 := by
      unfold rowD PyData.depth
      have := dep_ints r
      omega
    have := dep_rows rs
    omega
theorem shp_rows (rs : List (List Int)) : SeqAt.shaped (.list (rs.map rowD)) = true := by
  unfold SeqAt.shaped
  rw [Bool.and_eq_true]
  refine ⟨?_, decide_eq_true ?_⟩
  · unfold PyData.canLay0
    exact lay_rows rs
  · unfold PyData.depth
    have := dep_rows rs
    omega
theorem eqv_rows : ∀ xs ys : List (List Int), PyData.eqvAll (xs.map rowD) (ys.map rowD) = decide (xs = ys)
  | [], [] => by rw [decide_eq_true rfl]; rfl
  | [], y :: ys => by rw [decide_eq_false (by intro h; cases h)]; rfl
  | x :: xs, [] => by rw [decide_eq_false (by intro h; cases h)]; rfl
  | x :: xs, y :: ys => by
    show (PyData.eqv (rowD x) (rowD y) && PyData.eqvAll (xs.map rowD) (ys.map rowD)) = _
    rw [eqv_rows xs ys, show PyData.eqv (rowD x) (rowD y) = decide (x = y) from eqvT x y]
    by_cases h : x = y
    · subst h
      by_cases h2 : xs = ys
      · subst h2
        rw [decide_eq_true rfl, decide_eq_true rfl, decide_eq_true rfl]
        rfl
      · rw [decide_eq_false h2, decide_eq_false (fun z => h2 (List.cons.inj z).2), Bool.and_false]
    · rw [decide_eq_false h, decide_eq_false (fun z => h (List.cons.inj z).1), Bool.false_and]
theorem eqvR (xs ys : List (List Int)) : PyData.eqv (.list (xs.map rowD)) (.list (ys.map rowD)) = decide (xs = ys) := by
  unfold PyData.eqv
  exact eqv_rows xs ys
theorem r_neR {K : PySem.W.Frag} {H : Hp} {Q : VK} {p q : Addr} {xs ys : List (List Int)} (h : RwL H p xs) (h' : RwL H q ys) (k : Q (.bl (!decide (xs = ys))) H) : rNeD K (.ref p) (.ref q) H Q := by
  obtain ⟨vs, h1, h2⟩ := h
  obtain ⟨us, g1, g2⟩ := h'
  exact r_neD (.lst (SqL.of h1) (dp_rows h2)) (.lst (SqL.of g1) (dp_rows g2)) (shp_rows _) (shp_rows _) (by rw [eqvR]; exact k)
theorem r_eqR {K : PySem.W.Frag} {H : Hp} {Q : VK} {p q : Addr} {xs ys : List (List Int)} (h : RwL H p xs) (h' : RwL H q ys) (k : Q (.bl (decide (xs = ys))) H) : rEqD K (.ref p) (.ref q) H Q := by
  obtain ⟨vs, h1, h2⟩ := h
  obtain ⟨us, g1, g2⟩ := h'
  exact r_eqD (.lst (SqL.of h1) (dp_rows h2)) (.lst (SqL.of g1) (dp_rows g2)) (shp_rows _) (shp_rows _) (by rw [eqvR]; exact k)
/-- [e for v in a list], e pure, by places -/
theorem lc_lstI {K : PySem.W.Frag} {σ : L2.St} {H : Hp} {Q : VK} {te : TE} {a : Addr} {xs : List V} {j : Nat} {vs : List Nat} (f : Nat → V) (hx : SqL K H a xs) (hn : xs.length ≤ 100000) (hw : ∀ x, wipe ((wipe σ vs).set j (some x)) vs = wipe σ vs)
    (he : ∀ (i : Nat) x, xs[i]? = some x → PureE te ((wipe σ vs).set j (some x)) H (f i)) (k : ∀ p H1, H p = none → Ex H H1 → H1 p = some (.lst ((List.range xs.length).map f)) → Q (.ref p) H1) : LcB (Itl K a) (gName j) tYes te vs σ H Q := fun Dl hD => by
  refine lc_list (xs := xs) (fun i H' => Ex H H' ∧ H' Dl = some (.lst ((List.range i).map f))) ⟨Ex.new hD, upd_same⟩ (fun i H' _ p => sql_up p.1 hx) (fun i x H' hi p => ?_) (fun H' p => k Dl H' hD p.1 p.2)
  refine ⟨hw _, ?_⟩
  refine tYes_k ?_
  rw [if_pos rfl]
  have hl : i < xs.length := (List.getElem?_eq_some_iff.mp hi).1
  refine he i x hi H' p.1 _ fun H2 e2 => ⟨_, e2 _ _ p.2, ?_, ?_⟩
  · rw [List.length_map, List.length_range]
    exact len_lt (by omega)
  · refine ⟨fun a o ha => ?_, ?_⟩
    · rw [upd_ne (ne_of_none ha hD)]
      exact e2 _ _ (p.1 _ _ ha)
    · rw [upd_same, List.range_succ, List.map_append]
      rfl
def RowsZ (rs : List (List Int)) : Prop := ∀ r ∈ rs, ∃ n a b m s : Int, r = [n, a, b, m, s] ∧ 0 < m ∧ Sz 3300 n ∧ Sz 3300 a ∧ Sz 3300 b ∧ Sz 3300 m ∧ Sz 3300 s
theorem RowsZ.at {rs : List (List Int)} {i : Nat} {r : List Int} (h : RowsZ rs) (g : rs[i]? = some r) : ∃ n a b m s : Int, r = [n, a, b, m, s] ∧ 0 < m ∧ Sz 3300 n ∧ Sz 3300 a ∧ Sz 3300 b ∧ Sz 3300 m ∧ Sz 3300 s :=
  h r (List.mem_of_getElem? g)
def RowsY (rs : List (List Int)) : Prop := ∀ r ∈ rs, ∃ n a b m s : Int, r = [n, a, b, m, s] ∧ Sz 6900 n ∧ Sz 6900 a ∧ Sz 6900 b ∧ Sz 6900 m ∧ Sz 6900 s
theorem RowsY.at {rs : List (List Int)} {i : Nat} {r : List Int} (h : RowsY rs) (g : rs[i]? = some r) : ∃ n a b m s : Int, r = [n, a, b, m, s] ∧ Sz 6900 n ∧ Sz 6900 a ∧ Sz 6900 b ∧ Sz 6900 m ∧ Sz 6900 s :=
  h r (List.mem_of_getElem? g)
theorem RowsZ.y {rs : List (List Int)} (h : RowsZ rs) : RowsY rs := fun r hr => by
  obtain ⟨n, a, b, m, s, e, _, z1, z2, z3, z4, z5⟩ := h r hr
  exact ⟨n, a, b, m, s, e, z1.mono (by decide), z2.mono (by decide), z3.mono (by decide), z4.mono (by decide), z5.mono (by decide)⟩
theorem RowsZ.app {rs : List (List Int)} {n a b m s : Int} (h : RowsZ rs) (hm : 0 < m) (zn : Sz 3300 n) (za : Sz 3300 a) (zb : Sz 3300 b) (zm : Sz 3300 m) (zs : Sz 3300 s) : RowsZ (rs ++ [[n, a, b, m, s]]) := fun r hr => by
  rcases List.mem_append.mp hr with hr | hr
  · exact h r hr
  · rw [List.mem_singleton.mp hr]
    exact ⟨n, a, b, m, s, rfl, hm, zn, za, zb, zm, zs⟩
theorem Dr.lst {H : Hp} {d : Addr} (D : Dr H d) : ∃ xs, H d = some (.lst xs) := by
  obtain ⟨x, y, h, _⟩ := D
  exact ⟨_, h⟩
theorem Dr.kp {H H' : Hp} {d l : Addr} (D : Dr H d) (n : d ≠ l) (k : Kp l H H') : Dr H' d := by
  obtain ⟨x, y, h, r⟩ := D
  exact ⟨x, y, k _ _ n h, r⟩
/-- l fresh, then changed: all but d kept -/
theorem Kp.via {H H1 H2 : Hp} {d l : Addr} (k : Kp d H H1) (n : H l = none) (k2 : Kp l H1 H2) : Kp d H H2 := fun x o hx h => k2 x o (ne_of_none h n) (k x o hx h)
/-! the same within a comprehension -/
section
variable {X : Cx} {K : PySem.W.Frag}
theorem pg_tupK {es : List Expr} {k : Nat} {t : TGs} {n : Nat} {pos : Pos} (hc : X.calm = true) (h : PGs X es t) (hK : X.K = K := by rfl)
    (hn : (assignEach es X.env).length = n := by rfl) (hst : (assignEach es X.env).findIdx? (·.1) = none := by rfl) : PG X (.Tuple es k pos) (gTup K n t) := hK ▸ pg_tup hc h hn hst
theorem ix_listK (h : X.K = K := by rfl) : IxR X (rIxL K) := h ▸ ix_list
theorem ix_tupK (h : X.K = K := by rfl) : IxR X (rIxT K) := h ▸ ix_tup
theorem sl_tupAK (h : X.K = K := by rfl) : SlR X (rSlA K) := h ▸ sl_tupA
theorem sl_listK (h : X.K = K := by rfl) : SlR X (rSlL K) := h ▸ sl_list
theorem op_eqDK (hu : X.A.units + 64 < cLine) (h : X.K = K := by rfl) : OpR X (compareOp .Eq) (rEqD K) := h ▸ op_eqD hu
theorem op_neDK (hu : X.A.units + 64 < cLine) (h : X.K = K := by rfl) : OpR X (compareOp .NotEq) (rNeD K) := h ▸ op_neD hu
end
/-- [.. for v in a tuple if t], t never -/
theorem lc_tupN {K : PySem.W.Frag} {σ : L2.St} {H : Hp} {Q : VK} {te : TE} {tt : TT} {a : Addr} {xs : List V} {j : Nat} {vs : List Nat} (hx : SqT K H a xs) (hw : ∀ x, wipe ((wipe σ vs).set j (some x)) vs = wipe σ vs)
    (ht : ∀ (i : Nat) x, xs[i]? = some x → PureT tt ((wipe σ vs).set j (some x)) H false) (k : ∀ p H1, H p = none → Ex H H1 → H1 p = some (.lst []) → Q (.ref p) H1) : LcB (Itt K a) (gName j) tt te vs σ H Q := fun Dl hD => by
  refine lc_tup (xs := xs) (fun i H' => Ex H H' ∧ H' Dl = some (.lst [])) ⟨Ex.new hD, upd_same⟩ (fun i H' _ p => sqt_up p.1 hx) (fun i x H' hi p => ?_) (fun H' p => k Dl H' hD p.1 p.2)
  refine ⟨hw _, ht i x hi H' p.1 _ fun H2 e2 => ?_⟩
  rw [if_neg Bool.false_ne_true]
  exact ⟨p.1.trans e2, e2 _ _ p.2⟩
theorem sz_n {n : Int} (h0 : 0 ≤ n) (h1 : n < 1000000000000000000000000000000) : Sz 110 n := by
  show n.natAbs < 2 ^ 110
  omega
/-- values that are rows of five numbers -/
def RY (k : Nat) (H : Hp) (vs : List V) : Prop := ∀ v ∈ vs, ∃ (p : Addr) (n a b m s : Int), v = .ref p ∧ H p = some (.tup [.int n, .int a, .int b, .int m, .int s]) ∧ Sz k n ∧ Sz k a ∧ Sz k b ∧ Sz k m ∧ Sz k s
theorem RY.imp {k : Nat} {H H' : Hp} {vs : List V} (h : RY k H vs) (f : ∀ (p : Addr) (xs : List V), H p = some (.tup xs) → H' p = some (.tup xs)) : RY k H' vs := fun v hv => by
  obtain ⟨p, n, a, b, m, s, e, hp, z⟩ := h v hv
  exact ⟨p, n, a, b, m, s, e, f _ _ hp, z⟩
theorem RY.ex {k : Nat} {H H' : Hp} {vs : List V} (h : RY k H vs) (e : Ex H H') : RY k H' vs := h.imp fun p _ q => e p _ q
theorem RY.kp {k : Nat} {H H' : Hp} {d : Addr} {vs : List V} (h : RY k H vs) (kp : Kp d H H') (D : Dr H d) : RY k H' vs := h.imp fun _ _ q => kp.tup D q
theorem RY.kpL {k : Nat} {H H' : Hp} {d : Addr} {vs ys : List V} (h : RY k H vs) (kp : Kp d H H') (D : H d = some (.lst ys)) : RY k H' vs := h.imp fun _ _ q => kp.tupL D q
theorem RY.sub {k : Nat} {H : Hp} {vs us : List V} (h : RY k H vs) (f : ∀ v ∈ us, v ∈ vs) : RY k H us := fun v hv => h v (f v hv)
theorem RY.app {k : Nat} {H : Hp} {vs us : List V} (h : RY k H vs) (h' : RY k H us) : RY k H (vs ++ us) := fun v hv => (List.mem_append.mp hv).elim (h v) (h' v)
theorem RY.rows {H : Hp} : ∀ {vs : List V}, RY 6900 H vs → ∃ rs, RowsA H vs rs ∧ RowsY rs
  | [], _ => ⟨[], trivial, fun _ h => by cases h⟩
  | v :: vs, h => by
    obtain ⟨rs, h1, h2⟩ := RY.rows (H := H) (vs := vs) fun u hu => h u (List.mem_cons_of_mem _ hu)
    obtain ⟨p, n, a, b, m, s, e, hp, z⟩ := h v (List.mem_cons_self ..)
    refine ⟨[n, a, b, m, s] :: rs, ⟨⟨p, e, hp⟩, h1⟩, fun r hr => ?_⟩
    rcases List.mem_cons.mp hr with hr | hr
    · exact ⟨n, a, b, m, s, hr, z⟩
    · exact h2 r hr
theorem RowsA.ry {H : Hp} : ∀ {vs : List V} {rs : List (List Int)}, RowsA H vs rs → RowsZ rs → RY 3300 H vs
  | [], [], _, _ => fun _ h => by cases h
  | v :: vs, r :: rs, ⟨⟨p, e, hp⟩, h⟩, z => fun u hu => by
    rcases List.mem_cons.mp hu with hu | hu
    · obtain ⟨n, a, b, m, s, er, _, z'⟩ := z r (List.mem_cons_self ..)
      subst er
      exact ⟨p, n, a, b, m, s, hu.trans e, hp, z'⟩
    · exact RowsA.ry h (fun r hr => z r (List.mem_cons_of_mem _ hr)) u hu
  | [], _ :: _, h, _ => h.elim
  | _ :: _, [], h, _ => h.elim
theorem RY.mono {k j : Nat} {H : Hp} {vs : List V} (h : RY k H vs) (l : k ≤ j) : RY j H vs := fun v hv => by
  obtain ⟨p, n, a, b, m, s, e, hp, z1, z2, z3, z4, z5⟩ := h v hv
  exact ⟨p, n, a, b, m, s, e, hp, z1.mono l, z2.mono l, z3.mono l, z4.mono l, z5.mono l⟩
/-- a paper by a value -/
def PpV (H : Hp) (d : Addr) (v : V) : Prop := ∃ (l : Addr) (vs : List V), v = .ref l ∧ l ≠ d ∧ H l = some (.lst vs) ∧ RY 6900 H vs ∧ vs.length ≤ 6000
theorem PpV.ex {H H' : Hp} {d : Addr} {v : V} (h : PpV H d v) (e : Ex H H') : PpV H' d v := by
  obtain ⟨l, vs, e1, n, h1, h2, h3⟩ := h
  exact ⟨l, vs, e1, n, e _ _ h1, h2.ex e, h3⟩
theorem PpV.kp {H H' : Hp} {d : Addr} {v : V} (h : PpV H d v) (k : Kp d H H') (D : Dr H d) : PpV H' d v := by
  obtain ⟨l, vs, e1, n, h1, h2, h3⟩ := h
  exact ⟨l, vs, e1, n, k _ _ n h1, h2.kp k D, h3⟩
theorem PpV.kpL {H H' : Hp} {d q : Addr} {v : V} {ys : List V} (h : PpV H d v) (k : Kp q H H') (D : H q = some (.lst ys)) (n : v ≠ .ref q) : PpV H' d v := by
  obtain ⟨l, vs, e1, nd, h1, h2, h3⟩ := h
  exact ⟨l, vs, e1, nd, k _ _ (fun z => n (by rw [e1, z])) h1, h2.kpL k D, h3⟩
theorem r_sum {K : PySem.W.Frag} {H : Hp} {Q : VK} {p : Addr} {ns : List Int} (h : SqL K H p (ns.map V.int)) (k : Q (.int ns.sum) H) : rSum K [.ref p] H Q := ⟨p, ns, rfl, h, k⟩
theorem r_tyS {K : PySem.W.Frag} {H : Hp} {z : Str} {R : Prop} (k : R) : tyV K "str" (.str z) H ∧ R := ⟨rfl, k⟩
/-- sep.join(a list of texts) -/
def rJoin (K : PySem.W.Frag) : V → List V → Hp → VK → Prop := fun x xs H Q => ∃ a p, ∃ ys : List Str, x = .str a ∧ xs = [.ref p] ∧ (SqL K H p (ys.map V.str) ∨ SqT K H p (ys.map V.str)) ∧ (ys.map (·.length)).sum + ys.length * a.length ≤ 16777216 ∧ Q (.str (Txt.join a ys)) H
theorem mt_joinR {X : Cx} : MtR X "str.join" (rJoin X.K) := mt_join
theorem r_join {K : PySem.W.Frag} {H : Hp} {Q : VK} {a : Str} {p : Addr} {ys : List Str} (h : SqL K H p (ys.map V.str)) (n : (ys.map (·.length)).sum + ys.length * a.length ≤ 16777216) (k : Q (.str (Txt.join a ys)) H) : rJoin K (.str a) [.ref p] H Q := ⟨a, p, ys, rfl, rfl, .inl h, n, k⟩
theorem r_iZip {K : PySem.W.Frag} {ta : TA} {σ : L2.St} {H : Hp} {R : It → Hp → Prop} (k : ta σ H fun vs H1 => ∃ a b xs ys, vs = [.ref a, .ref b] ∧ SqL K H1 a xs ∧ SqL K H1 b ys ∧ R (Itz K a b) H1) : iZip K ta σ H R := k
/-- [e for x, y in zip(two lists of whole numbers)] -/
theorem lc_zipI {K : PySem.W.Frag} {σ : L2.St} {H : Hp} {Q : VK} {te : TE} {a b : Addr} {xs ys : List Int} {j1 j2 : Nat} {vs : List Nat} (f : Int → Int → V) (ha : SqL K H a (xs.map V.int)) (hb : SqL K H b (ys.map V.int)) (hn : xs.length ≤ 100000)
    (hw : ∀ x y, wipe (((wipe σ vs).set j1 (some x)).set j2 (some y)) vs = wipe σ vs)
    (he : ∀ (i : Nat) x y, xs[i]? = some x → ys[i]? = some y → PureE te (((wipe σ vs).set j1 (some (.int x))).set j2 (some (.int y))) H (f x y))
    (k : ∀ p H1, H p = none → Ex H H1 → H1 p = some (.lst ((xs.zip ys).map fun q => f q.1 q.2)) → Q (.ref p) H1) : LcB (Itz K a b) (gTup K 2 (gCons (gName j1) (gCons (gName j2) gNil))) tYes te vs σ H Q := fun Dl hD => by
  have lz : (xs.zip ys).length = min xs.length ys.length := List.length_zip
  refine ⟨fun i m H' => m = (xs.zip ys).length - i ∧ i ≤ (xs.zip ys).length ∧ Ex H H' ∧ H' Dl = some (.lst (((xs.zip ys).take i).map fun q => f q.1 q.2)), ⟨_, rfl, Nat.zero_le _, Ex.new hD, by rw [upd_same]; rfl⟩, ?_⟩
  rintro i m H' ⟨rfl, hi, e, hd⟩
  by_cases hx : i = (xs.zip ys).length
  · subst hx
    refine .inl ⟨⟨_, _, sql_up e ha, sql_up e hb, by rw [List.length_map, List.length_map]; omega⟩, ?_⟩
    rw [List.take_length] at hd
    exact k Dl H' hD e hd
  · have h1 : i < xs.length := by omega
    have h2 : i < ys.length := by omega
    have g1 : (xs.map V.int)[i]? = some (.int xs[i]) := by rw [List.getElem?_map, List.getElem?_eq_getElem h1]; rfl
    have g2 : (ys.map V.int)[i]? = some (.int ys[i]) := by rw [List.getElem?_map, List.getElem?_eq_getElem h2]; rfl
    have gz : (xs.zip ys)[i]? = some (xs[i], ys[i]) := by
      rw [List.getElem?_eq_getElem (by omega), List.getElem_zip]
    refine .inr ⟨⟨_, _, _, _, sql_up e ha, sql_up e hb, g1, g2⟩, fun H3 => Ex H H3 ∧ H3 Dl = some (.lst (((xs.zip ys).take (i + 1)).map fun q => f q.1 q.2)), fun H3 p => ⟨(xs.zip ys).length - (i + 1), by omega, rfl, by omega, p⟩, ?_⟩
    rintro x H2 ⟨T, x1, y1, rfl, hT, rfl, q1, q2⟩
    have e1 : x1 = .int xs[i] := Option.some.inj ((q1 _ (sql_up e ha)).symm.trans g1)
    have e2 : y1 = .int ys[i] := Option.some.inj ((q2 _ (sql_up e hb)).symm.trans g2)
    subst e1 e2
    refine ⟨T, _, rfl, SqT.of upd_same, rfl, _, _, rfl, _, _, rfl, rfl, hw _ _, ?_⟩
    have eT : Ex H' (upd H' T (.tup [.int xs[i], .int ys[i]])) := Ex.new hT
    refine tYes_k ?_
    rw [if_pos rfl]
    refine he i xs[i] ys[i] (List.getElem?_eq_getElem h1) (List.getElem?_eq_getElem h2) _ (e.trans eT) _ fun H4 e4 => ⟨_, e4 _ _ (eT _ _ hd), ?_, ?_⟩
    · rw [List.length_map, List.length_take]
      exact len_lt (by omega)
    · refine ⟨fun a o ho => ?_, ?_⟩
      · rw [upd_ne (ne_of_none ho hD)]
        exact e4 _ _ (eT _ _ (e _ _ ho))
      · rw [upd_same, List.take_add_one, gz, List.map_append]
        rfl
theorem cut_1 (xs : List V) (h : 1 ≤ xs.length) : cutV xs (some 1) none = xs.drop 1 := by
  have e1 : HT.sIx xs.length 0 (some 1) = 1 := by
    unfold HT.sIx
    simp
    omega
  have e2 : HT.sIx xs.length xs.length none = xs.length := rfl
  unfold cutV
  rw [e1, e2, List.take_of_length_le (by rw [List.length_drop]; omega)]
/-- [e for x in a list of whole numbers if t] -/
theorem lc_lstFI {K : PySem.W.Frag} {σ : L2.St} {H : Hp} {Q : VK} {te : TE} {tt : TT} {a : Addr} {ns : List Int} {j : Nat} {vs : List Nat} (c : Int → Bool) (f : Int → V) (hx : SqL K H a (ns.map V.int)) (hn : ns.length ≤ 100000) (hw : ∀ x, wipe ((wipe σ vs).set j (some x)) vs = wipe σ vs)
    (ht : ∀ x ∈ ns, PureT tt ((wipe σ vs).set j (some (.int x))) H (c x)) (he : ∀ x ∈ ns, c x = true → PureE te ((wipe σ vs).set j (some (.int x))) H (f x))
    (k : ∀ p H1, H p = none → Ex H H1 → H1 p = some (.lst ((ns.filter c).map f)) → Q (.ref p) H1) : LcB (Itl K a) (gName j) tt te vs σ H Q := fun Dl hD => by
  refine lc_list (xs := ns.map V.int) (fun i H' => Ex H H' ∧ H' Dl = some (.lst (((ns.take i).filter c).map f))) ⟨Ex.new hD, upd_same⟩ (fun i H' _ p => sql_up p.1 hx) (fun i x H' hi p => ?_) (fun H' p => k Dl H' hD p.1 (by rw [p.2, List.length_map, List.take_length]))
  rw [List.getElem?_map] at hi
  obtain ⟨z, hz, rfl⟩ := Option.map_eq_some_iff.mp hi
  have mem := List.mem_of_getElem? hz
  have tk : ns.take (i + 1) = ns.take i ++ [z] := by rw [List.take_add_one, hz]; rfl
  refine ⟨hw _, ht z mem H' p.1 _ fun H2 e2 => ?_⟩
  cases hc : c z with
  | true =>
    rw [if_pos rfl]
    refine he z mem hc H2 (p.1.trans e2) _ fun H3 e3 => ⟨_, e3 _ _ (e2 _ _ p.2), ?_, ?_⟩
    · rw [List.length_map]
      have := List.length_filter_le c (ns.take i)
      rw [List.length_take] at this
      exact len_lt (by omega)
    · refine ⟨fun b o hb => ?_, ?_⟩
      · rw [upd_ne (ne_of_none hb hD)]
        exact e3 _ _ (e2 _ _ (p.1 _ _ hb))
      · rw [upd_same, tk, List.filter_append, List.map_append]
        simp [hc]
  | false =>
    rw [if_neg Bool.false_ne_true]
    refine ⟨p.1.trans e2, ?_⟩
    rw [tk, List.filter_append, List.map_append]
    simp [hc, e2 _ _ p.2]
/-! ### a def that calls itself: one frame a turn -/
structure RmD (j : Nat) (A : Around) : Prop where
  hd : A.handled = none
  dp : A.depth + j + 20 < recursionLimit
  un : A.units + 3 * j + 300 < cLine
theorem RmD.room {j : Nat} {A : Around} (r : RmD j A) : Room 5 A := ⟨r.hd, by have := r.dp; omega, by have := r.un; omega⟩
theorem RmD.deeper {j : Nat} {A : Around} (r : RmD (j + 1) A) (env : Env) : RmD j (A.deeper env) :=
  ⟨r.hd, by have := r.dp; show A.depth + 1 + j + 20 < _; omega, by have := r.un; show A.units + 3 + 3 * j + 300 < _; omega⟩
theorem RmD.of {k j : Nat} {A : Around} (r : Room k A) (h : j + 40 ≤ 3 * k) : RmD j A := ⟨r.hd, by have := r.dp; omega, by have := r.un; omega⟩
/-- the def named x keeps the promise sp where there is room for j turns -/
def HasD (P : Program) (w : World) (K : PySem.W.Frag) (mg : Str → Option Value) (base : Heap) (j : Nat) (x : Str) (ps : List Str) (sp : Sp) : Prop :=
  ∃ f fd, mg x = some (.ref f) ∧ PySem.W.keepIn K (.ref f) = true ∧ Binds K fd ps [] ∧ (∀ vs H Q E, sp vs H Q E → vs.length = ps.length) ∧
    ∀ (A : Around) (outer : List Env) (s : Shared) (H : Hp) (args : Args) (us : List Value) (vs : List V) (Q : VK) (E : XK), RmD j A → Env0 P w K mg base A outer s H → BindsTo s fd args (ps.zip us) → Vals vs us → sp vs H Q E →
      codeAny (model P w) A (.call (.ref f) args) (CR CX0 outer P w H s Q E) s
section
variable {P : Program} {w : World} {K : PySem.W.Frag} {mg : Str → Option Value} {base : Heap}
theorem DefAt.okD {x : Str} {st : Stmt} {N ps : List Str} {j : Nat} {sp : Sp} (D : DefAt K mg x st ps) (S : FnScope N ps (defScope st)) (len : ∀ vs H Q E, sp vs H Q E → vs.length = ps.length)
    (hbody : ∀ (f : Addr) (cdv : Value) (A : Around) (outer : List Env) (s : Shared) (H : Hp) (vs : List V) (Q : VK) (E : XK), RmD j (A.deeper (envOfC x (defScope st) s.heap.objs.size f cdv)) → sp vs H Q E →
      ∃ t, PSs (cxOf CX0 P w K mg base N x (defScope st) f cdv A outer s H E).nox (defBody st) t ∧ t { nx := fun _ H' => Q .non H', rt := Q } (start N vs) H) : HasD P w K mg base (j + 1) x ps sp := by
  obtain ⟨f, fd, F, m, b⟩ := D
  refine ⟨f, fd, m, F.kp, b, len, fun A outer s H args us vs Q E rm e0 hb rv hs => ?_⟩
  obtain ⟨_, _, _, _, _, _, cdv, _, _, rfl, lk, cd⟩ := F.ex
  have grown : ∀ (a : Addr) (o : Obj), base.get? a = some o → s.heap.get? a = some o := fun a o h => (e0.bs a o h).1
  have locals : ∀ y ∈ ps.zip us, (defScope st).names.lookup y.1 = some .local ∨ ((defScope st).names.lookup y.1 = some .cell ∧ ((cellsFrom (s.heap.objs.size + 1) (defScope st).names []).lookup y.1).isSome = true) := by
    rintro ⟨y, u⟩ hy
    exact (S.par y (List.of_mem_zip hy).1).imp id fun c => ⟨c, PySem.W.cellsFrom_some _ _ _ (.inl c)⟩
  refine codeAny_call_function (by have := rm.dp; omega) (e0.mod.kin.keeps grown _ _ lk) rfl S.co S.gen rfl (PySem.W.codeRec_of (e0.mod.kin.keeps grown) cd) (hb _ _ _ _ ?_)
  refine wpAny_newFunctionEnv_cells S.kind locals ?_
  rintro env rfl s1 ic
  refine ⟨(e0.mod.nolimit.keeps grown).keeps ic.toInCall.keep, codeAny_func ?_⟩
  obtain ⟨t, ht, hq⟩ := hbody f cdv A outer s H vs Q E (rm.deeper _) hs
  refine wpAny_mono (ht.nox.run [] s1 (start N vs) H _ (inv_start S rm.hd e0 (len _ _ _ _ hs) rv ic) hq) (fun fl s' h => ?_) fun _ _ h => h
  cases fl with
  | ret u =>
    obtain ⟨v, _, H', J, r, q⟩ := h
    exact ⟨v, H', J.os, J.bare, J.base, J.hok, r, q⟩
  | next =>
    obtain ⟨_, H', J, q⟩ := h
    exact ⟨.non, H', J.os, J.bare, J.base, J.hok, rfl, q⟩
  | brk =>
    obtain ⟨_, _, _, q⟩ := h
    exact q.elim
  | cont =>
    obtain ⟨_, _, _, q⟩ := h
    exact q.elim
/-- nothing is promised of what never is -/
theorem DefAt.none {x : Str} {st : Stmt} {ps : List Str} {j : Nat} {sp : Sp} (D : DefAt K mg x st ps) (no : ∀ vs H Q E, ¬ sp vs H Q E) : HasD P w K mg base j x ps sp := by
  obtain ⟨f, fd, F, m, b⟩ := D
  exact ⟨f, fd, m, F.kp, b, fun _ _ _ _ h => (no _ _ _ _ h).elim, fun _ _ _ _ _ _ _ _ _ _ _ _ _ h => (no _ _ _ _ h).elim⟩
theorem HasD.has {x : Str} {ps : List Str} {j k : Nat} {sp : Sp} (G : HasD P w K mg base j x ps sp) (h : j + 40 ≤ 3 * k) : Has P w K mg base CX0 k x ps sp := by
  obtain ⟨f, fd, m, kp, b, len, r⟩ := G
  exact ⟨f, fd, m, kp, b, len, fun A outer s H args us vs Q E hr => r A outer s H args us vs Q E (.of hr h)⟩
end
section
variable {X : Cx} {x : Str} {p pos : Pos} {e : Expr} {es : List Expr} {t : TA} {j : Nat} {ps : List Str} {sp : Sp}
/-- f(e, ..), f itself -/
theorem pcallD (G : HasD X.prog X.w X.K X.mg X.base j x ps sp) (rm : RmD j X.A) (ha : PA X (e :: es) t) (hg : Gl X x := by rfl)
    (hdb : (x == ("__debug__" : Str)) = false := by decide) (he : starEach (e :: es) X.env = (false, eval e X.env) :: starEach es X.env := by rfl) (hpl : (backTo pos (starEach es X.env)).any (·.1) = false := by rfl) :
    PE X (.Call (.Name x p) (e :: es) [] pos) (tCal sp E0 t) := by
  obtain ⟨f, fd, m, kp, b, len, run⟩ := G
  refine ⟨fun pins s σ H Q I h => wpAny_Call_Name_kw (ld_glob I hg m ?_ hdb)⟩
  have h' : t σ H fun vs H1 => sp vs H1 Q E0 := h
  refine PySem.W.callWith_K (h₀ := X.base) I.ok.mod.kin kp (thn (ha.run pos pins s σ H _ I h') fun us s1 ⟨vs, H1, I1, rv, q⟩ => ⟨I1.kIn, ?_⟩) he hpl
  have hu : us.length = ps.length := by rw [← rv.length]; exact len _ _ _ _ q
  have hb := b s1 us I1.kIn (by rw [List.append_nil]; exact hu)
  rw [List.append_nil] at hb
  refine wpAny_call (codeAny_mono (run X.A X.stack s1 H1 ⟨us, []⟩ us vs Q E0 rm I1.env0 hb rv q) fun r s2 hr => ?_)
  match r, hr with
  | .error err, hr => exact pass0 pins σ H1 s1 err s2 I1 hr
  | .ok (.ret u), hr => exact I1.after hr
  | .ok .next, hr => exact hr.elim
  | .ok .brk, hr => exact hr.elim
  | .ok .cont, hr => exact hr.elim
end
/-- a tuple of the module -/
def TupC (K : PySem.W.Frag) (mg : Str → Option Value) (x : Str) (a : Addr) (xs : List V) : Prop := mg x = some (.ref a) ∧ ∀ H, SqT K H a xs
theorem sqt_k {K : PySem.W.Frag} {H : Hp} {a : Addr} {xs : List V} {od : Option Addr} {it : Array Value} {n : Nat} {sl : Array (Option Value)} (L : K.lookup a = some ⟨.type "tuple", od, .seq it n, sl⟩) (v : Vals xs it.toList) (z : it.size ≤ sizeLine) : SqT K H a xs := .inr ⟨_, it, n, L, rfl, rfl, z, v⟩
def rTupOf (K : PySem.W.Frag) : List V → Hp → VK → Prop := fun xs H Q => ∃ p ys, xs = [.ref p] ∧ ((SqL K H p ys ∧ ∀ l, H l = none → Q (.ref l) (upd H l (.tup ys))) ∨ (SqT K H p ys ∧ Q (.ref p) H))
theorem cl_tupOf {X : Cx} : CallR X (.type "tuple") (rTupOf X.K) := call_tuple_of
theorem r_tupL {K : PySem.W.Frag} {H : Hp} {Q : VK} {p : Addr} {ys : List V} (h : SqL K H p ys) (k : ∀ l H1, H l = none → Ex H H1 → H1 l = some (.tup ys) → Q (.ref l) H1) : rTupOf K [.ref p] H Q :=
  ⟨p, ys, rfl, .inl ⟨h, fun l n => k l _ n (Ex.new n) upd_same⟩⟩
def ZipAs (K : PySem.W.Frag) (R : It → Hp → Prop) (vs : List V) (H1 : Hp) : Prop := ∃ a b xs ys, vs = [.ref a, .ref b] ∧ ((SqL K H1 a xs ∧ SqL K H1 b ys ∧ R (Itz K a b) H1) ∨ (SqT K H1 a xs ∧ SqT K H1 b ys ∧ R (RZ.ItzT K a b) H1))
theorem r_zipT {K : PySem.W.Frag} {H : Hp} {R : It → Hp → Prop} {a b : Addr} {xs ys : List V} (ha : SqT K H a xs) (hb : SqT K H b ys) (k : R (RZ.ItzT K a b) H) : ZipAs K R [.ref a, .ref b] H := ⟨a, b, xs, ys, rfl, .inr ⟨ha, hb, k⟩⟩
theorem r_iZipA {K : PySem.W.Frag} {ta : TA} {σ : L2.St} {H : Hp} {R : It → Hp → Prop} (k : ta σ H fun vs H1 => ZipAs K R vs H1) : RZ.iZipA K ta σ H R := k
/-- [e for x, y in zip(two tuples of whole numbers)] -/
theorem lc_zipT {K : PySem.W.Frag} {σ : L2.St} {H : Hp} {Q : VK} {te : TE} {a b : Addr} {xs ys : List Int} {j1 j2 : Nat} {vs : List Nat} (f : Int → Int → V) (ha : SqT K H a (xs.map V.int)) (hb : SqT K H b (ys.map V.int)) (hn : xs.length ≤ 100000)
    (hw : ∀ x y, wipe (((wipe σ vs).set j1 (some x)).set j2 (some y)) vs = wipe σ vs)
    (he : ∀ (i : Nat) x y, xs[i]? = some x → ys[i]? = some y → PureE te (((wipe σ vs).set j1 (some (.int x))).set j2 (some (.int y))) H (f x y))
    (k : ∀ p H1, H p = none → Ex H H1 → H1 p = some (.lst ((xs.zip ys).map fun q => f q.1 q.2)) → Q (.ref p) H1) : LcB (RZ.ItzT K a b) (gTup K 2 (gCons (gName j1) (gCons (gName j2) gNil))) tYes te vs σ H Q := fun Dl hD => by
  have lz : (xs.zip ys).length = min xs.length ys.length := List.length_zip
  refine ⟨fun i m H' => m = (xs.zip ys).length - i ∧ i ≤ (xs.zip ys).length ∧ Ex H H' ∧ H' Dl = some (.lst (((xs.zip ys).take i).map fun q => f q.1 q.2)), ⟨_, rfl, Nat.zero_le _, Ex.new hD, by rw [upd_same]; rfl⟩, ?_⟩
  rintro i m H' ⟨rfl, hi, e, hd⟩
  by_cases hx : i = (xs.zip ys).length
  · subst hx
    refine .inl ⟨⟨_, _, sqt_up e ha, sqt_up e hb, by rw [List.length_map, List.length_map]; omega⟩, ?_⟩
    rw [List.take_length] at hd
    exact k Dl H' hD e hd
  · have h1 : i < xs.length := by omega
    have h2 : i < ys.length := by omega
    have g1 : (xs.map V.int)[i]? = some (.int xs[i]) := by rw [List.getElem?_map, List.getElem?_eq_getElem h1]; rfl
    have g2 : (ys.map V.int)[i]? = some (.int ys[i]) := by rw [List.getElem?_map, List.getElem?_eq_getElem h2]; rfl
    have gz : (xs.zip ys)[i]? = some (xs[i], ys[i]) := by
      rw [List.getElem?_eq_getElem (by omega), List.getElem_zip]
    refine .inr ⟨⟨_, _, _, _, sqt_up e ha, sqt_up e hb, g1, g2⟩, fun H3 => Ex H H3 ∧ H3 Dl = some (.lst (((xs.zip ys).take (i + 1)).map fun q => f q.1 q.2)), fun H3 p => ⟨(xs.zip ys).length - (i + 1), by omega, rfl, by omega, p⟩, ?_⟩
    rintro x H2 ⟨T, x1, y1, rfl, hT, rfl, q1, q2⟩
    have e1 : x1 = .int xs[i] := Option.some.inj ((q1 _ (sqt_up e ha)).symm.trans g1)
    have e2 : y1 = .int ys[i] := Option.some.inj ((q2 _ (sqt_up e hb)).symm.trans g2)
    subst e1 e2
    refine ⟨T, _, rfl, SqT.of upd_same, rfl, _, _, rfl, _, _, rfl, rfl, hw _ _, ?_⟩
    have eT : Ex H' (upd H' T (.tup [.int xs[i], .int ys[i]])) := Ex.new hT
    refine tYes_k ?_
    rw [if_pos rfl]
    refine he i xs[i] ys[i] (List.getElem?_eq_getElem h1) (List.getElem?_eq_getElem h2) _ (e.trans eT) _ fun H4 e4 => ⟨_, e4 _ _ (eT _ _ hd), ?_, ?_⟩
    · rw [List.length_map, List.length_take]
      exact len_lt (by omega)
    · refine ⟨fun a o ho => ?_, ?_⟩
      · rw [upd_ne (ne_of_none ho hD)]
        exact e4 _ _ (eT _ _ (e _ _ ho))
      · rw [upd_same, List.take_add_one, gz, List.map_append]
        rfl
theorem r_neT2 {K : PySem.W.Frag} {H : Hp} {Q : VK} {p q : Addr} {a b a' b' : Int} (h : H p = some (.tup [.int a, .int b])) (h' : H q = some (.tup [.int a', .int b'])) (k : Q (.bl (!decide ([a, b] = [a', b']))) H) : rNeD K (.ref p) (.ref q) H Q :=
  r_neD (.tup (SqT.of h) (dp_ints [a, b])) (.tup (SqT.of h') (dp_ints [a', b'])) (shp_tup _) (shp_tup _) (by rw [eqvT]; exact k)
theorem r_eqT2 {K : PySem.W.Frag} {H : Hp} {Q : VK} {p q : Addr} {a b a' b' : Int} (h : H p = some (.tup [.int a, .int b])) (h' : H q = some (.tup [.int a', .int b'])) (k : Q (.bl (decide ([a, b] = [a', b']))) H) : rEqD K (.ref p) (.ref q) H Q :=
  r_eqD (.tup (SqT.of h) (dp_ints [a, b])) (.tup (SqT.of h') (dp_ints [a', b'])) (shp_tup _) (shp_tup _) (by rw [eqvT]; exact k)
/-- a comprehension within a comprehension -/
theorem blkN {N : List Str} {q : Str} {sc scope0 scope : Scope} {n f : Addr} {cd : Value} {own : List (Str × Nat)} (h : blkC N (relabel scope0 (envOfC "" sc 0 0 .none)) scope own = true) : BlkOk N (relabel scope0 (envOfC q sc n f cd)) scope own := blkOk_by (sc := relabel scope0 (envOfC "" sc 0 0 .none)) h
/-! ### classes -/
def NAs (K : PySem.W.Frag) (C : Addr) : List Str → Prop
  | [] => True
  | f :: fs => NoAttr K C f ∧ NAs K C fs
/-- the class x of the module, objects of it with the attributes fs -/
structure TxC (K : PySem.W.Frag) (mg : Str → Option Value) (x : Str) (C : Addr) (fs : List Str) : Prop where
  cl : Cls K C
  g : mg x = some (.ref C)
  na : NAs K C fs
def MetAt (K : PySem.W.Frag) (C : Addr) (m q : Str) (st : Stmt) (ps : List Str) : Prop := ∃ f fd, Fun K m q st f fd ∧ Meth K C m f ∧ Binds K fd ps []
def IniAt (K : PySem.W.Frag) (C : Addr) (q : Str) (st : Stmt) (ps : List Str) : Prop := ∃ f fd, Fun K "__init__" q st f fd ∧ Mk K C f ∧ Binds K fd ps []
def HasM (P : Program) (w : World) (K : PySem.W.Frag) (mg : Str → Option Value) (base : Heap) (CX : CXT) (k : Nat) (C : Addr) (m : Str) (ps : List Str) (sp : Sp) : Prop := ∃ f fd, Meth K C m f ∧ Binds K fd ps [] ∧ FnOk P w K mg base CX k f fd ps sp
def HasI (P : Program) (w : World) (K : PySem.W.Frag) (mg : Str → Option Value) (base : Heap) (CX : CXT) (k : Nat) (C : Addr) (ps : List Str) (sp : Sp) : Prop := ∃ f fd, Mk K C f ∧ Binds K fd ps [] ∧ FnOk P w K mg base CX k f fd ps sp
section
variable {P : Program} {w : World} {K : PySem.W.Frag} {mg : Str → Option Value} {base : Heap}
theorem met_mk {C : Addr} {m q : Str} {st : Stmt} {ps : List Str} {f : Addr} {oc : Value} {od an : Option Addr} {osl : Array (Option Value)} {kV doc pm cdv ct : Value}
    (a : PySem.W.findIn K (.ref C) m = some (some (.ref f))) (i : PySem.W.isFn K (.ref f) = true) (l : K.lookup f = some ⟨oc, od, .func (PySem.W.fnOf m q (defArgs st) (defBody st) (defScope st) .none kV doc pm an cdv ct), osl⟩)
    (c : PySem.W.codeIn K cdv q = true) (k : PySem.W.keepIn K (.ref f) = true)
    (b : ∀ (kV doc pm : Value) (an : Option Addr) (cdv ct : Value) (us : List Value), us.length = ps.length → bindArgs (PySem.W.fnOf m q (defArgs st) (defBody st) (defScope st) .none kV doc pm an cdv ct) ⟨us, []⟩ = pure (ps.zip us)) : MetAt K C m q st ps :=
  ⟨f, _, fun_mk l c k, ⟨a, i, k⟩, (fun_mk l c k).binds b⟩
theorem ini_mk {C : Addr} {q : Str} {st : Stmt} {ps : List Str} {f : Addr} {oc : Value} {od an : Option Addr} {osl : Array (Option Value)} {kV doc pm cdv ct : Value} (mk : PySem.W.makesIn K C = true) (kc : PySem.W.keepIn K (.ref C) = true)
    (a : PySem.W.findIn K (.ref C) "__init__" = some (some (.ref f))) (i : PySem.W.isFn K (.ref f) = true) (l : K.lookup f = some ⟨oc, od, .func (PySem.W.fnOf "__init__" q (defArgs st) (defBody st) (defScope st) .none kV doc pm an cdv ct), osl⟩)
    (c : PySem.W.codeIn K cdv q = true) (k : PySem.W.keepIn K (.ref f) = true)
    (b : ∀ (kV doc pm : Value) (an : Option Addr) (cdv ct : Value) (us : List Value), us.length = ps.length → bindArgs (PySem.W.fnOf "__init__" q (defArgs st) (defBody st) (defScope st) .none kV doc pm an cdv ct) ⟨us, []⟩ = pure (ps.zip us)) : IniAt K C q st ps :=
  ⟨f, _, fun_mk l c k, ⟨mk, a, i, kc⟩, (fun_mk l c k).binds b⟩
theorem MetAt.ok {C : Addr} {m q : Str} {st : Stmt} {N ps : List Str} {k : Nat} {sp : Sp} (D : MetAt K C m q st ps) (S : FnScope N ps (defScope st)) (len : ∀ vs H Q E, sp vs H Q E → vs.length = ps.length)
    (hbody : ∀ (f : Addr) (cdv : Value) (A : Around) (outer : List Env) (s : Shared) (H : Hp) (vs : List V) (Q : VK) (E : XK), Room k (A.deeper (envOfC q (defScope st) s.heap.objs.size f cdv)) → sp vs H Q E →
      ∃ t, PSs (cxOf CX0 P w K mg base N q (defScope st) f cdv A outer s H E).nox (defBody st) t ∧ t { nx := fun _ H' => Q .non H', rt := Q } (start N vs) H) : HasM P w K mg base CX0 (k + 1) C m ps sp := by
  obtain ⟨f, fd, F, m, b⟩ := D
  exact ⟨f, fd, m, b, F.ok S len fun cdv A outer s H vs Q E hr h => hbody f cdv A outer s H vs Q E hr h⟩
theorem IniAt.ok {C : Addr} {q : Str} {st : Stmt} {N ps : List Str} {k : Nat} {sp : Sp} (D : IniAt K C q st ps) (S : FnScope N ps (defScope st)) (len : ∀ vs H Q E, sp vs H Q E → vs.length = ps.length)
    (hbody : ∀ (f : Addr) (cdv : Value) (A : Around) (outer : List Env) (s : Shared) (H : Hp) (vs : List V) (Q : VK) (E : XK), Room k (A.deeper (envOfC q (defScope st) s.heap.objs.size f cdv)) → sp vs H Q E →
      ∃ t, PSs (cxOf CX0 P w K mg base N q (defScope st) f cdv A outer s H E).nox (defBody st) t ∧ t { nx := fun _ H' => Q .non H', rt := Q } (start N vs) H) : HasI P w K mg base CX0 (k + 1) C ps sp := by
  obtain ⟨f, fd, F, m, b⟩ := D
  exact ⟨f, fd, m, b, F.ok S len fun cdv A outer s H vs Q E hr h => hbody f cdv A outer s H vs Q E hr h⟩
end
/-- x is an object of the class at C without an attribute m -/
def MObj (C : Addr) (m : Str) (x : V) (H : Hp) (R : Prop) : Prop := ∃ a dx fs, x = .ref a ∧ H a = some (.ins C dx fs) ∧ fs.lookup m = none ∧ R
def tMC (C : Addr) (m : Str) (sp : Sp) (E : XK) (ta : TE) (t : TA) : TE := fun σ H Q => ta σ H fun x H1 => MObj C m x H1 (t σ H1 fun vs H2 => sp (x :: vs) H2 Q E)
/-- a new object of the class at C -/
def NewO (C : Addr) (R : Addr → Hp → Prop) (H : Hp) : Prop := ∀ x dx, H x = none → H dx = none → dx ≠ x → R x (upd (upd H dx (.own x)) x (.ins C dx []))
def tMkC (C : Addr) (sp : Sp) (E : XK) (t : TA) : TE := fun σ H Q => t σ H fun vs H1 => NewO C (fun x H2 => sp (.ref x :: vs) H2 (fun v H3 => v = .non ∧ Q (.ref x) H3) E) H1
theorem tMC_of {K : PySem.W.Frag} {C : Addr} {m : Str} {sp : Sp} {E : XK} {ta : TE} {t : TA} {σ : L2.St} {H : Hp} {Q : VK} (h : tMC C m sp E ta t σ H Q) : tMeth C m sp [] E ta t σ H Q := by
  have h' : ta σ H fun x H1 => ∃ a dx fs, x = .ref a ∧ H1 a = some (.ins C dx fs) ∧ fs.lookup m = none ∧ t σ H1 fun vs H2 => sp (x :: vs) H2 Q E := h
  show ta σ H fun x H1 => ∃ a dx fs, x = .ref a ∧ H1 a = some (.ins C dx fs) ∧ fs.lookup m = none ∧ t σ H1 fun vs H2 => sp (x :: (vs ++ [])) H2 Q E
  simp only [List.append_nil]
  exact h'
theorem tMkC_of {C : Addr} {sp : Sp} {E : XK} {t : TA} {σ : L2.St} {H : Hp} {Q : VK} (h : tMkC C sp E t σ H Q) : tMake C sp [] E t σ H Q := by
  have h' : t σ H fun vs H1 => ∀ x dx, H1 x = none → H1 dx = none → dx ≠ x → sp (.ref x :: vs) (upd (upd H1 dx (.own x)) x (.ins C dx [])) (fun v H2 => v = .non ∧ Q (.ref x) H2) E := h
  show t σ H fun vs H1 => ∀ x dx, H1 x = none → H1 dx = none → dx ≠ x → sp (.ref x :: (vs ++ [])) (upd (upd H1 dx (.own x)) x (.ins C dx [])) (fun v H2 => v = .non ∧ Q (.ref x) H2) E
  simp only [List.append_nil]
  exact h'
section
variable {X : Cx} {x m : Str} {C : Addr} {p pos apos : Pos} {o e : Expr} {es : List Expr} {ta : TE} {t : TA} {k : Nat} {ps : List Str} {sp : Sp} {pl : Sem Bool}
theorem pmeth (c : Cls X.K C) (G : HasM X.prog X.w X.K X.mg X.base CX0 k C m ps sp) (hr : Room k X.A) (ho : PE X o ta) (ha : PA X (e :: es) t)
    (hst : starEach (e :: es) X.env = (false, eval e X.env) :: starEach es X.env := by rfl) (hpl : (backTo pos (starEach es X.env)).any (·.1) = false := by rfl)
    (ht : eval (.Call (.Attribute o m apos) (e :: es) [] pos) X.env = (do
      let ov ← eval o X.env
      standAt apos.atName
      let (f, first) ← holding [ov] (getMethod ov m pl)
      callWith pos f first (backTo pos (starEach (e :: es) X.env)) (backToKw pos (keywordEach [] X.env))) := by rfl) :
    PE X (.Call (.Attribute o m apos) (e :: es) [] pos) (tMC C m sp E0 ta t) := by
  obtain ⟨f, fd, hm, b, F⟩ := G
  have q := pe_meth (pl := pl) (pos := pos) (apos := apos) ho c hm F hr b (dvs := []) .nil pass0 ha hst hpl ht
  exact ⟨fun pins s σ H Q I h => q.run pins s σ H Q I (tMC_of (K := X.K) h)⟩
theorem pmeth0 (c : Cls X.K C) (G : HasM X.prog X.w X.K X.mg X.base CX0 k C m ps sp) (hr : Room k X.A) (ho : PE X o ta)
    (ht : eval (.Call (.Attribute o m apos) [] [] pos) X.env = (do
      let ov ← eval o X.env
      standAt apos.atName
      let (f, first) ← holding [ov] (getMethod ov m pl)
      callWith pos f first (backTo pos (starEach [] X.env)) (backToKw pos (keywordEach [] X.env))) := by rfl) :
    PE X (.Call (.Attribute o m apos) [] [] pos) (tMC C m sp E0 ta tNil) := by
  obtain ⟨f, fd, hm, b, F⟩ := G
  have q := pe_meth0 (pl := pl) (pos := pos) (apos := apos) ho c hm F hr b (dvs := []) .nil pass0 ht
  exact ⟨fun pins s σ H Q I h => q.run pins s σ H Q I (tMC_of (K := X.K) h)⟩
theorem pmake (hm : X.mg x = some (.ref C)) (G : HasI X.prog X.w X.K X.mg X.base CX0 k C ps sp) (hr : Room (k + 1) X.A) (ha : PA X (e :: es) t) (hg : Gl X x := by rfl)
    (hdb : (x == ("__debug__" : Str)) = false := by decide) (he : starEach (e :: es) X.env = (false, eval e X.env) :: starEach es X.env := by rfl) (hpl : (backTo pos (starEach es X.env)).any (·.1) = false := by rfl) :
    PE X (.Call (.Name x p) (e :: es) [] pos) (tMkC C sp E0 t) := by
  obtain ⟨f, fd, M, b, F⟩ := G
  have q := pe_make (p := p) M F hr hg hm b (dvs := []) .nil pass0 ha hdb he hpl
  exact ⟨fun pins s σ H Q I h => q.run pins s σ H Q I (tMkC_of h)⟩
theorem pmake0 (hm : X.mg x = some (.ref C)) (G : HasI X.prog X.w X.K X.mg X.base CX0 k C ps sp) (hr : Room (k + 1) X.A) (hg : Gl X x := by rfl)
    (hdb : (x == ("__debug__" : Str)) = false := by decide) : PE X (.Call (.Name x p) [] [] pos) (tMkC C sp E0 tNil) := by
  obtain ⟨f, fd, M, b, F⟩ := G
  have q := pe_make0 (p := p) (pos := pos) M F hr hg hm b (dvs := []) .nil pass0 hdb
  exact ⟨fun pins s σ H Q I h => q.run pins s σ H Q I (tMkC_of h)⟩
end
def FldR (K : PySem.W.Frag) (f : Str) (x : V) (H : Hp) (Q : VK) : Prop := ∃ a C dx fs v, x = .ref a ∧ H a = some (.ins C dx fs) ∧ Cls K C ∧ NoAttr K C f ∧ fs.lookup f = some v ∧ Q v H
def FldW (K : PySem.W.Frag) (f : Str) (x y : V) (H : Hp) (R : Hp → Prop) : Prop := ∃ a C dx fs, x = .ref a ∧ H a = some (.ins C dx fs) ∧ Cls K C ∧ NoAttr K C f ∧ fs.length < 1000 ∧ R (upd H a (.ins C dx (putF f y fs)))
def FldA (K : PySem.W.Frag) (f : Str) (x : V) (H : Hp) (R : Addr → Addr → V → Prop) : Prop := ∃ a C dx fs v, x = .ref a ∧ H a = some (.ins C dx fs) ∧ Cls K C ∧ NoAttr K C f ∧ fs.lookup f = some v ∧ R a C v
def FldA2 (f : Str) (a C : Addr) (z : V) (H : Hp) (R : Hp → Prop) : Prop := ∃ dx fs, H a = some (.ins C dx fs) ∧ fs.length < 1000 ∧ R (upd H a (.ins C dx (putF f z fs)))
section
variable {K : PySem.W.Frag} {σ : L2.St} {H : Hp} {Q : VK} {ta tv : TE} {t : TA} {a C dx : Addr} {fs fs' : List (Str × V)} {f m : Str} {v y : V} {D : Ends} {sp : Sp} {E : XK} {R : Hp → Prop}
theorem r_meth (k : ta σ H fun x H1 => MObj C m x H1 (t σ H1 fun vs H2 => sp (x :: vs) H2 Q E)) : tMC C m sp E ta t σ H Q := k
theorem r_mobj {R : Prop} (h : H a = some (.ins C dx fs)) (l : fs.lookup m = none) (k : R) : MObj C m (.ref a) H R := ⟨a, dx, fs, rfl, h, l, k⟩
theorem r_make (k : t σ H fun vs H1 => NewO C (fun x H2 => sp (.ref x :: vs) H2 (fun v H3 => v = .non ∧ Q (.ref x) H3) E) H1) : tMkC C sp E t σ H Q := k
theorem r_newO {R : Addr → Hp → Prop} (k : ∀ x dx H', H x = none → Ex H H' → H' x = some (.ins C dx []) → R x H') : NewO C R H := fun x dx hx hd n => k x dx _ hx ((Ex.new hd).trans (Ex.new (by rw [upd_ne (Ne.symm n)]; exact hx))) upd_same
theorem r_fldE (k : ta σ H fun x H1 => FldR K f x H1 Q) : tFld K ta f σ H Q := k
theorem r_fld (h : H a = some (.ins C dx fs)) (c : Cls K C) (n : NoAttr K C f) (l : fs.lookup f = some v) (k : Q v H) : FldR K f (.ref a) H Q := ⟨a, C, dx, fs, v, rfl, h, c, n, l, k⟩
theorem r_fldS (k : tv σ H fun y H1 => ta σ H1 fun x H2 => FldW K f x y H2 (D.nx σ)) : sFld K ta tv f D σ H := k
theorem r_fldW (h : H a = some (.ins C dx fs)) (c : Cls K C) (n : NoAttr K C f) (l : fs.length < 1000) (e : putF f y fs = fs') (k : ∀ H', Kp a H H' → H' a = some (.ins C dx fs') → R H') : FldW K f (.ref a) y H R :=
  ⟨a, C, dx, fs, rfl, h, c, n, l, k _ Kp.upd (by rw [e]; exact upd_same)⟩
theorem r_fldAug {rd : V → V → Hp → VK → Prop} (k : ta σ H fun x H1 => FldA K f x H1 fun a C v => tv σ H1 fun y H2 => rd v y H2 fun z H3 => FldA2 f a C z H3 (D.nx σ)) : sFldAug K ta tv rd f D σ H := k
theorem r_fldA {R : Addr → Addr → V → Prop} (h : H a = some (.ins C dx fs)) (c : Cls K C) (n : NoAttr K C f) (l : fs.lookup f = some v) (k : R a C v) : FldA K f (.ref a) H R := ⟨a, C, dx, fs, v, rfl, h, c, n, l, k⟩
theorem r_fldA2 (h : H a = some (.ins C dx fs)) (l : fs.length < 1000) (e : putF f y fs = fs') (k : ∀ H', Kp a H H' → H' a = some (.ins C dx fs') → R H') : FldA2 f a C y H R := ⟨dx, fs, h, l, k _ Kp.upd (by rw [e]; exact upd_same)⟩
theorem r_rAdd {i j : Int} (k : Q (.int (i + j)) H) : rAdd (.int i) (.int j) H Q := ⟨i, j, rfl, rfl, k⟩
theorem r_rSub {i j : Int} (k : Q (.int (i - j)) H) : rSub (.int i) (.int j) H Q := ⟨i, j, rfl, rfl, k⟩
end
/-- all but what stands at some addresses is kept -/
def Kq (ds : List Addr) (H H' : Hp) : Prop := ∀ a o, a ∉ ds → H a = some o → H' a = some o
theorem Kq.trans {ds : List Addr} {H H1 H2 : Hp} (a : Kq ds H H1) (b : Kq ds H1 H2) : Kq ds H H2 := fun x o n h => b x o n (a x o n h)
theorem Ex.kq {ds : List Addr} {H H' : Hp} (e : Ex H H') : Kq ds H H' := fun a o _ h => e a o h
theorem Kp.kq {d : Addr} {ds : List Addr} {H H' : Hp} (k : Kp d H H') (h : d ∈ ds) : Kq ds H H' := fun a o n e => k a o (fun z => n (by rw [z]; exact h)) e
theorem Kq.refl {ds : List Addr} {H : Hp} : Kq ds H H := fun _ _ _ h => h
theorem rPop_is {l : Addr} {xs : List V} {y : V} {H : Hp} {Q : VK} (h : H l = some (.lst xs)) (e : xs[xs.length - 1]? = some y) (k : ∀ H', Kp l H H' → H' l = some (.lst xs.dropLast) → Q y H') : rPop (.ref l) [] H Q := ⟨l, xs, y, rfl, rfl, h, e, k _ Kp.upd upd_same⟩
theorem r_bm0 {K : PySem.W.Frag} {σ : L2.St} {H : Hp} {Q : VK} {ta : TE} {T : String} {r : V → List V → Hp → VK → Prop} (k : ta σ H fun x H1 => tyV K T x H1 ∧ r x [] H1 Q) : tBM0 K T r ta σ H Q := k
/-! flat data compared: whole numbers, texts, none -/
inductive Fd where
  | i (x : Int)
  | s (x : Str)
  | n
  deriving DecidableEq
def Fd.v : Fd → V
  | .i x => .int x
  | .s x => .str x
  | .n => .non
def Fd.d : Fd → PyData
  | .i x => .int x
  | .s x => .str x
  | .n => .none
theorem eqv_fd : ∀ x y : Fd, PyData.eqv x.d y.d = decide (x = y)
  | .i x, .i y => by
    show (x == y) = _
    by_cases h : x = y
    · subst h
      rw [beq_self_eq_true, decide_eq_true rfl]
    · rw [beq_eq_false_iff_ne.mpr h, decide_eq_false (fun z => h (Fd.i.inj z))]
  | .s x, .s y => by
    show (x == y) = _
    by_cases h : x = y
    · subst h
      rw [beq_self_eq_true, decide_eq_true rfl]
    · rw [beq_eq_false_iff_ne.mpr h, decide_eq_false (fun z => h (Fd.s.inj z))]
  | .n, .n => rfl
  | .i _, .s _ => rfl
  | .i _, .n => rfl
  | .s _, .i _ => rfl
  | .s _, .n => rfl
  | .n, .i _ => rfl
  | .n, .s _ => rfl
theorem eqv_fds : ∀ xs ys : List Fd, PyData.eqvAll (xs.map Fd.d) (ys.map Fd.d) = decide (xs = ys)
  | [], [] => by rw [decide_eq_true rfl]; rfl
  | [], y :: ys => by rw [decide_eq_false (by intro h; cases h)]; rfl
  | x :: xs, [] => by rw [decide_eq_false (by intro h; cases h)]; rfl
  | x :: xs, y :: ys => by
    show (PyData.eqv x.d y.d && PyData.eqvAll (xs.map Fd.d) (ys.map Fd.d)) = _
    rw [eqv_fds xs ys, eqv_fd x y]
    by_cases h : x = y
    · subst h
      by_cases h2 : xs = ys
      · subst h2
        rw [decide_eq_true rfl, decide_eq_true rfl, decide_eq_true rfl]
        rfl
      · rw [decide_eq_false h2, decide_eq_false (fun z => h2 (List.cons.inj z).2), Bool.and_false]
    · rw [decide_eq_false h, decide_eq_false (fun z => h (List.cons.inj z).1), Bool.false_and]
def Fd.ok : Fd → Bool
  | .s x => PyData.canLay0 (.str x)
  | _ => true
theorem lay_fds : ∀ xs : List Fd, xs.all Fd.ok = true → PyData.canLayAll0 (xs.map Fd.d) = true
  | [], _ => rfl
  | x :: xs, h => by
    rw [List.all_cons, Bool.and_eq_true] at h
    show (PyData.canLay0 x.d && PyData.canLayAll0 (xs.map Fd.d)) = true
    rw [lay_fds xs h.2, Bool.and_true]
    have h1 := h.1
    cases x with
    | i _ => rfl
    | s _ => exact h1
    | n => rfl
theorem dep_fds : ∀ xs : List Fd, PyData.depthAll (xs.map Fd.d) ≤ 1
  | [] => Nat.zero_le _
  | x :: xs => by
    show max (PyData.depth x.d) (PyData.depthAll (xs.map Fd.d)) ≤ 1
    have h1 : PyData.depth x.d ≤ 1 := by
      cases x <;> (unfold Fd.d PyData.depth; omega)
    have := dep_fds xs
    omega
theorem shp_fdT (xs : List Fd) (ok : xs.all Fd.ok = true) : SeqAt.shaped (.tuple (xs.map Fd.d)) = true := by
  unfold SeqAt.shaped
  rw [Bool.and_eq_true]
  refine ⟨?_, decide_eq_true ?_⟩
  · unfold PyData.canLay0
    exact lay_fds xs ok
  · unfold PyData.depth
    have := dep_fds xs
    omega
theorem dp_fds {K : PySem.W.Frag} {H : Hp} : ∀ xs : List Fd, DpAll K H (xs.map Fd.v) (xs.map Fd.d)
  | [] => .nil
  | .i x :: xs => .cons (.int x) (dp_fds xs)
  | .s x :: xs => .cons (.str x) (dp_fds xs)
  | .n :: xs => .cons .non (dp_fds xs)
theorem eqv_fdT (xs ys : List Fd) : PyData.eqv (.tuple (xs.map Fd.d)) (.tuple (ys.map Fd.d)) = decide (xs = ys) := by
  unfold PyData.eqv
  exact eqv_fds xs ys
theorem r_neF {K : PySem.W.Frag} {H : Hp} {Q : VK} {p q : Addr} {xs ys : List Fd} (h : SqT K H p (xs.map Fd.v)) (h' : SqT K H q (ys.map Fd.v)) (ok : xs.all Fd.ok = true) (ok' : ys.all Fd.ok = true) (k : Q (.bl (!decide (xs = ys))) H) : rNeD K (.ref p) (.ref q) H Q :=
  r_neD (.tup h (dp_fds xs)) (.tup h' (dp_fds ys)) (shp_fdT _ ok) (shp_fdT _ ok') (by rw [eqv_fdT]; exact k)
theorem r_eqF {K : PySem.W.Frag} {H : Hp} {Q : VK} {p q : Addr} {xs ys : List Fd} (h : SqT K H p (xs.map Fd.v)) (h' : SqT K H q (ys.map Fd.v)) (ok : xs.all Fd.ok = true) (ok' : ys.all Fd.ok = true) (k : Q (.bl (decide (xs = ys))) H) : rEqD K (.ref p) (.ref q) H Q :=
  r_eqD (.tup h (dp_fds xs)) (.tup h' (dp_fds ys)) (shp_fdT _ ok) (shp_fdT _ ok') (by rw [eqv_fdT]; exact k)
theorem at_lastI (fo : List Int) (k : Int) : atI ((fo ++ [k]).map V.int) (-1) = some (.int k) := by
  have hl : ((fo ++ [k]).map V.int).length = fo.length + 1 := by simp
  unfold atI ixN
  rw [if_neg (by decide), if_pos (by omega), hl]
  show ((fo ++ [k]).map V.int)[((-1 : Int) + ((fo.length + 1 : Nat) : Int)).toNat]? = some (.int k)
  rw [show ((-1 : Int) + ((fo.length + 1 : Nat) : Int)).toNat = fo.length by omega]
  simp
theorem ok_iS {x : Int} {z : Str} (h : PyData.canLay0 (.str z) = true := by decide +kernel) : [Fd.i x, Fd.s z].all Fd.ok = true := by
  show (true && (PyData.canLay0 (.str z) && true)) = true
  rw [h]
  rfl
theorem ok_nS {z : Str} (h : PyData.canLay0 (.str z) = true := by decide +kernel) : [Fd.n, Fd.s z].all Fd.ok = true := by
  show (true && (PyData.canLay0 (.str z) && true)) = true
  rw [h]
  rfl
theorem ok_SS {y z : Str} (h : PyData.canLay0 (.str y) = true := by decide +kernel) (h' : PyData.canLay0 (.str z) = true := by decide +kernel) : [Fd.s y, Fd.s z].all Fd.ok = true := by
  show (PyData.canLay0 (.str y) && (PyData.canLay0 (.str z) && true)) = true
  rw [h, h']
  rfl
theorem rPop_I {l : Addr} {fo : List Int} {k : Int} {H : Hp} {Q : VK} (h : H l = some (.lst ((fo ++ [k]).map V.int))) (q : ∀ H', Kp l H H' → H' l = some (.lst (fo.map V.int)) → Q (.int k) H') : rPop (.ref l) [] H Q :=
  rPop_is h (by simp) fun H' kp h' => q H' kp (by rw [h']; simp)
theorem at_last2 (fo : List Int) (k k' : Int) : atI ((fo ++ [k] ++ [k']).map V.int) (-2) = some (.int k) := by
  have hl : ((fo ++ [k] ++ [k']).map V.int).length = fo.length + 2 := by simp
  unfold atI ixN
  rw [if_neg (by decide), if_pos (by omega), hl]
  show ((fo ++ [k] ++ [k']).map V.int)[((-2 : Int) + ((fo.length + 2 : Nat) : Int)).toNat]? = some (.int k)
  rw [show ((-2 : Int) + ((fo.length + 2 : Nat) : Int)).toNat = fo.length by omega]
  simp
theorem at_0 {v : V} {vs : List V} : atI (v :: vs) 0 = some v := at_of (j := 0) rfl rfl
end Sd

set_option Elab.async false
set_option linter.all false
set_option maxRecDepth 100000
set_option maxHeartbeats 4000000
/-! exceptions: a list walked beside another one while an exception is handled -/
namespace Sd
open PySem PySem.Spec PyProof.Rows L2 HotX
section
variable {prog : Program} {w : World} {A : Around} {E : Value → Shared → Prop} {s : Shared}
theorem hot_but {x1 it : Addr} {h h' : Heap} (hot : HotAt A x1 h) (e : Heap.ExtBut it h h') (n : x1 ≠ it) : HotAt A x1 h' := by
  obtain ⟨hh, o, vs, h1, d1, c1⟩ := hot
  exact ⟨hh, o, vs, e _ _ n h1, d1, c1⟩
/-- the list's iterator is at its end, an exception is handled -/
theorem next_end_hot {it l x1 : Addr} {i : Nat} {items : Array Value} {Q : Value → Shared → Prop} (hot : HotAt A x1 s.heap) (nx : x1 ≠ it)
    (hit : s.heap.IsListIter it l i) (hl : s.heap.IsList l items) (hx : items[i]? = none)
    (hE : ∀ h' e, Heap.ExtBut it s.heap h' → (∃ o, h'.get? e = some o ∧ o.cls = .type "StopIteration") → E (.ref e) { s with heap := h' }) :
    wpAny (model prog w) A (Builtin.SmallTypes.nextOf (.ref it)) Q E s := by
  have hit' := hit
  obtain ⟨o, ho, hc, hd⟩ := hit'
  have hl' := hl
  obtain ⟨ol, hol, _, nl, hdl⟩ := hl'
  unfold Builtin.SmallTypes.nextOf
  refine wpAny_bind (wpAny_callSpecial?_slot (name := Str.ofString "__next__") hit.typeIs slot_listiter_next (wpAny_call_entry slot_listiter_next hit.typeIs entry_listiter_next ?_ (args_listiter_next _)))
  refine (show wpAny _ _ (field (.ref it) 0 >>= _) _ _ s from wpAny_bind (wpAny_field ho hd (x := .ref l) rfl ?_))
  have nn : ¬ ((Value.ref l == Value.none) = true) := fun z => Bool.false_ne_true z
  show wpAny _ _ (if (Value.ref l == Value.none) = true then _ else _) _ _ s
  rw [if_neg nn]
  refine (show wpAny _ _ (field (.ref it) 1 >>= _) _ _ s from wpAny_bind (wpAny_field ho hd (x := .int i 0) rfl ?_))
  refine (show wpAny _ _ (seqItems? (.ref l) >>= _) _ _ s from wpAny_bind (wpAny_seqItems hol hdl ?_))
  simp only [Int.toNat_natCast, hx]
  refine wpAny_bind (wpAny_rule (wpAny_bind (wpAny_setField ho hd (by simp) ?_)))
  have sb : Heap.ExtBut it s.heap (s.heap.update it (Obj.mapFields fun x => x.setIfInBounds 0 Value.none)) := (Heap.SameBut.update ..).extBut
  have hot1 := hot_but hot sb nx
  refine (show wpAny _ _ (newExc (.type "StopIteration") [] >>= _) _ _ _ from wpAny_bind ?_)
  simp only [newExc, newTuple]
  refine wpAny_bind (wpAny_newObj_type ?_ (by size_fits))
  refine wpAny_bind (m := firstArgMember _ _) (wpAny_of_eq (a := Value.none) (by first | rfl | (simp only [firstArgMember]; rfl)) ?_)
  refine wpAny_newObj_type ?_ (by size_fits)
  obtain ⟨hh, o1, vs1, h1, d1, c1⟩ := hot1
  refine raiseNew_hot (x1 := x1) ⟨hh, o1, vs1, Heap.get?_push_of_some _ (Heap.get?_push_of_some _ h1), d1, c1⟩ (Nat.ne_of_lt (Heap.lt_size (Heap.get?_push_of_some _ h1))) (Heap.get?_push_size _ rfl) rfl (by first | (simp; done) | (simp; omega) | (simp only [Array.size_append]; simp; omega)) ?_
  refine hE _ _ (fun c u nc ec => ?_) ⟨_, Heap.get?_update_self _ (Heap.get?_push_size _ rfl) rfl, rfl⟩
  have e1 := Heap.get?_push_of_some { cls := .type "tuple", data := .seq ([] : List Value).toArray } (sb c u nc ec)
  rw [Heap.get?_update_other _ _ (Nat.ne_of_gt (Heap.lt_size (by first | exact e1 | exact Heap.get?_push_of_some _ (sb c u nc ec))))]
  exact Heap.get?_push_of_some _ (Heap.get?_push_of_some _ (sb c u nc ec))
end
section
variable {prog : Program} {w : World} {A : Around} {E : Value → Shared → Prop} {s : Shared}
/-- the zip of two lists is at its end as the first one is -/
theorem zip_stop_hot {x1 z TI TO i1 i2 l1 l2 : Addr} {k1 : Nat} {xs : Array Value} {Q : Option Value → Shared → Prop} (hot : HotAt A x1 s.heap) (nz : x1 ≠ z) (n1 : x1 ≠ i1) (D : ZipApart z TI TO i1 i2 l1 l2)
    (hz : IsZip s.heap z TI TO .none) (hTI : IsPair s.heap TI (.ref i1) (.ref i2)) (h1 : s.heap.IsListIter i1 l1 k1) (hl1 : s.heap.IsList l1 xs) (hx : xs[k1]? = none)
    (hQ : ∀ h', (∀ c o, c ≠ z → c ≠ i1 → s.heap.get? c = some o → h'.get? c = some o) → Q none { s with heap := h' }) : wpAny (model prog w) A (pyNext (.ref z)) Q E s := by
  have hT : s.TypeIs (.ref z) "zip" := ⟨_, hz, rfl⟩
  have way : wpAny (model prog w) A.in1 (Builtin.«zip.__next__» ⟨[.ref z], []⟩) (fun fin s' => ∃ v, fin = .done (.ret v) ∧ False) (fun e s' => ∃ e', e = .ref e' ∧ (∃ o, s'.heap.get? e' = some o ∧ o.cls = .type "StopIteration") ∧ Q none s') s := by
    refine (show wpAny _ _ (field (.ref z) 2 >>= _) _ _ _ from wpAny_bind (wpAny_field hz rfl (x := .bool false) rfl ?_))
    refine (show wpAny _ _ (field (.ref z) 3 >>= _) _ _ _ from wpAny_bind (wpAny_field hz rfl (x := .ref TI) rfl ?_))
    refine wpAny_bind (wpAny_seqItems hTI rfl ?_)
    refine (show wpAny _ _ (Builtin.SmallTypes.ownedTupleIsFree (.ref z) >>= _) _ _ _ from wpAny_bind ?_)
    unfold Builtin.SmallTypes.ownedTupleIsFree
    refine wpAny_bind (wpAny_field hz rfl (x := .none) rfl (wpAny_pure ?_))
    simp only [if_true]
    refine wpAny_bind (wpAny_rule (wpAny_bind (wpAny_field hz rfl (x := .ref TO) rfl (wpAny_bind (wpAny_setField_rec hz (by simp) fun h2 hz2 hs2 => ?_)))))
    replace hz2 : IsZip h2 z TI TO .ellipsis := hz2
    refine wpAny_bind ?_
    simp only [List.zipIdx_cons, List.zipIdx_nil, List.forIn_cons, List.forIn_nil]
    refine wpAny_bind (wpAny_bind (wpAny_onRaise ?_))
    have hot2 : HotAt A x1 h2 := hot_but hot hs2.extBut nz
    refine (show wpAny _ _ (Builtin.SmallTypes.nextOf (.ref i1) >>= _) _ _ _ from wpAny_bind (next_end_hot (x1 := x1) hot2 n1 (h1.extBut hs2.extBut D.i1z) (hl1.extBut hs2.extBut D.l1z) hx fun h3 e hs3 he => ?_))
    obtain ⟨oe, hoe, hce⟩ := he
    have hz3 : IsZip h3 z TI TO .ellipsis := hs3 _ _ D.i1z.symm hz2
    have hez : e ≠ z := fun q => by
      rw [q, hz3] at hoe
      cases hoe
      simp at hce
    refine wpAny_setField_rec hz3 (by simp) fun h4 _ hs4 => ⟨e, rfl, ⟨oe, hs4.extBut _ _ hez hoe, hce⟩, hQ h4 fun c o c1 c2 q => hs4.extBut _ _ c1 (hs3 _ _ c2 (hs2.extBut _ _ c1 q))⟩
  unfold pyNext
  refine wpAny_bind (wpAny_attempt (wpAny_callSpecial?_slot (name := Str.ofString "__next__") hT F.slot_zip_next (wpAny_call_entry F.slot_zip_next hT F.entry_zip_next (wpAny_mono way (fun f s' q => ?_) fun e s' q => ?_) (F.args_zip_next_1 _))))
  · obtain ⟨_, _, q⟩ := q
    exact q.elim
  · obtain ⟨e', rfl, ⟨o, ho, hc⟩, q⟩ := q
    exact wpAny_bind (wpAny_isInstance (T := "StopIteration") (b := true) ⟨o, ho, hc⟩ isSubtype_stop (wpAny_pure q))
end
theorem hot_at {X : Cx} {pins : List (Addr × Obj)} {σ : L2.St} {H : Hp} {s : Shared} (c : L2H.HotC X) (I : Inv X pins σ H s) : ∃ x1, HotAt X.A x1 s.heap ∧ ∃ p ∈ X.pn ++ pins, p.1 = x1 := by
  obtain ⟨p, ⟨hh, v1, e1, c1⟩, hp⟩ := c
  exact ⟨p.1, ⟨hh, p.2, v1, (I.pin p (List.mem_append_left _ hp)).1, e1, c1⟩, p, List.mem_append_left _ hp, rfl⟩
theorem turn_zipH {P : Program} {w : World} {K : PySem.W.Frag} {elts : List Expr} {kk : Nat} {tpos : Pos} {a b z TI TO i1 i2 : Addr} (D : ZipApart z TI TO i1 i2 a b) :
    L2H.TurnH P w K (.Tuple elts kk tpos) ⟨(Itz K a b).go, (Itz K a b).yld, fun i H => ∃ xs : List V, SqL K H a xs ∧ xs.length ≤ i⟩ [z, TI, TO, i1, i2] z (fun i h => IsZip h z TI TO .none ∧ IsPair h TI (.ref i1) (.ref i2) ∧ (∃ x y, IsPair h TO x y) ∧ h.IsListIter i1 a i ∧ h.IsListIter i2 b i) where
  mem := List.mem_cons_self
  obj := fun i h ⟨hz, hTI, ⟨x, y, hTO⟩, ⟨o1, e1, _, d1⟩, ⟨o2, e2, _, d2⟩⟩ c hc => by
    have e' : c = z ∨ c = TI ∨ c = TO ∨ c = i1 ∨ c = i2 := by simpa using hc
    rcases e' with rfl | rfl | rfl | rfl | rfl
    · exact ⟨_, hz, fun v q => nomatch q⟩
    · exact ⟨_, hTI, fun v q => nomatch q⟩
    · exact ⟨_, hTO, fun v q => nomatch q⟩
    · exact ⟨o1, e1, fun v q => by rw [d1] at q; cases q⟩
    · exact ⟨o2, e2, fun v q => by rw [d2] at q; cases q⟩
  keep := fun i h h' ⟨hz, hTI, ⟨x, y, hTO⟩, h1, h2⟩ k =>
    ⟨k z (by simp) _ hz, k TI (by simp) _ hTI, ⟨x, y, k TO (by simp) _ hTO⟩, h1.at fun o q => k i1 (by simp) o q, h2.at fun o q => k i2 (by simp) o q⟩
  item := by
    intro X hP hw hK hc i pins s σ H E I hf st hg
    subst hP hw hK
    obtain ⟨hz, hTI, ⟨x0, y0, hTO⟩, h1, h2⟩ := st
    obtain ⟨xs, ys, x, y, hqx, hqy, hx, hy⟩ := hg
    obtain ⟨its, rv, p, _⟩ := I.list hqx
    obtain ⟨its2, rv2, p2, _⟩ := I.list hqy
    obtain ⟨u, hu, ru⟩ := rv.get hx
    obtain ⟨u2, hu2, ru2⟩ := rv2.get hy
    refine wpAny_pyNext_zip_item D hz hTI hTO h1 h2 p.isList p2.isList (x := u) (y := u2) (by simpa using hu) (by simpa using hu2) fun h' z' TO' h1' h2' hT hsz hk => ⟨_, rfl, ?_⟩
    refine wpAny_letOwnedTupleGo_zip (s := { s with heap := h' }) z' fun h'' z'' sb => ?_
    have big : ∀ c o, s.heap.get? c = some o → s.heap.objs.size ≠ c := fun c o e => Nat.ne_of_gt (Heap.lt_size e)
    have new : ObjOk X.prog X.w (upd H s.heap.objs.size (.tup [x, y])) h'' s.heap.objs.size (.tup [x, y]) :=
      ⟨by show 2 ≤ sizeLine; decide, [u, u2], .cons ru (.cons ru2 .nil), ⟨_, (sb.2 _ (big _ _ hz)).trans hT, rfl, _, rfl⟩⟩
    have I1 : Inv X pins σ (upd H s.heap.objs.size (.tup [x, y])) { s with heap := h'' } :=
      I.turnedNew (t' := s.toks) (ch := [z, TI, TO, i1, i2]) (fun c o hb q => (sb.2 c (fun q' => hb (by simp [q']))).trans (hk c o (fun q' => hb (by simp [q'])) (fun q' => hb (by simp [q'])) (fun q' => hb (by simp [q'])) (fun q' => hb (by simp [q'])) q)) hf (Nat.le_refl _) new
    refine ⟨.ref s.heap.objs.size, _, I1, rfl, ⟨_, x, y, rfl, I.hok.fresh (Nat.le_refl _), rfl, fun l hl => by rw [I.list_inj hl hqx]; exact hx, fun l hl => by rw [I.list_inj hl hqy]; exact hy⟩,
      ⟨z'', (sb.2 _ D.TIz).trans (hk _ _ D.TIz D.TITO D.TIi1 D.TIi2 hTI), ⟨u, u2, (sb.2 _ D.TOz).trans TO'⟩, h1'.at fun o q => (sb.2 _ D.i1z).trans q, h2'.at fun o q => (sb.2 _ D.i2z).trans q⟩, fun c hcm => ?_⟩
    rw [upd_ne]
    · exact (hf c hcm).1
    · intro q
      have e' : c = z ∨ c = TI ∨ c = TO ∨ c = i1 ∨ c = i2 := by simpa using hcm
      obtain ⟨o1, e1, _⟩ := h1
      obtain ⟨o2, e2, _⟩ := h2
      rcases e' with r | r | r | r | r
      · exact big _ _ hz (q.symm.trans r)
      · exact big _ _ hTI (q.symm.trans r)
      · exact big _ _ hTO (q.symm.trans r)
      · exact big _ _ e1 (q.symm.trans r)
      · exact big _ _ e2 (q.symm.trans r)
  done := by
    intro X hP hw hK hc i pins s σ H E I hf st hg
    subst hP hw hK
    obtain ⟨hz, hTI, _, h1, _⟩ := st
    obtain ⟨xs, hqx, hend⟩ := hg
    obtain ⟨its, rv, p, _⟩ := I.list hqx
    obtain ⟨x1, hot, q, hq, e1⟩ := hot_at hc I
    have ap : ∀ c ∈ [z, TI, TO, i1, i2], x1 ≠ c := fun c hc => by
      rw [← e1]
      exact (hf c hc).2.2.2.2.2 q hq
    exact zip_stop_hot hot (ap z (by simp)) (ap i1 (by simp)) D hz hTI h1 p.isList (by have := rv.length; simp; omega) fun h' hk =>
      ⟨rfl, I.turnedL (t' := s.toks) (ch := [z, TI, TO, i1, i2]) (fun c o hb q => hk c o (fun q' => hb (by simp [q'])) (fun q' => hb (by simp [q'])) q) hf⟩
  self := fun A i s Q E st h => wpAny_pyIter_zip st.1 h
def ItzH (K : PySem.W.Frag) (a b : Addr) : It := ⟨(Itz K a b).go, (Itz K a b).yld, fun i H => ∃ xs : List V, SqL K H a xs ∧ xs.length ≤ i⟩
def iZipH (K : PySem.W.Frag) (ta : TA) : TI := fun σ H R => ta σ H fun vs H1 => ∃ a b xs ys, vs = [.ref a, .ref b] ∧ SqL K H1 a xs ∧ SqL K H1 b ys ∧ R (ItzH K a b) H1
theorem pi_zipH {X : Cx} {e e2 : Expr} {ta : TA} {p pos tpos : Pos} {elts : List Expr} {kk : Nat} (hg : Gl X "zip") (hm : X.mg "zip" = none) (ha : PA X [e, e2] ta)
    (hs : starEach [e, e2] X.env = (false, eval e X.env) :: starEach [e2] X.env := by rfl) (hpl : (backTo pos (starEach [e2] X.env)).any (·.1) = false := by rfl) :
    L2H.PIH X (.Tuple elts kk tpos) (.Call (.Name "zip" p) [e, e2] [] pos) (iZipH X.K ta) := by
  refine ⟨fun pins s σ H R I h => Call_ (ld_blt I hg hm PyProof.Rows.boot_zip (PyProof.Rows.callWith_type1 (thn (ha.run pos pins s σ H _ I h) fun us s1 ⟨vs, H1, I1, r1, q1⟩ => ?_) hs hpl))⟩
  obtain ⟨a, b, xs, ys, rfl, hqx, hqy, q⟩ := q1
  cases r1 with
  | cons r rr =>
    cases rr with
    | cons r' rr =>
      cases rr
      cases r
      cases r'
      obtain ⟨its, rv, p1, _⟩ := I1.list hqx
      obtain ⟨its2, rv2, p2, _⟩ := I1.list hqy
      refine call_zip_2 p1.isList p2.isList fun h' hz hTI hTO h1 h2 hsz hk => wpAny_pyIter_zip hz ?_
      have I2 : Inv X pins σ H1 { s1 with heap := h' } := I1.kept (t' := s1.toks) hk
      refine ⟨s1.heap.objs.size + 4, [s1.heap.objs.size + 4, s1.heap.objs.size + 2, s1.heap.objs.size + 3, s1.heap.objs.size, s1.heap.objs.size + 1], _, _, H1, rfl, I2, turn_zipH (PySem.W.ktu_apart s1.heap.objs.size a b p1.lt p2.lt), ⟨hz, hTI, ⟨_, _, hTO⟩, h1, h2⟩, fun c hcm => ?_, q⟩
      have hle : s1.heap.objs.size ≤ c := by
        have e' : c = s1.heap.objs.size + 4 ∨ c = s1.heap.objs.size + 2 ∨ c = s1.heap.objs.size + 3 ∨ c = s1.heap.objs.size ∨ c = s1.heap.objs.size + 1 := by simpa using hcm
        rcases e' with z | z | z | z | z <;> (rw [z]; first | exact Nat.le_refl _ | exact Nat.le_add_right _ _)
      exact I1.fpOk hle (I1.hok.fresh hle)
/-! a list comprehension while an exception is handled -/
abbrev blkP (X : Cx) (s : Shared) (H : Hp) (scope : Scope) (cenv : Env) (fp : List Addr) : Cx := { X with s_0 := s, H_0 := H, env := cenv, outer := X.stack, ex := fp, fn := fun x => scope.names.lookup x == some .cell, xe := fun _ _ => False }
theorem blkP_inv {X : Cx} {pins : List (Addr × Obj)} {σ σ' : L2.St} {H H' : Hp} {s s' : Shared} {s3 : Shared} {H3 : Hp} {scope : Scope} {ce : Env} {fp : List Addr} (I : Inv X pins σ H s) (J : Inv (X.blk s3 H3 scope ce fp) [] σ' H' s')
    (k : ∀ b o, s.heap.get? b = some o → s'.heap.get? b = some o) (kn : ∀ b o, s.heap.get? b = some o → H b = none → H' b = none) (cl : s.heap.objs.size ≤ ce.locals) : Inv (blkP X s3 H3 scope ce fp) [] σ' H' s' := by
  have ok : (blkP X s3 H3 scope ce fp).Ok := ⟨J.ok.mod, J.ok.kind, J.ok.glob, J.ok.blt, J.ok.above, J.ok.inj, J.ok.has, J.ok.cab, J.ok.hd, J.ok.frames, J.ok.stk, J.ok.exf, J.ok.bs, J.ok.bsz, J.ok.noex, J.ok.exfs, J.ok.funs, J.ok.frf⟩
  refine ⟨ok, J.os, J.bare, J.base, J.loc, J.cell, J.free, J.freeC, fun p hp => ?_, J.hok, J.len⟩
  have hp' : p ∈ X.pn := by
    rw [List.append_nil] at hp
    exact hp
  obtain ⟨e, n, nl, nf, d⟩ := I.pin p (List.mem_append_left _ hp')
  refine ⟨k _ _ e, kn _ _ e n, Nat.ne_of_lt (Nat.lt_of_lt_of_le (Heap.lt_size e) cl), fun z => ?_, d⟩
  exact (List.mem_cons.mp (I.stkSub _ z)).elim nl nf
theorem pe_lcH {X : Cx} {elt tg iter : Expr} {ifs : List Expr} {scope : Scope} {own : List (Str × Nat)} {pos : Pos} {wi : TI} {g : TG} {tt : TT} {te : TE} (hc : L2H.HotC X) (hN : X.N.Nodup) (hi : L2H.PIH X tg iter wi) (ok : BlkOk X.N X.env.scope scope own)
    (hg : ∀ (s : Shared) (H : Hp) (C : Addr) (cl : List (Str × Addr)) (fp : List Addr), PG (blkP X s H scope (compEnvC scope cl C X.env) fp) tg g) (ht : ∀ (s : Shared) (H : Hp) (C : Addr) (cl : List (Str × Addr)) (fp : List Addr), PTs (blkP X s H scope (compEnvC scope cl C X.env) fp) ifs tt)
    (he : ∀ (s : Shared) (H : Hp) (C : Addr) (cl : List (Str × Addr)) (fp : List Addr), PE (blkP X s H scope (compEnvC scope cl C X.env) fp) elt te) (hs : ∀ x, foldedSetIterable iter X.env x = pure x := by intro _; rfl) :
    PE X (.ListComp elt [⟨tg, iter, ifs, 0⟩] scope pos) (tLc wi g tt te (own.map (·.2))) := by
  refine ⟨fun pins s σ H Q I h => ?_⟩
  rw [eval_ListComp]
  have fre : ∀ y ∈ scope.names, y.2 = .free → ∃ c, X.env.cells.lookup y.1 = some c := fun y hy e => (ok.free y hy e).elim (fun k => I.ok.has _ (.inl k)) fun k => I.ok.has _ (.inr k)
  refine wpAny_comprehension_free (use := none) rfl hs (closure_ok fre) ok.kind (fun y hy e => by rw [ok.uniq y hy, e]) (thn (hi.run pins s σ H _ I h) fun xv s1 hx => thn hx fun itv s2 h2 => ?_)
  obtain ⟨it, fp, tn, J, H2, rfl, I2, T, st2, f2, q⟩ := h2
  refine wpAny_newObj_type (newEnv_comp ?_) (by show 0 ≤ sizeLine; decide)
  -- the new list
  generalize hD : s2.heap.objs.size = D
  have hDn : H2 D = none := I2.hok.fresh (Nat.le_of_eq hD)
  obtain ⟨W, ⟨m0, w0⟩, turn⟩ := q D hDn
  generalize hs3 : ({ s2 with heap := s2.heap.push { cls := .type "list", data := .seq ([] : List Value).toArray } } : Shared) = s3
  have h3 : s3.heap = s2.heap.push { cls := .type "list", data := .seq ([] : List Value).toArray } := by rw [← hs3]
  have k3 : ∀ b o, s2.heap.get? b = some o → s3.heap.get? b = some o := fun b o e => by
    rw [h3]
    exact Heap.get?_push_of_some _ e
  have I3 : Inv X pins σ (upd H2 D (.lst [])) s3 := by
    rw [← hs3]
    refine I2.laid (t' := s2.toks) (fun b o e => Heap.get?_push_of_some _ e) (Nat.le_of_eq hD) ⟨Nat.zero_le _, [], 0, .nil, ?_⟩
    rw [← hD]
    exact Heap.get?_push_size _ rfl
  have sz : ∀ b ∈ fp, b < s2.heap.objs.size := fun b hb => by
    obtain ⟨o, e, _⟩ := T.obj _ _ st2 b hb
    exact Heap.lt_size e
  have f3 : ∀ b ∈ fp, FpOk X pins (upd H2 D (.lst [])) b ∧ b < s3.heap.objs.size := fun b hb => by
    refine ⟨⟨?_, (f2 b hb).2⟩, by rw [h3, Heap.size_push]; exact Nat.lt_succ_of_lt (sz b hb)⟩
    rw [upd_ne (by rw [← hD]; exact Nat.ne_of_lt (sz b hb))]
    exact (f2 b hb).1
  have I4' := block_start I3 ok hN f3
  generalize hce : compEnvC scope (cellsFrom (s3.heap.objs.size + 1) scope.names (cloFrom X.env.cells scope.names [])) s3.heap.objs.size X.env = ce at I4'
  have pg : PG (blkP X s3 (upd H2 D (.lst [])) scope ce fp) tg g := hce ▸ hg _ _ _ _ _
  have pt : PTs (blkP X s3 (upd H2 D (.lst [])) scope ce fp) ifs tt := hce ▸ ht _ _ _ _ _
  have pe : PE (blkP X s3 (upd H2 D (.lst [])) scope ce fp) elt te := hce ▸ he _ _ _ _ _
  have cL : ce.locals = s3.heap.objs.size := by rw [← hce]; rfl
  have I4 := blkP_inv I3 I4' (fun b o e => pushCells_keeps _ _ _ _ (Heap.get?_push_of_some _ e)) (fun _ _ _ n => n) (by rw [cL]; exact Nat.le_refl _)
  clear I4'
  show codeAny _ _ (.compStart (.ListComp elt [⟨tg, iter, ifs, 0⟩] scope pos) 0 (.ref it) (.ref D) (compEnvC scope (cellsFrom (s3.heap.objs.size + 1) scope.names (cloFrom X.env.cells scope.names [])) s3.heap.objs.size X.env)) (compPost (model X.prog X.w) X.A X.xe none _ (.ref D) s3.heap.objs.size) { s3 with heap := pushCells (s3.heap.push { cls := .type "dict", data := .dict #[] }) scope.names }
  rw [hce]
  have nfp : ∀ b ∈ fp, (upd H2 D (.lst [])) b = none := fun b hb => (f3 b hb).1.1
  have hcB : L2H.HotC (blkP X s3 (upd H2 D (.lst [])) scope ce fp) := hc
  have pnB : ∀ b ∈ fp, ∀ p ∈ X.pn, p.1 ≠ b := fun b hb p hp => (f3 b hb).1.2.2.2.2.2 p (List.mem_append_left _ hp)
  generalize hH3 : upd H2 D (.lst []) = H3 at *
  generalize hs4 : ({ s3 with heap := pushCells (s3.heap.push { cls := .type "dict", data := .dict #[] }) scope.names } : Shared) = s4 at *
  have st4 : tn 0 s4.heap := T.keep _ _ _ st2 fun b _ o e => by
    rw [← hs4]
    exact pushCells_keeps _ _ _ _ (Heap.get?_push_of_some _ (k3 _ _ e))
  have stat : ∀ {σ' : L2.St} {H' : Hp} {s' : Shared}, Inv (blkP X s3 H3 scope ce fp) [] σ' H' s' → (∀ b ∈ fp, H' b = none) → ∀ b ∈ fp, FpOk (blkP X s3 H3 scope ce fp) [] H' b := fun {σ' H' s'} I' hn b hb =>
    ⟨hn b hb, (I'.ok.exf b hb).1, I'.ok.exfs b hb, .inl hb, fun x c e => (I'.ok.exf b hb).2 x c e, fun p hp => pnB b hb p (by rw [List.append_nil] at hp; exact hp)⟩
  have loop : codeAny (model X.prog X.w) X.A (.compLoop (.ListComp elt [⟨tg, iter, ifs, 0⟩] scope pos) 0 (.ref it) (.ref D) ce) (compPost (model X.prog X.w) X.A X.xe none (EP X pins σ Q) (.ref D) s3.heap.objs.size) s4 := by
    refine compLoop_any (fun n s' => ∃ i H', Inv (blkP X s3 H3 scope ce fp) [] (wipe σ (own.map (·.2))) H' s' ∧ tn i s'.heap ∧ (∀ b ∈ fp, H' b = none) ∧ W i n H') ?_ m0 ⟨0, H3, I4, st4, nfp, w0⟩
    rintro n s5 ⟨i, H5, I5, st5, n5, w5⟩
    rcases turn i n H5 w5 with ⟨stop, qq⟩ | ⟨go, Nx, hNx, step⟩
    · refine thnF (T.done (blkP X s3 H3 scope ce fp) rfl rfl rfl hcB i [] s5 _ H5 (fun _ _ => False) I5 (stat I5 n5) st5 stop) fun r s6 ⟨hr, I6⟩ => ?_
      subst hr
      have I7 : Inv X pins σ H5 s6 := I3.call' (ch := fp) I6.os I6.base I6.hok I6.bare fun b hb => ⟨(f3 b hb).1.2.2.2.1, (f3 b hb).1.2.1, (f3 b hb).1.2.2.2.2.1, (f3 b hb).1.2.2.2.2.2⟩
      have nC : H5 s3.heap.objs.size = none := cL ▸ (I6.free : H5 ce.locals = none)
      obtain ⟨m, hn, _⟩ := I6.loc
      have hn' : s6.heap.Ns s3.heap.objs.size m := cL ▸ (hn : s6.heap.Ns ce.locals m)
      obtain ⟨g0, g1, g2, g3, g4, g5⟩ := I3.fpOk (Nat.le_refl _) nC
      exact ⟨m, hn', fun h'' sb => ⟨.ref D, H5, I7.turned (t' := s6.toks) (fun b o hb e => (sb.2 b hb).trans e) g0 g1 g3 g4 g5, rfl, qq⟩⟩
    · refine thnF (T.item (blkP X s3 H3 scope ce fp) rfl rfl rfl hcB i [] s5 _ H5 (fun _ _ => False) I5 (stat I5 n5) st5 go) fun r s6 ⟨u, hr, h6⟩ => ?_
      subst hr
      refine thnF h6 fun _ s7 ⟨x, H7, I7, r7, y7, st7, n7⟩ => ?_
      have I7' := I7.pinned (stat I7 n7) (T.obj _ _ st7)
      refine thnF (pg.run _ s7 _ H7 x u _ I7' r7 (step x H7 y7)) fun _ s8 ⟨σ8, H8, I8, hw8, q8⟩ => ?_
      refine thnF (pt.run _ s8 σ8 H8 _ I8 q8) fun b s9 ⟨H9, I9, q9⟩ => ?_
      have fin : ∀ {s' : Shared} {H' : Hp}, Inv (blkP X s3 H3 scope ce fp) ([] ++ pinsAt fp s7.heap) σ8 H' s' → Nx H' → ∃ m, m < n ∧ ∃ i H', Inv (blkP X s3 H3 scope ce fp) [] (wipe σ (own.map (·.2))) H' s' ∧ tn i s'.heap ∧ (∀ b ∈ fp, H' b = none) ∧ W i m H' := fun {s' H'} I' nx => by
        obtain ⟨m', hm, w'⟩ := hNx H' nx
        have pin' : ∀ b ∈ fp, ∀ o, s7.heap.get? b = some o → s'.heap.get? b = some o ∧ H' b = none := fun b hb o e =>
          ⟨(I'.pin (b, o) (List.mem_append_right _ (List.mem_append_right _ (mem_pinsAt hb e)))).1, (I'.pin (b, o) (List.mem_append_right _ (List.mem_append_right _ (mem_pinsAt hb e)))).2.1⟩
        refine ⟨m', hm, i + 1, H', (I'.unpinned (pins := [])).weak (by rw [← hw8, wipe_length]) (fun j v e => ?_), T.keep _ _ _ st7 fun b hb o e => (pin' b hb o e).1, fun b hb => ?_, w'⟩
        · rw [← hw8] at e
          exact (wipe_some e).1
        · obtain ⟨o, e, _⟩ := T.obj _ _ st7 b hb
          exact (pin' b hb o e).2
      cases b with
      | false =>
        rw [if_neg Bool.false_ne_true] at q9
        simp only [Bool.false_eq_true, if_false]
        exact fin I9 q9
      | true =>
        rw [if_pos rfl] at q9
        simp only [if_true]
        refine thnF (pe.run _ s9 σ8 H9 _ I9 q9) fun z s10 ⟨yv, H10, I10, r10, acc, hD10, hz10, nx⟩ => ?_
        exact app_ok (X := blkP X s3 H3 scope ce fp) I10 hD10 hz10 r10 fun s11 I11 => fin I11 nx
  exact codeAny_compStart_list loop (T.self X.A 0 _ _ _ st4 loop)
/-! a tuple unpacked while an exception is handled -/
section
variable {prog : Program} {w : World} {A : Around} {E : Value → Shared → Prop} {s : Shared}
theorem tup_end_hot {it t x1 : Addr} {i : Nat} {items : Array Value} {Q : Option Value → Shared → Prop} (hot : HotAt A x1 s.heap) (nx : x1 ≠ it)
    (hit : s.heap.IsTupleIter it t i) (ht : s.heap.IsTuple t items) (hx : items[i]? = none)
    (hQ : ∀ h', Heap.ExtBut it s.heap h' → Q none { s with heap := h' }) : wpAny (model prog w) A (pyNext (.ref it)) Q E s := by
  have hit' := hit
  obtain ⟨o, ho, hc, hd⟩ := hit'
  have ht' := ht
  obtain ⟨ol, hol, _, nl, hdl⟩ := ht'
  unfold pyNext
  refine wpAny_bind (wpAny_attempt (wpAny_callSpecial?_slot (name := Str.ofString "__next__") hit.typeIs F.slot_tuple_iterator_next (wpAny_call_entry F.slot_tuple_iterator_next hit.typeIs F.entry_tuple_iterator_next ?_ (F.args_tuple_iterator_next_1 _))))
  refine (show wpAny _ _ (field (.ref it) 0 >>= _) _ _ s from wpAny_bind (wpAny_field ho hd (x := .ref t) rfl ?_))
  have nn : ¬ ((Value.ref t == Value.none) = true) := fun z => Bool.false_ne_true z
  show wpAny _ _ (if (Value.ref t == Value.none) = true then _ else _) _ _ s
  rw [if_neg nn]
  refine (show wpAny _ _ (field (.ref it) 1 >>= _) _ _ s from wpAny_bind (wpAny_field ho hd (x := .int i 0) rfl ?_))
  refine (show wpAny _ _ (seqItems? (.ref t) >>= _) _ _ s from wpAny_bind (wpAny_seqItems hol hdl ?_))
  simp only [Int.toNat_natCast, hx]
  refine wpAny_bind (wpAny_rule (wpAny_bind (wpAny_setField ho hd (by simp) ?_)))
  have sb : Heap.ExtBut it s.heap (s.heap.update it (Obj.mapFields fun x => x.setIfInBounds 0 Value.none)) := (Heap.SameBut.update ..).extBut
  have hot1 := hot_but hot sb nx
  refine (show wpAny _ _ (newExc (.type "StopIteration") [] >>= _) _ _ _ from wpAny_bind ?_)
  simp only [newExc, newTuple]
  refine wpAny_bind (wpAny_newObj_type ?_ (by size_fits))
  refine wpAny_bind (m := firstArgMember _ _) (wpAny_of_eq (a := Value.none) (by first | rfl | (simp only [firstArgMember]; rfl)) ?_)
  refine wpAny_newObj_type ?_ (by size_fits)
  obtain ⟨hh, o1, vs1, h1, d1, c1⟩ := hot1
  refine raiseNew_hot (x1 := x1) ⟨hh, o1, vs1, Heap.get?_push_of_some _ (Heap.get?_push_of_some _ h1), d1, c1⟩ (Nat.ne_of_lt (Heap.lt_size (Heap.get?_push_of_some _ h1))) (Heap.get?_push_size _ rfl) rfl (by first | (simp; done) | (simp; omega) | (simp only [Array.size_append]; simp; omega)) ?_
  refine wpAny_bind (wpAny_isInstance (T := "StopIteration") (b := true) ⟨_, Heap.get?_update_self _ (Heap.get?_push_size _ rfl) rfl, rfl⟩ isSubtype_stop (wpAny_pure (hQ _ fun c u nc ec => ?_)))
  rw [Heap.get?_update_other _ _ (Nat.ne_of_gt (Heap.lt_size (Heap.get?_push_of_some _ (sb c u nc ec))))]
  exact Heap.get?_push_of_some _ (Heap.get?_push_of_some _ (sb c u nc ec))
theorem unpack_hot {env : Env} {elts : List Expr} {k : Nat} {pos : Pos} {t x1 : Addr} {items : Array Value} {Q : Unit → Shared → Prop} (hot : HotAt A x1 s.heap) (ht : s.heap.IsTuple t items)
    (hn : (assignEach elts env).length = items.size) (hstar : (assignEach elts env).findIdx? (·.1) = none)
    (h : ∀ h', Heap.ExtBut s.heap.objs.size s.heap h' → wpAny (model prog w) A (assignInOrder ((assignEach elts env).map (·.2)) items.toList) Q E { s with heap := h' }) :
    wpAny (model prog w) A (assign (.Tuple elts k pos) env (.ref t)) Q E s := by
  have hlt : t ≠ s.heap.objs.size := by
    obtain ⟨o, ho, _⟩ := ht
    exact Nat.ne_of_lt (Heap.lt_size ho)
  have x1lt : x1 ≠ s.heap.objs.size := by
    obtain ⟨_, o1, vs1, h1, _⟩ := hot
    exact Nat.ne_of_lt (Heap.lt_size h1)
  rw [PyProof.Rows.assign_Tuple]
  refine wpAny_bind (wpAny_standAt ?_)
  unfold unpack
  rw [hn, hstar]
  refine wpAny_bind (wpAny_holding ?_)
  unfold unpackItems notIterableAtAll
  refine wpAny_bind (wpAny_bind (wpAny_specialOf ht.typeIs F.slot_tuple_iter.lookup (wpAny_pure ?_)))
  simp only [Bool.false_eq_true, if_false]
  refine wpAny_bind (wpAny_holding (wpAny_pyIter_tuple ht ?_))
  refine wpAny_bind (wpAny_holding (wpAny_draw_tuple hlt items.size 0 _ _ ⟨_, Heap.get?_push_size _ rfl, rfl, rfl⟩ (ht.push _) (by omega) fun h1 hit1 hs1 => ?_))
  rw [List.drop_zero, List.take_of_length_le (by simp), if_neg (by simp)]
  have ht1 : h1.IsTuple t items := (ht.push _).extBut hs1.extBut hlt
  have hot1 : HotAt A x1 h1 := by
    obtain ⟨hh, o, vs, e, d, c⟩ := hot
    exact ⟨hh, o, vs, hs1.extBut _ _ x1lt (Heap.get?_push_of_some _ e), d, c⟩
  refine wpAny_bind (wpAny_holding (tup_end_hot (x1 := x1) hot1 x1lt hit1 ht1 (by simp) fun h2 he2 => ?_))
  simp only [Option.isSome_none, Bool.false_eq_true, if_false]
  exact wpAny_pure (h h2 fun b o hb e => he2 b o hb (hs1.extBut b o hb (Heap.get?_push_of_some _ e)))
end
theorem pg_tupH {X : Cx} {es : List Expr} {k : Nat} {t : TGs} {n : Nat} {pos : Pos} (hc : L2H.HotC X) (h : PGs X es t)
    (hn : (assignEach es X.env).length = n := by rfl) (hst : (assignEach es X.env).findIdx? (·.1) = none := by rfl) : PG X (.Tuple es k pos) (gTup X.K n t) := by
  refine ⟨fun pins s σ H v u Q I r hw => ?_⟩
  obtain ⟨a, xs, rfl, hq, hl, hw⟩ := hw
  cases r
  obtain ⟨its, rv, ht, hz⟩ := I.tuple hq
  obtain ⟨x1, hot⟩ := hc.at I
  have ht' : s.heap.IsTuple a its.toArray := by
    obtain ⟨o, e, c, m, d⟩ := ht
    exact ⟨o, e, c, m, d⟩
  refine unpack_hot (x1 := x1) hot ht' (by simp [hn, ← hl, rv.length]) hst fun h' hx => ?_
  have I1 : Inv X pins σ H { s with heap := h' } := I.kept (t' := s.toks) fun b o e => hx b o (Nat.ne_of_lt (Heap.lt_size e)) e
  exact h.run pins _ σ H xs _ Q I1 (by simpa using rv) hw
/-! the exception that is handled, handed to a def -/
/-- isinstance(e, c), e the exception that is handled -/
theorem call_isH {X : Cx} {p : Addr × Obj} {D : Addr} (hp : p ∈ X.pn) (C : ExcC X.K D) (hz : Zc (.ref D) none p.2) (hf : ∃ vs, p.2.data = .fields vs) : CallR X (.builtin "isinstance") (rIsE X.K D p.1) := by
  intro pins s σ H xs us Q I r h
  obtain ⟨c, cv, b, rfl, hcv, e, q⟩ := h
  cases r with
  | cons rx rr =>
    cases rr with
    | cons rt rr =>
      cases rr
      cases rx
      have ec := hcv _ rt
      subst ec
      have hget := (I.pin p (List.mem_append_left _ hp)).1
      obtain ⟨vs, hv⟩ := hf
      have J : PySem.W.InstAt s.heap p.1 p.2 D none := ⟨hget, hz.1, by unfold PySem.W.notCls; rw [hv] <;> rfl, by rw [hz.2]; trivial⟩
      exact PySem.W.kia_one (PySem.W.handS_kitx_exc C.hg C.hk C.hs C.hd C.ha C.hn C.ht C.hm) I.kIn J e (fun z => nomatch z) fun tk => ⟨.bl b, H, I.kept (t' := tk) fun _ _ z => z, rfl, q⟩
/-! ### defs that raise -/
/-- either reading of one expression -/
def tEi (t u : TE) : TE := fun σ H Q => t σ H Q ∨ u σ H Q
theorem pe_ei {X : Cx} {e : Expr} {t u : TE} (h1 : PE X e t) (h2 : PE X e u) : PE X e (tEi t u) := ⟨fun pins s σ H Q I h => h.elim (h1.run pins s σ H Q I) (h2.run pins s σ H Q I)⟩
theorem r_eiL {t u : TE} {σ : L2.St} {H : Hp} {Q : VK} (k : t σ H Q) : tEi t u σ H Q := .inl k
theorem r_eiR {t u : TE} {σ : L2.St} {H : Hp} {Q : VK} (k : u σ H Q) : tEi t u σ H Q := .inr k
section
variable {P : Program} {w : World} {K : PySem.W.Frag} {mg : Str → Option Value} {base : Heap}
theorem DefAt.okR {x : Str} {st : Stmt} {N ps : List Str} {k : Nat} {sp : Sp} (D : DefAt K mg x st ps) (S : FnScope N ps (defScope st)) (len : ∀ vs H Q E, sp vs H Q E → vs.length = ps.length)
    (hbody : ∀ (f : Addr) (cdv : Value) (A : Around) (outer : List Env) (s : Shared) (H : Hp) (vs : List V) (Q : VK) (E : XK), Room k (A.deeper (envOfC x (defScope st) s.heap.objs.size f cdv)) → sp vs H Q E →
      ∃ t, PSs (cxOf (L2N.CX P w) P w K mg base N x (defScope st) f cdv A outer s H E) (defBody st) t ∧ t { nx := fun _ H' => Q .non H', rt := Q } (start N vs) H) : Has P w K mg base (L2N.CX P w) (k + 1) x ps sp := by
  obtain ⟨f, fd, F, m, b⟩ := D
  obtain ⟨oc, od, kV, doc, pm, an, cdv, ct, osl, rfl, lk, hcd⟩ := F.ex
  exact ⟨f, _, m, F.kp, b, fn_of lk hcd S len fun A outer s H vs Q E hr h => hbody f cdv A outer s H vs Q E hr h⟩
end
section
variable {X : Cx} {x : Str} {p pos : Pos} {e : Expr} {es : List Expr} {t : TA} {k : Nat} {ps : List Str} {sp : Sp} {W : WX}
/-- f(e, ..), what is raised is wished for -/
theorem pcallR (G : Has X.prog X.w X.K X.mg X.base (L2N.CX X.prog X.w) k x ps sp) (hr : Room k X.A) (tk : L2N.Takes X W) (ha : PA X (e :: es) t) (hg : Gl X x := by rfl)
    (hdb : (x == ("__debug__" : Str)) = false := by decide) (he : starEach (e :: es) X.env = (false, eval e X.env) :: starEach es X.env := by rfl) (hpl : (backTo pos (starEach es X.env)).any (·.1) = false := by rfl) :
    PE X (.Call (.Name x p) (e :: es) [] pos) (tCallS sp (WE W) t) := by
  obtain ⟨f, fd, m, kp, b, F⟩ := G
  exact pe_callS (p := p) F hr hg m kp b (fun σ => L2N.passAt tk σ) ha hdb he hpl
theorem r_calS {sp : Sp} {E : L2.St → XK} {σ : L2.St} {H : Hp} {Q : VK} (k : t σ H fun vs H1 => sp vs H1 Q (E σ)) : tCallS sp E t σ H Q := k
end
/-- the class at D, raised by the name x; S the class of all refusals -/
structure XR (K : PySem.W.Frag) (mg : Str → Option Value) (x : Str) (D S : Addr) : Prop where
  g : mg x = some (.ref D)
  kp : PySem.W.keepIn K (.ref D) = true
  ex : PySem.W.excIn K D [.type "ValueError", .type "Exception", .type "BaseException", .type "object"] "ValueError.__new__" = true
  sb : PySem.W.subIn K (.ref D) (.type "BaseException") = some true
  ty : PySem.W.typeIn K (.ref D) = some (.type "type")
  em : PySem.W.exmOne K (.ref D) (.ref S) = some true
theorem XR.mk' {X : Cx} {x m : Str} {j : Nat} {p p2 pos : Pos} {D S : Addr} (C : XR X.K X.mg x D S) (hg : Gl X x) (hdb : (x == ("__debug__" : Str)) = false := by decide) : L2N.PMk X (.Call (.Name x p) [.Constant (.str m) j p2] [] pos) (fun _ H Q => Q (.ref D) none H) :=
  L2N.pmk_own PySem.F.excBase_ValueError C.ex C.g C.kp (raises_own C.sb C.ty) hg hdb
theorem XR.mk0 {K : PySem.W.Frag} {mg : Str → Option Value} {x : Str} {D S : Addr} (g : mg x = some (.ref D)) (kp : PySem.W.keepIn K (.ref D) = true) (ex : PySem.W.excIn K D [.type "ValueError", .type "Exception", .type "BaseException", .type "object"] "ValueError.__new__" = true)
    (sb : PySem.W.subIn K (.ref D) (.type "BaseException") = some true) (ty : PySem.W.typeIn K (.ref D) = some (.type "type")) (s1 : PySem.W.subIn K (.ref S) (.type "BaseException") = some true) (hd : PySem.W.hasDictIn K S = true) (ts : PySem.W.typeIn K (.ref S) = some (.type "type"))
    (s2 : PySem.W.subIn K (.ref D) (.ref S) = some true) : XR K mg x D S := ⟨g, kp, ex, sb, ty, PySem.W.exm_ref s1 hd ts s2⟩
/-- raise X('m') -/
def tRaise (W : WX) (D : Addr) : TS := fun _ σ H => W (.ref D) none σ H
theorem ps_raiseX {X : Cx} {W : WX} {x m : Str} {j : Nat} {p p2 pos pos2 : Pos} {D S : Addr} (hc : X.calm = true) (tk : L2N.Takes X W) (C : XR X.K X.mg x D S) (hg : Gl X x) (hdb : (x == ("__debug__" : Str)) = false := by decide) :
    PS X (.Raise (some (.Call (.Name x p) [.Constant (.str m) j p2] [] pos)) none pos2) (tRaise W D) := L2N.ps_raise hc tk (C.mk' hg hdb)
theorem r_raise {W : WX} {D : Addr} {F : Ends} {σ : L2.St} {H : Hp} (k : W (.ref D) none σ H) : tRaise W D F σ H := k
/-- the clause takes it -/
theorem w_as {K : PySem.W.Frag} {cls c : Value} {i : Nat} {ts : Addr → Value → Option Addr → TS} {Wout : WX} {D : Ends} {d : Option Addr} {σ : L2.St} {H : Hp} (h : PySem.W.exmOne K cls c = some true)
    (k : ∀ a, H a = none → ts a cls d { nx := fun σ' H' => D.nx (σ'.set i none) H', rt := D.rt, bk := fun σ' H' => D.bk (σ'.set i none) H', ct := fun σ' H' => D.ct (σ'.set i none) H' } (σ.set i (some (.ref a))) H) : wAs K c i ts Wout D cls d σ H :=
  ⟨true, h, fun _ => k, fun z => Bool.noConfusion z⟩
/-! ### a def that is handed the exception -/
/-- the def named x, handed an exception of the class cls while it is handled, gives the text z -/
def HasE (P : Program) (w : World) (K : PySem.W.Frag) (mg : Str → Option Value) (base : Heap) (k : Nat) (x : Str) (ps : List Str) (Kd : Value → Str → Prop) : Prop :=
  ∃ f fd, mg x = some (.ref f) ∧ PySem.W.keepIn K (.ref f) = true ∧ Binds K fd ps [] ∧ ps.length = 1 ∧
    ∀ (cls : Value) (z : Str), Kd cls z → ∀ (A : Around) (outer : List Env) (s : Shared) (H : Hp) (args : Args) (us : List Value) (Q : VK) (E : XK) (p : Addr × Obj), L2H.RoomH k A → L2H.Hot1 A p → L2H.PinOk outer H s p → Zc cls none p.2 → Env0 P w K mg base A outer s H → BindsTo s fd args (ps.zip us) → Vals [.ref p.1] us →
      (∀ H', Ex H H' → Q (.str z) H') → codeAny (model P w) A (.call (.ref f) args) (CR CX0 outer P w H s Q E) s
section
variable {P : Program} {w : World} {K : PySem.W.Frag} {mg : Str → Option Value} {base : Heap}
theorem HasE.mono {x : Str} {ps : List Str} {Kd : Value → Str → Prop} {j k : Nat} (G : HasE P w K mg base j x ps Kd) (h : j ≤ k) : HasE P w K mg base k x ps Kd := by
  obtain ⟨f, fd, m, kp, b, len, r⟩ := G
  exact ⟨f, fd, m, kp, b, len, fun cls z kd A outer s H args us Q E p hr => r cls z kd A outer s H args us Q E p (hr.mono h)⟩
theorem DefAt.okE {x : Str} {st : Stmt} {N ps : List Str} {k : Nat} {Kd : Value → Str → Prop} (D : DefAt K mg x st ps) (S : FnScope N ps (defScope st)) (len : ps.length = 1)
    (hbody : ∀ (cls : Value) (z : Str), Kd cls z → ∀ (f : Addr) (cdv : Value) (A : Around) (outer : List Env) (s : Shared) (H : Hp) (Q : VK) (E : XK) (p : Addr × Obj), L2H.Hot1 A p → Zc cls Option.none p.2 → L2H.RoomH k (A.deeper (envOfC x (defScope st) s.heap.objs.size f cdv)) → (∀ H', Ex H H' → Q (.str z) H') →
      ∃ t, PSs (L2H.cxH CX0 P w K mg base N x (defScope st) f cdv A outer s H E p) (defBody st) t ∧ t { nx := fun _ H' => Q .non H', rt := Q } (start N [.ref p.1]) H) : HasE P w K mg base (k + 1) x ps Kd := by
  obtain ⟨f, fd, F, m, b⟩ := D
  obtain ⟨oc, od, kV, doc, pm, an, cdv, ct, osl, rfl, lk, hcd⟩ := F.ex
  refine ⟨f, _, m, F.kp, b, len, fun cls z kd A outer s H args us Q E p hr hot hpin zc e0 hb r hq => ?_⟩
  have KX : K.In s.heap := e0.mod.kin.keeps fun b o e => (e0.bs b o e).1
  have lim : s.heap.NoLimit := e0.mod.nolimit.keeps fun b o e => (e0.bs b o e).1
  have kinds : ∀ y ∈ ps.zip us, (defScope st).names.lookup y.1 = some .local ∨ ((defScope st).names.lookup y.1 = some .cell ∧ ((cellsFrom (s.heap.objs.size + 1) (defScope st).names []).lookup y.1).isSome = true) := fun ⟨n, v⟩ hy =>
    (S.par n (List.of_mem_zip hy).1).elim .inl fun q => .inr ⟨q, PySem.W.cellsFrom_some _ _ _ (.inl q)⟩
  refine codeAny_call_function hr.depth (KX _ _ lk) rfl S.co S.gen rfl (PySem.W.codeRec_of KX hcd) (hb _ _ _ _ (wpAny_newFunctionEnv_cells S.kind kinds fun env he s1 ic => ?_))
  subst he
  refine ⟨lim.keeps ic.toInCall.keep, codeAny_func ?_⟩
  obtain ⟨t, ht, hq'⟩ := hbody cls z kd f cdv A outer s H Q E p hot zc (hr.deeper _) hq
  have I := L2H.inv_startH (CX := CX0) (mg := mg) (qual := x) (f := f) (cd := cdv) (A := A) (E := E) (vs := [.ref p.1]) S hpin e0 len.symm r ic
  refine wpAny_mono (ht.run [] s1 (start N [.ref p.1]) H _ I hq') (fun fl s' hs => ?_) fun e s' hs => hs
  cases fl with
  | ret u =>
    obtain ⟨v, σ', H', J, rv, q⟩ := hs
    exact ⟨v, H', J.os, J.bare, J.base, J.hok, rv, q⟩
  | next =>
    obtain ⟨σ', H', J, q⟩ := hs
    exact ⟨.non, H', J.os, J.bare, J.base, J.hok, rfl, q⟩
  | brk =>
    obtain ⟨_, _, _, q⟩ := hs
    exact q.elim
  | cont =>
    obtain ⟨_, _, _, q⟩ := hs
    exact q.elim
end
/-- f(e), within the suite that handles e -/
def tKind (Kd : Value → Str → Prop) (a : Addr) (cls : Value) (d : Option Addr) (t : TA) : TE := fun σ H Q => t σ H fun vs H1 => vs = [.ref a] ∧ d = none ∧ ∃ z, Kd cls z ∧ ∀ H', Ex H1 H' → Q (.str z) H'
theorem pcallE {X : Cx} {x : Str} {q pos : Pos} {e : Expr} {t : TA} {k : Nat} {ps : List Str} {Kd : Value → Str → Prop} {a : Addr} {oe : Obj} {cls : Value} {d : Option Addr} {pn : List (Addr × Obj)}
    (G : HasE X.prog X.w X.K X.mg X.base k x ps Kd) (hr : Room k X.A) (hz : L2N.Zn cls d oe) (hf : ∃ vs, oe.data = .fields vs) (ha : PA (X.suite a ((a, oe) :: pn)) [e] t) (hg : Gl X x := by rfl)
    (hdb : (x == ("__debug__" : Str)) = false := by decide) (he : starEach [e] X.env = (false, eval e X.env) :: starEach [] X.env := by rfl) (hpl : (backTo pos (starEach [] X.env)).any (·.1) = false := by rfl) :
    PE (X.suite a ((a, oe) :: pn)) (.Call (.Name x q) [e] [] pos) (tKind Kd a cls d t) := by
  obtain ⟨f, fd, m, kp, b, len, run⟩ := G
  refine ⟨fun pins s σ H Q I h => wpAny_Call_Name_kw (ld_glob (X := X.suite a ((a, oe) :: pn)) I hg m ?_ hdb)⟩
  have h' : t σ H fun vs H1 => vs = [.ref a] ∧ d = none ∧ ∃ z, Kd cls z ∧ ∀ H', Ex H1 H' → Q (.str z) H' := h
  refine PySem.W.callWith_K (h₀ := X.base) I.ok.mod.kin kp (thn (ha.run pos pins s σ H _ I h') fun us s1 ⟨vs, H1, I1, rv, ev, ed, z, kd, q⟩ => ⟨I1.kIn, ?_⟩) he hpl
  subst ev ed
  have hu : us.length = ps.length := by rw [← rv.length, len]; rfl
  have hb := b s1 us I1.kIn (by rw [List.append_nil]; exact hu)
  rw [List.append_nil] at hb
  obtain ⟨vs, hv⟩ := hf
  have P1 := I1.pin (a, oe) (List.mem_append_left _ List.mem_cons_self)
  have hpin : L2H.PinOk X.stack H1 s1 (a, oe) := ⟨P1.1, P1.2.1, fun hm => (List.mem_cons.mp (I1.stkSub a hm)).elim P1.2.2.1 P1.2.2.2.1, P1.2.2.2.2⟩
  have hot : L2H.Hot1 (X.suite a ((a, oe) :: pn)).A (a, oe) := ⟨rfl, vs, hv, hz.2.2 vs hv⟩
  refine wpAny_call (codeAny_mono (run cls z kd (X.suite a ((a, oe) :: pn)).A X.stack s1 H1 ⟨us, []⟩ us Q E0 (a, oe) ⟨hr.dp, hr.un⟩ hot hpin hz.zc I1.env0 hb rv q) fun r s2 hr => ?_)
  match r, hr with
  | .error err, hr => exact hr.elim
  | .ok (.ret u), hr => exact I1.after hr
  | .ok .next, hr => exact hr.elim
  | .ok .brk, hr => exact hr.elim
  | .ok .cont, hr => exact hr.elim
theorem r_kind {Kd : Value → Str → Prop} {a : Addr} {cls : Value} {t : TA} {σ : L2.St} {H : Hp} {Q : VK} (k : t σ H fun vs H1 => vs = [.ref a] ∧ (none : Option Addr) = none ∧ ∃ z, Kd cls z ∧ ∀ H', Ex H1 H' → Q (.str z) H') : tKind Kd a cls none t σ H Q := k
theorem takesN0 {X : Cx} : L2N.Takes X (fun _ _ _ _ => False) := fun _ _ x => by
  obtain ⟨_, _, _, _, _, _, _, _, _, _, _, _, _, _, _, _, z⟩ := x
  exact z.elim
/-- try: .. except X as n: .. -/
def tTry (K : PySem.W.Frag) (c : Value) (i : Nat) (tb : WX → TS) (ts : Addr → Value → Option Addr → TS) : TS := fun D σ H => tb (wAs K c i ts (fun _ _ _ _ => False) D) D σ H
theorem r_try {K : PySem.W.Frag} {c : Value} {i : Nat} {tb : WX → TS} {ts : Addr → Value → Option Addr → TS} {D : Ends} {σ : L2.St} {H : Hp} (k : tb (wAs K c i ts (fun _ _ _ _ => False) D) D σ H) : tTry K c i tb ts D σ H := k
theorem ps_tryX {X : Cx} {x n : Str} {S : Addr} {i : Nat} {body suite : List Stmt} {b₀ : Stmt} {np pos pos' : Pos} {tb : WX → TS} {ts : Addr → Value → Option Addr → TS} (hs : X.stack = X.env :: X.outer) (hf : X.env.frame = some X.env.locals) (hN : X.N.Nodup) (hi : X.N[i]? = some n) (hln : X.env.kindOf n = some .local)
    (hg : Gl X x) (hd : (x == ("__debug__" : Str)) = false) (gS : X.mg x = some (.ref S))
    (hb : ∀ (W : WX) (pn : List (Addr × Obj)) (xe : Value → Shared → Prop), L2N.Takes (X.tr pn xe) W → PSs (X.tr pn xe) body (tb W))
    (hsu : ∀ (a : Addr) (oe : Obj) (cls : Value) (d : Option Addr) (pn : List (Addr × Obj)), L2N.Zn cls d oe → (∃ vs, oe.data = .fields vs) → PSs (X.suite a ((a, oe) :: pn)) (b₀ :: suite) (ts a cls d)) :
    PS X (.Try body [.ExceptHandler (some (.Name x np)) (some n) (b₀ :: suite) pos'] [] [] pos) (tTry X.K (.ref S) i tb ts) :=
  L2N.ps_try_as hs hf hN hi hln ⟨hg, hd, .inl gS⟩ takesN0 (fun W pn xe tk _ => hb W pn xe tk) hsu
/-! ### the table of refusals -/
abbrev vE : List Value := [.type "ValueError", .type "Exception", .type "BaseException", .type "object"]
/-- a class without own __init__, behind itself bm -/
def CT (K : PySem.W.Frag) (C : Addr) (bm : List Value) : Prop := ∃ nm q N bs sn sub ab col dd k0 k1 k2 k3 k5, K.lookup C = some (excClassObj nm q C N bs bm true sn sub ab col dd k0 k1 k2 k3 k5 "ValueError.__new__")
section
variable {K : PySem.W.Frag} {C : Addr} {bm : List Value}
theorem CT.ty (h : CT K C bm) : PySem.W.typeIn K (.ref C) = some (.type "type") := by
  obtain ⟨_, _, _, _, _, _, _, _, _, _, _, _, _, _, l⟩ := h
  show (K.lookup C).map (·.cls) = _
  rw [l]
  rfl
theorem CT.cls (h : CT K C bm) : ∃ cd, PySem.W.clsIn K C = some cd ∧ cd.mro = .ref C :: bm ∧ cd.hasDict = true := by
  obtain ⟨_, _, _, _, _, _, _, _, _, _, _, _, _, _, l⟩ := h
  unfold PySem.W.clsIn
  rw [l]
  exact ⟨_, rfl, rfl, rfl⟩
theorem CT.mro (h : CT K C bm) (base : Value) : PySem.W.mroIn K C base = some ((Value.ref C :: bm).contains base) := by
  obtain ⟨cd, e, m, _⟩ := h.cls
  unfold PySem.W.mroIn
  rw [e]
  show (if cd.mro.isEmpty = true then none else some (cd.mro.contains base)) = _
  rw [m]
  rfl
theorem CT.sub (h : CT K C bm) (base : Value) : PySem.W.subIn K (.ref C) base = some ((Value.ref C :: bm).contains base) := h.mro base
theorem CT.dct (h : CT K C bm) : PySem.W.hasDictIn K C = true := by
  obtain ⟨cd, e, _, d⟩ := h.cls
  unfold PySem.W.hasDictIn
  rw [e]
  exact d
end
structure Cl where
  S : Addr
  NoBounds : Addr
  NoCoins : Addr
  NoCount : Addr
  NoEntry : Addr
  NoName : Addr
  NoPartner : Addr
  NoPower : Addr
  NoRing : Addr
  NoRise : Addr
  NoRow : Addr
  NoStair : Addr
  NoSteps : Addr
  NoText : Addr
  NoWalker : Addr
  NothingLeft : Addr
  TooMany : Addr
structure XT (K : PySem.W.Frag) (mg : Str → Option Value) (c : Cl) : Prop where
  gS : mg "StairError" = some (.ref c.S)
  tS : CT K c.S vE
  g_NoBounds : mg "NoBounds" = some (.ref c.NoBounds)
  t_NoBounds : CT K c.NoBounds (.ref c.S :: vE)
  g_NoCoins : mg "NoCoins" = some (.ref c.NoCoins)
  t_NoCoins : CT K c.NoCoins (.ref c.S :: vE)
  g_NoCount : mg "NoCount" = some (.ref c.NoCount)
  t_NoCount : CT K c.NoCount (.ref c.S :: vE)
  g_NoEntry : mg "NoEntry" = some (.ref c.NoEntry)
  t_NoEntry : CT K c.NoEntry (.ref c.S :: vE)
  g_NoName : mg "NoName" = some (.ref c.NoName)
  t_NoName : CT K c.NoName (.ref c.S :: vE)
  g_NoPartner : mg "NoPartner" = some (.ref c.NoPartner)
  t_NoPartner : CT K c.NoPartner (.ref c.S :: vE)
  g_NoPower : mg "NoPower" = some (.ref c.NoPower)
  t_NoPower : CT K c.NoPower (.ref c.S :: vE)
  g_NoRing : mg "NoRing" = some (.ref c.NoRing)
  t_NoRing : CT K c.NoRing (.ref c.S :: vE)
  g_NoRise : mg "NoRise" = some (.ref c.NoRise)
  t_NoRise : CT K c.NoRise (.ref c.S :: vE)
  g_NoRow : mg "NoRow" = some (.ref c.NoRow)
  t_NoRow : CT K c.NoRow (.ref c.S :: vE)
  g_NoStair : mg "NoStair" = some (.ref c.NoStair)
  t_NoStair : CT K c.NoStair (.ref c.S :: vE)
  g_NoSteps : mg "NoSteps" = some (.ref c.NoSteps)
  t_NoSteps : CT K c.NoSteps (.ref c.S :: vE)
  g_NoText : mg "NoText" = some (.ref c.NoText)
  t_NoText : CT K c.NoText (.ref c.S :: vE)
  g_NoWalker : mg "NoWalker" = some (.ref c.NoWalker)
  t_NoWalker : CT K c.NoWalker (.ref c.S :: vE)
  g_NothingLeft : mg "NothingLeft" = some (.ref c.NothingLeft)
  t_NothingLeft : CT K c.NothingLeft (.ref c.S :: vE)
  g_TooMany : mg "TooMany" = some (.ref c.TooMany)
  t_TooMany : CT K c.TooMany (.ref c.S :: vE)
  ne : [c.S, c.NoBounds, c.NoCoins, c.NoCount, c.NoEntry, c.NoName, c.NoPartner, c.NoPower, c.NoRing, c.NoRise, c.NoRow, c.NoStair, c.NoSteps, c.NoText, c.NoWalker, c.NothingLeft, c.TooMany].Nodup
  hn : PySem.W.specialIn K (.builtin "object.__class__") "__get__" = some (some (.builtin "getset_descriptor.__get__"))
  ht : PySem.W.takesIn K (.builtin "object.__class__") = some true
/-- what is needed of a class that is raised -/
structure XD (K : PySem.W.Frag) (D : Addr) : Prop where
  kp : PySem.W.keepIn K (.ref D) = true
  ex : PySem.W.excIn K D vE "ValueError.__new__" = true
  hg : PySem.W.findIn K (.ref D) "__getattribute__" = some (some (.builtin "BaseException.__getattribute__"))
  hk : PySem.W.findIn K (.ref D) "__getattr__" = some none
  ha : PySem.W.findIn K (.ref D) "__class__" = some (some (.builtin "object.__class__"))
section
variable {K : PySem.W.Frag} {mg : Str → Option Value} {c : Cl} {D : Addr}
theorem ct_has {S D : Addr} {T : String} (h : vE.contains (.type T) = true) : (Value.ref D :: Value.ref S :: vE).contains (.type T) = true := by
  rw [List.contains_cons, List.contains_cons, h, Bool.or_true, Bool.or_true]
theorem ct_ne {S D C : Addr} (h1 : C ≠ D) (h2 : C ≠ S) : (Value.ref D :: Value.ref S :: vE).contains (.ref C) = false := by
  have e1 : (Value.ref C == Value.ref D) = false := beq_eq_false_iff_ne.mpr fun z => h1 (Value.ref.inj z)
  have e2 : (Value.ref C == Value.ref S) = false := beq_eq_false_iff_ne.mpr fun z => h2 (Value.ref.inj z)
  rw [List.contains_cons, List.contains_cons, e1, e2]
  rfl
theorem XT.exc (X : XT K mg c) (t : CT K D (.ref c.S :: vE)) (d : XD K D) : ExcC K D :=
  ⟨d.hg, d.hk, by rw [t.sub, ct_has (by decide)], t.dct, d.ha, X.hn, X.ht, by rw [t.mro, ct_has (by decide)]⟩
theorem XT.xr (X : XT K mg c) {x : Str} (g : mg x = some (.ref D)) (t : CT K D (.ref c.S :: vE)) (d : XD K D) : XR K mg x D c.S :=
  XR.mk0 g d.kp d.ex (by rw [t.sub, ct_has (by decide)]) t.ty (by
    rw [X.tS.sub, List.contains_cons]
    exact congrArg some (Bool.or_eq_true_iff.mpr (.inr (by decide)))) X.tS.dct X.tS.ty (by
    rw [t.sub, List.contains_cons, List.contains_cons, beq_self_eq_true, Bool.true_or, Bool.or_true])
theorem kit_same {t : Value} : PySem.W.kitOne K t t = some true := if_pos (beq_self_eq_true t)
theorem kit_ref {C S : Addr} (tD : CT K D (.ref S :: vE)) (tC : CT K C (.ref S :: vE)) (h : C ≠ D) (h2 : C ≠ S) : PySem.W.kitOne K (.ref D) (.ref C) = some false := by
  have e1 : ¬ (Value.ref D == Value.ref C) = true := fun z => h (Value.ref.inj (beq_iff_eq.mp z)).symm
  obtain ⟨cd, ec, _⟩ := tC.cls
  have e2 : ((PySem.W.clsIn K C).isSome && PySem.W.typeIn K (.ref C) == some (.type "type")) = true := by
    rw [ec, tC.ty]
    rfl
  unfold PySem.W.kitOne
  rw [if_neg e1]
  show (if ((PySem.W.clsIn K C).isSome && PySem.W.typeIn K (.ref C) == some (.type "type")) = true then PySem.W.subIn K (.ref D) (.ref C) else none) = some false
  rw [if_pos e2, tD.sub, ct_ne h h2]
theorem kit_val {S : Addr} (tD : CT K D (.ref S :: vE)) : PySem.W.kitOne K (.ref D) (.type "ValueError") = some true := by
  have e1 : ¬ (Value.ref D == Value.type "ValueError") = true := fun z => by
    have := beq_iff_eq.mp z
    cases this
  unfold PySem.W.kitOne
  rw [if_neg e1]
  show (if PySem.W.kitMeta "ValueError" = true then PySem.W.subIn K (.ref D) (.type "ValueError") else none) = some true
  rw [if_pos (by decide +kernel), tD.sub, ct_has (by decide)]
end
theorem nd_ne {l : List Addr} {i j : Nat} {a b : Addr} (h : l.Nodup) (hi : l[i]? = some a) (hj : l[j]? = some b) (n : i ≠ j) : a ≠ b := by
  obtain ⟨h1, e1⟩ := List.getElem?_eq_some_iff.mp hi
  obtain ⟨h2, e2⟩ := List.getElem?_eq_some_iff.mp hj
  have p := List.pairwise_iff_getElem.mp h
  intro z
  rw [← e1, ← e2] at z
  rcases Nat.lt_or_gt_of_ne n with q | q
  · exact p i j h1 h2 q z
  · exact p j i h2 h1 q z.symm
/-- the class D is the i-th one -/
def Nth (c : Cl) (i : Nat) (D : Addr) : Prop := [c.NoBounds, c.NoCoins, c.NoCount, c.NoEntry, c.NoName, c.NoPartner, c.NoPower, c.NoRing, c.NoRise, c.NoRow, c.NoStair, c.NoSteps, c.NoText, c.NoWalker, c.NothingLeft, c.TooMany][i]? = some D
def kindT (i : Nat) : Str := (["NoBounds+", "NoCoins+", "NoCount+", "NoEntry+", "NoName+", "NoPartner+", "NoPower+", "NoRing+", "NoRise+", "NoRow+", "NoStair+", "NoSteps+", "NoText+", "NoWalker+", "NothingLeft+", "TooMany+"] : List Str).getD i ""

theorem XT.kit {K : PySem.W.Frag} {mg : Str → Option Value} {c : Cl} {D : Addr} (X : XT K mg c) {i : Nat} (n : Nth c i D) : i < 16 ∧ CT K D (.ref c.S :: vE) ∧ PySem.W.kitOne K (.ref D) (.ref c.NoBounds) = some (decide (i = 0)) ∧ PySem.W.kitOne K (.ref D) (.ref c.NoCoins) = some (decide (i = 1)) ∧ PySem.W.kitOne K (.ref D) (.ref c.NoCount) = some (decide (i = 2)) ∧ PySem.W.kitOne K (.ref D) (.ref c.NoEntry) = some (decide (i = 3)) ∧ PySem.W.kitOne K (.ref D) (.ref c.NoName) = some (decide (i = 4)) ∧ PySem.W.kitOne K (.ref D) (.ref c.NoPartner) = some (decide (i = 5)) ∧ PySem.W.kitOne K (.ref D) (.ref c.NoPower) = some (decide (i = 6)) ∧ PySem.W.kitOne K (.ref D) (.ref c.NoRing) = some (decide (i = 7)) ∧ PySem.W.kitOne K (.ref D) (.ref c.NoRise) = some (decide (i = 8)) ∧ PySem.W.kitOne K (.ref D) (.ref c.NoRow) = some (decide (i = 9)) ∧ PySem.W.kitOne K (.ref D) (.ref c.NoStair) = some (decide (i = 10)) ∧ PySem.W.kitOne K (.ref D) (.ref c.NoSteps) = some (decide (i = 11)) ∧ PySem.W.kitOne K (.ref D) (.ref c.NoText) = some (decide (i = 12)) ∧ PySem.W.kitOne K (.ref D) (.ref c.NoWalker) = some (decide (i = 13)) ∧ PySem.W.kitOne K (.ref D) (.ref c.NothingLeft) = some (decide (i = 14)) ∧ PySem.W.kitOne K (.ref D) (.ref c.TooMany) = some (decide (i = 15)) := by
  unfold Nth at n
  match i, n with
  | 0, n =>
    cases n
    refine ⟨by decide, X.t_NoBounds, kit_same, kit_ref X.t_NoBounds X.t_NoCoins (nd_ne X.ne (i := 2) (j := 1) rfl rfl (by decide)) (nd_ne X.ne (i := 2) (j := 0) rfl rfl (by decide)), kit_ref X.t_NoBounds X.t_NoCount (nd_ne X.ne (i := 3) (j := 1) rfl rfl (by decide)) (nd_ne X.ne (i := 3) (j := 0) rfl rfl (by decide)), kit_ref X.t_NoBounds X.t_NoEntry (nd_ne X.ne (i := 4) (j := 1) rfl rfl (by decide)) (nd_ne X.ne (i := 4) (j := 0) rfl rfl (by decide)), kit_ref X.t_NoBounds X.t_NoName (nd_ne X.ne (i := 5) (j := 1) rfl rfl (by decide)) (nd_ne X.ne (i := 5) (j := 0) rfl rfl (by decide)), kit_ref X.t_NoBounds X.t_NoPartner (nd_ne X.ne (i := 6) (j := 1) rfl rfl (by decide)) (nd_ne X.ne (i := 6) (j := 0) rfl rfl (by decide)), kit_ref X.t_NoBounds X.t_NoPower (nd_ne X.ne (i := 7) (j := 1) rfl rfl (by decide)) (nd_ne X.ne (i := 7) (j := 0) rfl rfl (by decide)), kit_ref X.t_NoBounds X.t_NoRing (nd_ne X.ne (i := 8) (j := 1) rfl rfl (by decide)) (nd_ne X.ne (i := 8) (j := 0) rfl rfl (by decide)), kit_ref X.t_NoBounds X.t_NoRise (nd_ne X.ne (i := 9) (j := 1) rfl rfl (by decide)) (nd_ne X.ne (i := 9) (j := 0) rfl rfl (by decide)), kit_ref X.t_NoBounds X.t_NoRow (nd_ne X.ne (i := 10) (j := 1) rfl rfl (by decide)) (nd_ne X.ne (i := 10) (j := 0) rfl rfl (by decide)), kit_ref X.t_NoBounds X.t_NoStair (nd_ne X.ne (i := 11) (j := 1) rfl rfl (by decide)) (nd_ne X.ne (i := 11) (j := 0) rfl rfl (by decide)), kit_ref X.t_NoBounds X.t_NoSteps (nd_ne X.ne (i := 12) (j := 1) rfl rfl (by decide)) (nd_ne X.ne (i := 12) (j := 0) rfl rfl (by decide)), kit_ref X.t_NoBounds X.t_NoText (nd_ne X.ne (i := 13) (j := 1) rfl rfl (by decide)) (nd_ne X.ne (i := 13) (j := 0) rfl rfl (by decide)), kit_ref X.t_NoBounds X.t_NoWalker (nd_ne X.ne (i := 14) (j := 1) rfl rfl (by decide)) (nd_ne X.ne (i := 14) (j := 0) rfl rfl (by decide)), kit_ref X.t_NoBounds X.t_NothingLeft (nd_ne X.ne (i := 15) (j := 1) rfl rfl (by decide)) (nd_ne X.ne (i := 15) (j := 0) rfl rfl (by decide)), kit_ref X.t_NoBounds X.t_TooMany (nd_ne X.ne (i := 16) (j := 1) rfl rfl (by decide)) (nd_ne X.ne (i := 16) (j := 0) rfl rfl (by decide))⟩
  | 1, n =>
    cases n
    refine ⟨by decide, X.t_NoCoins, kit_ref X.t_NoCoins X.t_NoBounds (nd_ne X.ne (i := 1) (j := 2) rfl rfl (by decide)) (nd_ne X.ne (i := 1) (j := 0) rfl rfl (by decide)), kit_same, kit_ref X.t_NoCoins X.t_NoCount (nd_ne X.ne (i := 3) (j := 2) rfl rfl (by decide)) (nd_ne X.ne (i := 3) (j := 0) rfl rfl (by decide)), kit_ref X.t_NoCoins X.t_NoEntry (nd_ne X.ne (i := 4) (j := 2) rfl rfl (by decide)) (nd_ne X.ne (i := 4) (j := 0) rfl rfl (by decide)), kit_ref X.t_NoCoins X.t_NoName (nd_ne X.ne (i := 5) (j := 2) rfl rfl (by decide)) (nd_ne X.ne (i := 5) (j := 0) rfl rfl (by decide)), kit_ref X.t_NoCoins X.t_NoPartner (nd_ne X.ne (i := 6) (j := 2) rfl rfl (by decide)) (nd_ne X.ne (i := 6) (j := 0) rfl rfl (by decide)), kit_ref X.t_NoCoins X.t_NoPower (nd_ne X.ne (i := 7) (j := 2) rfl rfl (by decide)) (nd_ne X.ne (i := 7) (j := 0) rfl rfl (by decide)), kit_ref X.t_NoCoins X.t_NoRing (nd_ne X.ne (i := 8) (j := 2) rfl rfl (by decide)) (nd_ne X.ne (i := 8) (j := 0) rfl rfl (by decide)), kit_ref X.t_NoCoins X.t_NoRise (nd_ne X.ne (i := 9) (j := 2) rfl rfl (by decide)) (nd_ne X.ne (i := 9) (j := 0) rfl rfl (by decide)), kit_ref X.t_NoCoins X.t_NoRow (nd_ne X.ne (i := 10) (j := 2) rfl rfl (by decide)) (nd_ne X.ne (i := 10) (j := 0) rfl rfl (by decide)), kit_ref X.t_NoCoins X.t_NoStair (nd_ne X.ne (i := 11) (j := 2) rfl rfl (by decide)) (nd_ne X.ne (i := 11) (j := 0) rfl rfl (by decide)), kit_ref X.t_NoCoins X.t_NoSteps (nd_ne X.ne (i := 12) (j := 2) rfl rfl (by decide)) (nd_ne X.ne (i := 12) (j := 0) rfl rfl (by decide)), kit_ref X.t_NoCoins X.t_NoText (nd_ne X.ne (i := 13) (j := 2) rfl rfl (by decide)) (nd_ne X.ne (i := 13) (j := 0) rfl rfl (by decide)), kit_ref X.t_NoCoins X.t_NoWalker (nd_ne X.ne (i := 14) (j := 2) rfl rfl (by decide)) (nd_ne X.ne (i := 14) (j := 0) rfl rfl (by decide)), kit_ref X.t_NoCoins X.t_NothingLeft (nd_ne X.ne (i := 15) (j := 2) rfl rfl (by decide)) (nd_ne X.ne (i := 15) (j := 0) rfl rfl (by decide)), kit_ref X.t_NoCoins X.t_TooMany (nd_ne X.ne (i := 16) (j := 2) rfl rfl (by decide)) (nd_ne X.ne (i := 16) (j := 0) rfl rfl (by decide))⟩
  | 2, n =>
    cases n
    refine ⟨by decide, X.t_NoCount, kit_ref X.t_NoCount X.t_NoBounds (nd_ne X.ne (i := 1) (j := 3) rfl rfl (by decide)) (nd_ne X.ne (i := 1) (j := 0) rfl rfl (by decide)), kit_ref X.t_NoCount X.t_NoCoins (nd_ne X.ne (i := 2) (j := 3) rfl rfl (by decide)) (nd_ne X.ne (i := 2) (j := 0) rfl rfl (by decide)), kit_same, kit_ref X.t_NoCount X.t_NoEntry (nd_ne X.ne (i := 4) (j := 3) rfl rfl (by decide)) (nd_ne X.ne (i := 4) (j := 0) rfl rfl (by decide)), kit_ref X.t_NoCount X.t_NoName (nd_ne X.ne (i := 5) (j := 3) rfl rfl (by decide)) (nd_ne X.ne (i := 5) (j := 0) rfl rfl (by decide)), kit_ref X.t_NoCount X.t_NoPartner (nd_ne X.ne (i := 6) (j := 3) rfl rfl (by decide)) (nd_ne X.ne (i := 6) (j := 0) rfl rfl (by decide)), kit_ref X.t_NoCount X.t_NoPower (nd_ne X.ne (i := 7) (j := 3) rfl rfl (by decide)) (nd_ne X.ne (i := 7) (j := 0) rfl rfl (by decide)), kit_ref X.t_NoCount X.t_NoRing (nd_ne X.ne (i := 8) (j := 3) rfl rfl (by decide)) (nd_ne X.ne (i := 8) (j := 0) rfl rfl (by decide)), kit_ref X.t_NoCount X.t_NoRise (nd_ne X.ne (i := 9) (j := 3) rfl rfl (by decide)) (nd_ne X.ne (i := 9) (j := 0) rfl rfl (by decide)), kit_ref X.t_NoCount X.t_NoRow (nd_ne X.ne (i := 10) (j := 3) rfl rfl (by decide)) (nd_ne X.ne (i := 10) (j := 0) rfl rfl (by decide)), kit_ref X.t_NoCount X.t_NoStair (nd_ne X.ne (i := 11) (j := 3) rfl rfl (by decide)) (nd_ne X.ne (i := 11) (j := 0) rfl rfl (by decide)), kit_ref X.t_NoCount X.t_NoSteps (nd_ne X.ne (i := 12) (j := 3) rfl rfl (by decide)) (nd_ne X.ne (i := 12) (j := 0) rfl rfl (by decide)), kit_ref X.t_NoCount X.t_NoText (nd_ne X.ne (i := 13) (j := 3) rfl rfl (by decide)) (nd_ne X.ne (i := 13) (j := 0) rfl rfl (by decide)), kit_ref X.t_NoCount X.t_NoWalker (nd_ne X.ne (i := 14) (j := 3) rfl rfl (by decide)) (nd_ne X.ne (i := 14) (j := 0) rfl rfl (by decide)), kit_ref X.t_NoCount X.t_NothingLeft (nd_ne X.ne (i := 15) (j := 3) rfl rfl (by decide)) (nd_ne X.ne (i := 15) (j := 0) rfl rfl (by decide)), kit_ref X.t_NoCount X.t_TooMany (nd_ne X.ne (i := 16) (j := 3) rfl rfl (by decide)) (nd_ne X.ne (i := 16) (j := 0) rfl rfl (by decide))⟩
  | 3, n =>
    cases n
    refine ⟨by decide, X.t_NoEntry, kit_ref X.t_NoEntry X.t_NoBounds (nd_ne X.ne (i := 1) (j := 4) rfl rfl (by decide)) (nd_ne X.ne (i := 1) (j := 0) rfl rfl (by decide)), kit_ref X.t_NoEntry X.t_NoCoins (nd_ne X.ne (i := 2) (j := 4) rfl rfl (by decide)) (nd_ne X.ne (i := 2) (j := 0) rfl rfl (by decide)), kit_ref X.t_NoEntry X.t_NoCount (nd_ne X.ne (i := 3) (j := 4) rfl rfl (by decide)) (nd_ne X.ne (i := 3) (j := 0) rfl rfl (by decide)), kit_same, kit_ref X.t_NoEntry X.t_NoName (nd_ne X.ne (i := 5) (j := 4) rfl rfl (by decide)) (nd_ne X.ne (i := 5) (j := 0) rfl rfl (by decide)), kit_ref X.t_NoEntry X.t_NoPartner (nd_ne X.ne (i := 6) (j := 4) rfl rfl (by decide)) (nd_ne X.ne (i := 6) (j := 0) rfl rfl (by decide)), kit_ref X.t_NoEntry X.t_NoPower (nd_ne X.ne (i := 7) (j := 4) rfl rfl (by decide)) (nd_ne X.ne (i := 7) (j := 0) rfl rfl (by decide)), kit_ref X.t_NoEntry X.t_NoRing (nd_ne X.ne (i := 8) (j := 4) rfl rfl (by decide)) (nd_ne X.ne (i := 8) (j := 0) rfl rfl (by decide)), kit_ref X.t_NoEntry X.t_NoRise (nd_ne X.ne (i := 9) (j := 4) rfl rfl (by decide)) (nd_ne X.ne (i := 9) (j := 0) rfl rfl (by decide)), kit_ref X.t_NoEntry X.t_NoRow (nd_ne X.ne (i := 10) (j := 4) rfl rfl (by decide)) (nd_ne X.ne (i := 10) (j := 0) rfl rfl (by decide)), kit_ref X.t_NoEntry X.t_NoStair (nd_ne X.ne (i := 11) (j := 4) rfl rfl (by decide)) (nd_ne X.ne (i := 11) (j := 0) rfl rfl (by decide)), kit_ref X.t_NoEntry X.t_NoSteps (nd_ne X.ne (i := 12) (j := 4) rfl rfl (by decide)) (nd_ne X.ne (i := 12) (j := 0) rfl rfl (by decide)), kit_ref X.t_NoEntry X.t_NoText (nd_ne X.ne (i := 13) (j := 4) rfl rfl (by decide)) (nd_ne X.ne (i := 13) (j := 0) rfl rfl (by decide)), kit_ref X.t_NoEntry X.t_NoWalker (nd_ne X.ne (i := 14) (j := 4) rfl rfl (by decide)) (nd_ne X.ne (i := 14) (j := 0) rfl rfl (by decide)), kit_ref X.t_NoEntry X.t_NothingLeft (nd_ne X.ne (i := 15) (j := 4) rfl rfl (by decide)) (nd_ne X.ne (i := 15) (j := 0) rfl rfl (by decide)), kit_ref X.t_NoEntry X.t_TooMany (nd_ne X.ne (i := 16) (j := 4) rfl rfl (by decide)) (nd_ne X.ne (i := 16) (j := 0) rfl rfl (by decide))⟩
  | 4, n =>
    cases n
    refine ⟨by decide, X.t_NoName, kit_ref X.t_NoName X.t_NoBounds (nd_ne X.ne (i := 1) (j := 5) rfl rfl (by decide)) (nd_ne X.ne (i := 1) (j := 0) rfl rfl (by decide)), kit_ref X.t_NoName X.t_NoCoins (nd_ne X.ne (i := 2) (j := 5) rfl rfl (by decide)) (nd_ne X.ne (i := 2) (j := 0) rfl rfl (by decide)), kit_ref X.t_NoName X.t_NoCount (nd_ne X.ne (i := 3) (j := 5) rfl rfl (by decide)) (nd_ne X.ne (i := 3) (j := 0) rfl rfl (by decide)), kit_ref X.t_NoName X.t_NoEntry (nd_ne X.ne (i := 4) (j := 5) rfl rfl (by decide)) (nd_ne X.ne (i := 4) (j := 0) rfl rfl (by decide)), kit_same, kit_ref X.t_NoName X.t_NoPartner (nd_ne X.ne (i := 6) (j := 5) rfl rfl (by decide)) (nd_ne X.ne (i := 6) (j := 0) rfl rfl (by decide)), kit_ref X.t_NoName X.t_NoPower (nd_ne X.ne (i := 7) (j := 5) rfl rfl (by decide)) (nd_ne X.ne (i := 7) (j := 0) rfl rfl (by decide)), kit_ref X.t_NoName X.t_NoRing (nd_ne X.ne (i := 8) (j := 5) rfl rfl (by decide)) (nd_ne X.ne (i := 8) (j := 0) rfl rfl (by decide)), kit_ref X.t_NoName X.t_NoRise (nd_ne X.ne (i := 9) (j := 5) rfl rfl (by decide)) (nd_ne X.ne (i := 9) (j := 0) rfl rfl (by decide)), kit_ref X.t_NoName X.t_NoRow (nd_ne X.ne (i := 10) (j := 5) rfl rfl (by decide)) (nd_ne X.ne (i := 10) (j := 0) rfl rfl (by decide)), kit_ref X.t_NoName X.t_NoStair (nd_ne X.ne (i := 11) (j := 5) rfl rfl (by decide)) (nd_ne X.ne (i := 11) (j := 0) rfl rfl (by decide)), kit_ref X.t_NoName X.t_NoSteps (nd_ne X.ne (i := 12) (j := 5) rfl rfl (by decide)) (nd_ne X.ne (i := 12) (j := 0) rfl rfl (by decide)), kit_ref X.t_NoName X.t_NoText (nd_ne X.ne (i := 13) (j := 5) rfl rfl (by decide)) (nd_ne X.ne (i := 13) (j := 0) rfl rfl (by decide)), kit_ref X.t_NoName X.t_NoWalker (nd_ne X.ne (i := 14) (j := 5) rfl rfl (by decide)) (nd_ne X.ne (i := 14) (j := 0) rfl rfl (by decide)), kit_ref X.t_NoName X.t_NothingLeft (nd_ne X.ne (i := 15) (j := 5) rfl rfl (by decide)) (nd_ne X.ne (i := 15) (j := 0) rfl rfl (by decide)), kit_ref X.t_NoName X.t_TooMany (nd_ne X.ne (i := 16) (j := 5) rfl rfl (by decide)) (nd_ne X.ne (i := 16) (j := 0) rfl rfl (by decide))⟩
  | 5, n =>
    cases n
    refine ⟨by decide, X.t_NoPartner, kit_ref X.t_NoPartner X.t_NoBounds (nd_ne X.ne (i := 1) (j := 6) rfl rfl (by decide)) (nd_ne X.ne (i := 1) (j := 0) rfl rfl (by decide)), kit_ref X.t_NoPartner X.t_NoCoins (nd_ne X.ne (i := 2) (j := 6) rfl rfl (by decide)) (nd_ne X.ne (i := 2) (j := 0) rfl rfl (by decide)), kit_ref X.t_NoPartner X.t_NoCount (nd_ne X.ne (i := 3) (j := 6) rfl rfl (by decide)) (nd_ne X.ne (i := 3) (j := 0) rfl rfl (by decide)), kit_ref X.t_NoPartner X.t_NoEntry (nd_ne X.ne (i := 4) (j := 6) rfl rfl (by decide)) (nd_ne X.ne (i := 4) (j := 0) rfl rfl (by decide)), kit_ref X.t_NoPartner X.t_NoName (nd_ne X.ne (i := 5) (j := 6) rfl rfl (by decide)) (nd_ne X.ne (i := 5) (j := 0) rfl rfl (by decide)), kit_same, kit_ref X.t_NoPartner X.t_NoPower (nd_ne X.ne (i := 7) (j := 6) rfl rfl (by decide)) (nd_ne X.ne (i := 7) (j := 0) rfl rfl (by decide)), kit_ref X.t_NoPartner X.t_NoRing (nd_ne X.ne (i := 8) (j := 6) rfl rfl (by decide)) (nd_ne X.ne (i := 8) (j := 0) rfl rfl (by decide)), kit_ref X.t_NoPartner X.t_NoRise (nd_ne X.ne (i := 9) (j := 6) rfl rfl (by decide)) (nd_ne X.ne (i := 9) (j := 0) rfl rfl (by decide)), kit_ref X.t_NoPartner X.t_NoRow (nd_ne X.ne (i := 10) (j := 6) rfl rfl (by decide)) (nd_ne X.ne (i := 10) (j := 0) rfl rfl (by decide)), kit_ref X.t_NoPartner X.t_NoStair (nd_ne X.ne (i := 11) (j := 6) rfl rfl (by decide)) (nd_ne X.ne (i := 11) (j := 0) rfl rfl (by decide)), kit_ref X.t_NoPartner X.t_NoSteps (nd_ne X.ne (i := 12) (j := 6) rfl rfl (by decide)) (nd_ne X.ne (i := 12) (j := 0) rfl rfl (by decide)), kit_ref X.t_NoPartner X.t_NoText (nd_ne X.ne (i := 13) (j := 6) rfl rfl (by decide)) (nd_ne X.ne (i := 13) (j := 0) rfl rfl (by decide)), kit_ref X.t_NoPartner X.t_NoWalker (nd_ne X.ne (i := 14) (j := 6) rfl rfl (by decide)) (nd_ne X.ne (i := 14) (j := 0) rfl rfl (by decide)), kit_ref X.t_NoPartner X.t_NothingLeft (nd_ne X.ne (i := 15) (j := 6) rfl rfl (by decide)) (nd_ne X.ne (i := 15) (j := 0) rfl rfl (by decide)), kit_ref X.t_NoPartner X.t_TooMany (nd_ne X.ne (i := 16) (j := 6) rfl rfl (by decide)) (nd_ne X.ne (i := 16) (j := 0) rfl rfl (by decide))⟩
  | 6, n =>
    cases n
    refine ⟨by decide, X.t_NoPower, kit_ref X.t_NoPower X.t_NoBounds (nd_ne X.ne (i := 1) (j := 7) rfl rfl (by decide)) (nd_ne X.ne (i := 1) (j := 0) rfl rfl (by decide)), kit_ref X.t_NoPower X.t_NoCoins (nd_ne X.ne (i := 2) (j := 7) rfl rfl (by decide)) (nd_ne X.ne (i := 2) (j := 0) rfl rfl (by decide)), kit_ref X.t_NoPower X.t_NoCount (nd_ne X.ne (i := 3) (j := 7) rfl rfl (by decide)) (nd_ne X.ne (i := 3) (j := 0) rfl rfl (by decide)), kit_ref X.t_NoPower X.t_NoEntry (nd_ne X.ne (i := 4) (j := 7) rfl rfl (by decide)) (nd_ne X.ne (i := 4) (j := 0) rfl rfl (by decide)), kit_ref X.t_NoPower X.t_NoName (nd_ne X.ne (i := 5) (j := 7) rfl rfl (by decide)) (nd_ne X.ne (i := 5) (j := 0) rfl rfl (by decide)), kit_ref X.t_NoPower X.t_NoPartner (nd_ne X.ne (i := 6) (j := 7) rfl rfl (by decide)) (nd_ne X.ne (i := 6) (j := 0) rfl rfl (by decide)), kit_same, kit_ref X.t_NoPower X.t_NoRing (nd_ne X.ne (i := 8) (j := 7) rfl rfl (by decide)) (nd_ne X.ne (i := 8) (j := 0) rfl rfl (by decide)), kit_ref X.t_NoPower X.t_NoRise (nd_ne X.ne (i := 9) (j := 7) rfl rfl (by decide)) (nd_ne X.ne (i := 9) (j := 0) rfl rfl (by decide)), kit_ref X.t_NoPower X.t_NoRow (nd_ne X.ne (i := 10) (j := 7) rfl rfl (by decide)) (nd_ne X.ne (i := 10) (j := 0) rfl rfl (by decide)), kit_ref X.t_NoPower X.t_NoStair (nd_ne X.ne (i := 11) (j := 7) rfl rfl (by decide)) (nd_ne X.ne (i := 11) (j := 0) rfl rfl (by decide)), kit_ref X.t_NoPower X.t_NoSteps (nd_ne X.ne (i := 12) (j := 7) rfl rfl (by decide)) (nd_ne X.ne (i := 12) (j := 0) rfl rfl (by decide)), kit_ref X.t_NoPower X.t_NoText (nd_ne X.ne (i := 13) (j := 7) rfl rfl (by decide)) (nd_ne X.ne (i := 13) (j := 0) rfl rfl (by decide)), kit_ref X.t_NoPower X.t_NoWalker (nd_ne X.ne (i := 14) (j := 7) rfl rfl (by decide)) (nd_ne X.ne (i := 14) (j := 0) rfl rfl (by decide)), kit_ref X.t_NoPower X.t_NothingLeft (nd_ne X.ne (i := 15) (j := 7) rfl rfl (by decide)) (nd_ne X.ne (i := 15) (j := 0) rfl rfl (by decide)), kit_ref X.t_NoPower X.t_TooMany (nd_ne X.ne (i := 16) (j := 7) rfl rfl (by decide)) (nd_ne X.ne (i := 16) (j := 0) rfl rfl (by decide))⟩
  | 7, n =>
    cases n
    refine ⟨by decide, X.t_NoRing, kit_ref X.t_NoRing X.t_NoBounds (nd_ne X.ne (i := 1) (j := 8) rfl rfl (by decide)) (nd_ne X.ne (i := 1) (j := 0) rfl rfl (by decide)), kit_ref X.t_NoRing X.t_NoCoins (nd_ne X.ne (i := 2) (j := 8) rfl rfl (by decide)) (nd_ne X.ne (i := 2) (j := 0) rfl rfl (by decide)), kit_ref X.t_NoRing X.t_NoCount (nd_ne X.ne (i := 3) (j := 8) rfl rfl (by decide)) (nd_ne X.ne (i := 3) (j := 0) rfl rfl (by decide)), kit_ref X.t_NoRing X.t_NoEntry (nd_ne X.ne (i := 4) (j := 8) rfl rfl (by decide)) (nd_ne X.ne (i := 4) (j := 0) rfl rfl (by decide)), kit_ref X.t_NoRing X.t_NoName (nd_ne X.ne (i := 5) (j := 8) rfl rfl (by decide)) (nd_ne X.ne (i := 5) (j := 0) rfl rfl (by decide)), kit_ref X.t_NoRing X.t_NoPartner (nd_ne X.ne (i := 6) (j := 8) rfl rfl (by decide)) (nd_ne X.ne (i := 6) (j := 0) rfl rfl (by decide)), kit_ref X.t_NoRing X.t_NoPower (nd_ne X.ne (i := 7) (j := 8) rfl rfl (by decide)) (nd_ne X.ne (i := 7) (j := 0) rfl rfl (by decide)), kit_same, kit_ref X.t_NoRing X.t_NoRise (nd_ne X.ne (i := 9) (j := 8) rfl rfl (by decide)) (nd_ne X.ne (i := 9) (j := 0) rfl rfl (by decide)), kit_ref X.t_NoRing X.t_NoRow (nd_ne X.ne (i := 10) (j := 8) rfl rfl (by decide)) (nd_ne X.ne (i := 10) (j := 0) rfl rfl (by decide)), kit_ref X.t_NoRing X.t_NoStair (nd_ne X.ne (i := 11) (j := 8) rfl rfl (by decide)) (nd_ne X.ne (i := 11) (j := 0) rfl rfl (by decide)), kit_ref X.t_NoRing X.t_NoSteps (nd_ne X.ne (i := 12) (j := 8) rfl rfl (by decide)) (nd_ne X.ne (i := 12) (j := 0) rfl rfl (by decide)), kit_ref X.t_NoRing X.t_NoText (nd_ne X.ne (i := 13) (j := 8) rfl rfl (by decide)) (nd_ne X.ne (i := 13) (j := 0) rfl rfl (by decide)), kit_ref X.t_NoRing X.t_NoWalker (nd_ne X.ne (i := 14) (j := 8) rfl rfl (by decide)) (nd_ne X.ne (i := 14) (j := 0) rfl rfl (by decide)), kit_ref X.t_NoRing X.t_NothingLeft (nd_ne X.ne (i := 15) (j := 8) rfl rfl (by decide)) (nd_ne X.ne (i := 15) (j := 0) rfl rfl (by decide)), kit_ref X.t_NoRing X.t_TooMany (nd_ne X.ne (i := 16) (j := 8) rfl rfl (by decide)) (nd_ne X.ne (i := 16) (j := 0) rfl rfl (by decide))⟩
  | 8, n =>
    cases n
    refine ⟨by decide, X.t_NoRise, kit_ref X.t_NoRise X.t_NoBounds (nd_ne X.ne (i := 1) (j := 9) rfl rfl (by decide)) (nd_ne X.ne (i := 1) (j := 0) rfl rfl (by decide)), kit_ref X.t_NoRise X.t_NoCoins (nd_ne X.ne (i := 2) (j := 9) rfl rfl (by decide)) (nd_ne X.ne (i := 2) (j := 0) rfl rfl (by decide)), kit_ref X.t_NoRise X.t_NoCount (nd_ne X.ne (i := 3) (j := 9) rfl rfl (by decide)) (nd_ne X.ne (i := 3) (j := 0) rfl rfl (by decide)), kit_ref X.t_NoRise X.t_NoEntry (nd_ne X.ne (i := 4) (j := 9) rfl rfl (by decide)) (nd_ne X.ne (i := 4) (j := 0) rfl rfl (by decide)), kit_ref X.t_NoRise X.t_NoName (nd_ne X.ne (i := 5) (j := 9) rfl rfl (by decide)) (nd_ne X.ne (i := 5) (j := 0) rfl rfl (by decide)), kit_ref X.t_NoRise X.t_NoPartner (nd_ne X.ne (i := 6) (j := 9) rfl rfl (by decide)) (nd_ne X.ne (i := 6) (j := 0) rfl rfl (by decide)), kit_ref X.t_NoRise X.t_NoPower (nd_ne X.ne (i := 7) (j := 9) rfl rfl (by decide)) (nd_ne X.ne (i := 7) (j := 0) rfl rfl (by decide)), kit_ref X.t_NoRise X.t_NoRing (nd_ne X.ne (i := 8) (j := 9) rfl rfl (by decide)) (nd_ne X.ne (i := 8) (j := 0) rfl rfl (by decide)), kit_same, kit_ref X.t_NoRise X.t_NoRow (nd_ne X.ne (i := 10) (j := 9) rfl rfl (by decide)) (nd_ne X.ne (i := 10) (j := 0) rfl rfl (by decide)), kit_ref X.t_NoRise X.t_NoStair (nd_ne X.ne (i := 11) (j := 9) rfl rfl (by decide)) (nd_ne X.ne (i := 11) (j := 0) rfl rfl (by decide)), kit_ref X.t_NoRise X.t_NoSteps (nd_ne X.ne (i := 12) (j := 9) rfl rfl (by decide)) (nd_ne X.ne (i := 12) (j := 0) rfl rfl (by decide)), kit_ref X.t_NoRise X.t_NoText (nd_ne X.ne (i := 13) (j := 9) rfl rfl (by decide)) (nd_ne X.ne (i := 13) (j := 0) rfl rfl (by decide)), kit_ref X.t_NoRise X.t_NoWalker (nd_ne X.ne (i := 14) (j := 9) rfl rfl (by decide)) (nd_ne X.ne (i := 14) (j := 0) rfl rfl (by decide)), kit_ref X.t_NoRise X.t_NothingLeft (nd_ne X.ne (i := 15) (j := 9) rfl rfl (by decide)) (nd_ne X.ne (i := 15) (j := 0) rfl rfl (by decide)), kit_ref X.t_NoRise X.t_TooMany (nd_ne X.ne (i := 16) (j := 9) rfl rfl (by decide)) (nd_ne X.ne (i := 16) (j := 0) rfl rfl (by decide))⟩
  | 9, n =>
    cases n
    refine ⟨by decide, X.t_NoRow, kit_ref X.t_NoRow X.t_NoBounds (nd_ne X.ne (i := 1) (j := 10) rfl rfl (by decide)) (nd_ne X.ne (i := 1) (j := 0) rfl rfl (by decide)), kit_ref X.t_NoRow X.t_NoCoins (nd_ne X.ne (i := 2) (j := 10) rfl rfl (by decide)) (nd_ne X.ne (i := 2) (j := 0) rfl rfl (by decide)), kit_ref X.t_NoRow X.t_NoCount (nd_ne X.ne (i := 3) (j := 10) rfl rfl (by decide)) (nd_ne X.ne (i := 3) (j := 0) rfl rfl (by decide)), kit_ref X.t_NoRow X.t_NoEntry (nd_ne X.ne (i := 4) (j := 10) rfl rfl (by decide)) (nd_ne X.ne (i := 4) (j := 0) rfl rfl (by decide)), kit_ref X.t_NoRow X.t_NoName (nd_ne X.ne (i := 5) (j := 10) rfl rfl (by decide)) (nd_ne X.ne (i := 5) (j := 0) rfl rfl (by decide)), kit_ref X.t_NoRow X.t_NoPartner (nd_ne X.ne (i := 6) (j := 10) rfl rfl (by decide)) (nd_ne X.ne (i := 6) (j := 0) rfl rfl (by decide)), kit_ref X.t_NoRow X.t_NoPower (nd_ne X.ne (i := 7) (j := 10) rfl rfl (by decide)) (nd_ne X.ne (i := 7) (j := 0) rfl rfl (by decide)), kit_ref X.t_NoRow X.t_NoRing (nd_ne X.ne (i := 8) (j := 10) rfl rfl (by decide)) (nd_ne X.ne (i := 8) (j := 0) rfl rfl (by decide)), kit_ref X.t_NoRow X.t_NoRise (nd_ne X.ne (i := 9) (j := 10) rfl rfl (by decide)) (nd_ne X.ne (i := 9) (j := 0) rfl rfl (by decide)), kit_same, kit_ref X.t_NoRow X.t_NoStair (nd_ne X.ne (i := 11) (j := 10) rfl rfl (by decide)) (nd_ne X.ne (i := 11) (j := 0) rfl rfl (by decide)), kit_ref X.t_NoRow X.t_NoSteps (nd_ne X.ne (i := 12) (j := 10) rfl rfl (by decide)) (nd_ne X.ne (i := 12) (j := 0) rfl rfl (by decide)), kit_ref X.t_NoRow X.t_NoText (nd_ne X.ne (i := 13) (j := 10) rfl rfl (by decide)) (nd_ne X.ne (i := 13) (j := 0) rfl rfl (by decide)), kit_ref X.t_NoRow X.t_NoWalker (nd_ne X.ne (i := 14) (j := 10) rfl rfl (by decide)) (nd_ne X.ne (i := 14) (j := 0) rfl rfl (by decide)), kit_ref X.t_NoRow X.t_NothingLeft (nd_ne X.ne (i := 15) (j := 10) rfl rfl (by decide)) (nd_ne X.ne (i := 15) (j := 0) rfl rfl (by decide)), kit_ref X.t_NoRow X.t_TooMany (nd_ne X.ne (i := 16) (j := 10) rfl rfl (by decide)) (nd_ne X.ne (i := 16) (j := 0) rfl rfl (by decide))⟩
  | 10, n =>
    cases n
    refine ⟨by decide, X.t_NoStair, kit_ref X.t_NoStair X.t_NoBounds (nd_ne X.ne (i := 1) (j := 11) rfl rfl (by decide)) (nd_ne X.ne (i := 1) (j := 0) rfl rfl (by decide)), kit_ref X.t_NoStair X.t_NoCoins (nd_ne X.ne (i := 2) (j := 11) rfl rfl (by decide)) (nd_ne X.ne (i := 2) (j := 0) rfl rfl (by decide)), kit_ref X.t_NoStair X.t_NoCount (nd_ne X.ne (i := 3) (j := 11) rfl rfl (by decide)) (nd_ne X.ne (i := 3) (j := 0) rfl rfl (by decide)), kit_ref X.t_NoStair X.t_NoEntry (nd_ne X.ne (i := 4) (j := 11) rfl rfl (by decide)) (nd_ne X.ne (i := 4) (j := 0) rfl rfl (by decide)), kit_ref X.t_NoStair X.t_NoName (nd_ne X.ne (i := 5) (j := 11) rfl rfl (by decide)) (nd_ne X.ne (i := 5) (j := 0) rfl rfl (by decide)), kit_ref X.t_NoStair X.t_NoPartner (nd_ne X.ne (i := 6) (j := 11) rfl rfl (by decide)) (nd_ne X.ne (i := 6) (j := 0) rfl rfl (by decide)), kit_ref X.t_NoStair X.t_NoPower (nd_ne X.ne (i := 7) (j := 11) rfl rfl (by decide)) (nd_ne X.ne (i := 7) (j := 0) rfl rfl (by decide)), kit_ref X.t_NoStair X.t_NoRing (nd_ne X.ne (i := 8) (j := 11) rfl rfl (by decide)) (nd_ne X.ne (i := 8) (j := 0) rfl rfl (by decide)), kit_ref X.t_NoStair X.t_NoRise (nd_ne X.ne (i := 9) (j := 11) rfl rfl (by decide)) (nd_ne X.ne (i := 9) (j := 0) rfl rfl (by decide)), kit_ref X.t_NoStair X.t_NoRow (nd_ne X.ne (i := 10) (j := 11) rfl rfl (by decide)) (nd_ne X.ne (i := 10) (j := 0) rfl rfl (by decide)), kit_same, kit_ref X.t_NoStair X.t_NoSteps (nd_ne X.ne (i := 12) (j := 11) rfl rfl (by decide)) (nd_ne X.ne (i := 12) (j := 0) rfl rfl (by decide)), kit_ref X.t_NoStair X.t_NoText (nd_ne X.ne (i := 13) (j := 11) rfl rfl (by decide)) (nd_ne X.ne (i := 13) (j := 0) rfl rfl (by decide)), kit_ref X.t_NoStair X.t_NoWalker (nd_ne X.ne (i := 14) (j := 11) rfl rfl (by decide)) (nd_ne X.ne (i := 14) (j := 0) rfl rfl (by decide)), kit_ref X.t_NoStair X.t_NothingLeft (nd_ne X.ne (i := 15) (j := 11) rfl rfl (by decide)) (nd_ne X.ne (i := 15) (j := 0) rfl rfl (by decide)), kit_ref X.t_NoStair X.t_TooMany (nd_ne X.ne (i := 16) (j := 11) rfl rfl (by decide)) (nd_ne X.ne (i := 16) (j := 0) rfl rfl (by decide))⟩
  | 11, n =>
    cases n
    refine ⟨by decide, X.t_NoSteps, kit_ref X.t_NoSteps X.t_NoBounds (nd_ne X.ne (i := 1) (j := 12) rfl rfl (by decide)) (nd_ne X.ne (i := 1) (j := 0) rfl rfl (by decide)), kit_ref X.t_NoSteps X.t_NoCoins (nd_ne X.ne (i := 2) (j := 12) rfl rfl (by decide)) (nd_ne X.ne (i := 2) (j := 0) rfl rfl (by decide)), kit_ref X.t_NoSteps X.t_NoCount (nd_ne X.ne (i := 3) (j := 12) rfl rfl (by decide)) (nd_ne X.ne (i := 3) (j := 0) rfl rfl (by decide)), kit_ref X.t_NoSteps X.t_NoEntry (nd_ne X.ne (i := 4) (j := 12) rfl rfl (by decide)) (nd_ne X.ne (i := 4) (j := 0) rfl rfl (by decide)), kit_ref X.t_NoSteps X.t_NoName (nd_ne X.ne (i := 5) (j := 12) rfl rfl (by decide)) (nd_ne X.ne (i := 5) (j := 0) rfl rfl (by decide)), kit_ref X.t_NoSteps X.t_NoPartner (nd_ne X.ne (i := 6) (j := 12) rfl rfl (by decide)) (nd_ne X.ne (i := 6) (j := 0) rfl rfl (by decide)), kit_ref X.t_NoSteps X.t_NoPower (nd_ne X.ne (i := 7) (j := 12) rfl rfl (by decide)) (nd_ne X.ne (i := 7) (j := 0) rfl rfl (by decide)), kit_ref X.t_NoSteps X.t_NoRing (nd_ne X.ne (i := 8) (j := 12) rfl rfl (by decide)) (nd_ne X.ne (i := 8) (j := 0) rfl rfl (by decide)), kit_ref X.t_NoSteps X.t_NoRise (nd_ne X.ne (i := 9) (j := 12) rfl rfl (by decide)) (nd_ne X.ne (i := 9) (j := 0) rfl rfl (by decide)), kit_ref X.t_NoSteps X.t_NoRow (nd_ne X.ne (i := 10) (j := 12) rfl rfl (by decide)) (nd_ne X.ne (i := 10) (j := 0) rfl rfl (by decide)), kit_ref X.t_NoSteps X.t_NoStair (nd_ne X.ne (i := 11) (j := 12) rfl rfl (by decide)) (nd_ne X.ne (i := 11) (j := 0) rfl rfl (by decide)), kit_same, kit_ref X.t_NoSteps X.t_NoText (nd_ne X.ne (i := 13) (j := 12) rfl rfl (by decide)) (nd_ne X.ne (i := 13) (j := 0) rfl rfl (by decide)), kit_ref X.t_NoSteps X.t_NoWalker (nd_ne X.ne (i := 14) (j := 12) rfl rfl (by decide)) (nd_ne X.ne (i := 14) (j := 0) rfl rfl (by decide)), kit_ref X.t_NoSteps X.t_NothingLeft (nd_ne X.ne (i := 15) (j := 12) rfl rfl (by decide)) (nd_ne X.ne (i := 15) (j := 0) rfl rfl (by decide)), kit_ref X.t_NoSteps X.t_TooMany (nd_ne X.ne (i := 16) (j := 12) rfl rfl (by decide)) (nd_ne X.ne (i := 16) (j := 0) rfl rfl (by decide))⟩
  | 12, n =>
    cases n
    refine ⟨by decide, X.t_NoText, kit_ref X.t_NoText X.t_NoBounds (nd_ne X.ne (i := 1) (j := 13) rfl rfl (by decide)) (nd_ne X.ne (i := 1) (j := 0) rfl rfl (by decide)), kit_ref X.t_NoText X.t_NoCoins (nd_ne X.ne (i := 2) (j := 13) rfl rfl (by decide)) (nd_ne X.ne (i := 2) (j := 0) rfl rfl (by decide)), kit_ref X.t_NoText X.t_NoCount (nd_ne X.ne (i := 3) (j := 13) rfl rfl (by decide)) (nd_ne X.ne (i := 3) (j := 0) rfl rfl (by decide)), kit_ref X.t_NoText X.t_NoEntry (nd_ne X.ne (i := 4) (j := 13) rfl rfl (by decide)) (nd_ne X.ne (i := 4) (j := 0) rfl rfl (by decide)), kit_ref X.t_NoText X.t_NoName (nd_ne X.ne (i := 5) (j := 13) rfl rfl (by decide)) (nd_ne X.ne (i := 5) (j := 0) rfl rfl (by decide)), kit_ref X.t_NoText X.t_NoPartner (nd_ne X.ne (i := 6) (j := 13) rfl rfl (by decide)) (nd_ne X.ne (i := 6) (j := 0) rfl rfl (by decide)), kit_ref X.t_NoText X.t_NoPower (nd_ne X.ne (i := 7) (j := 13) rfl rfl (by decide)) (nd_ne X.ne (i := 7) (j := 0) rfl rfl (by decide)), kit_ref X.t_NoText X.t_NoRing (nd_ne X.ne (i := 8) (j := 13) rfl rfl (by decide)) (nd_ne X.ne (i := 8) (j := 0) rfl rfl (by decide)), kit_ref X.t_NoText X.t_NoRise (nd_ne X.ne (i := 9) (j := 13) rfl rfl (by decide)) (nd_ne X.ne (i := 9) (j := 0) rfl rfl (by decide)), kit_ref X.t_NoText X.t_NoRow (nd_ne X.ne (i := 10) (j := 13) rfl rfl (by decide)) (nd_ne X.ne (i := 10) (j := 0) rfl rfl (by decide)), kit_ref X.t_NoText X.t_NoStair (nd_ne X.ne (i := 11) (j := 13) rfl rfl (by decide)) (nd_ne X.ne (i := 11) (j := 0) rfl rfl (by decide)), kit_ref X.t_NoText X.t_NoSteps (nd_ne X.ne (i := 12) (j := 13) rfl rfl (by decide)) (nd_ne X.ne (i := 12) (j := 0) rfl rfl (by decide)), kit_same, kit_ref X.t_NoText X.t_NoWalker (nd_ne X.ne (i := 14) (j := 13) rfl rfl (by decide)) (nd_ne X.ne (i := 14) (j := 0) rfl rfl (by decide)), kit_ref X.t_NoText X.t_NothingLeft (nd_ne X.ne (i := 15) (j := 13) rfl rfl (by decide)) (nd_ne X.ne (i := 15) (j := 0) rfl rfl (by decide)), kit_ref X.t_NoText X.t_TooMany (nd_ne X.ne (i := 16) (j := 13) rfl rfl (by decide)) (nd_ne X.ne (i := 16) (j := 0) rfl rfl (by decide))⟩
  | 13, n =>
    cases n
    refine ⟨by decide, X.t_NoWalker, kit_ref X.t_NoWalker X.t_NoBounds (nd_ne X.ne (i := 1) (j := 14) rfl rfl (by decide)) (nd_ne X.ne (i := 1) (j := 0) rfl rfl (by decide)), kit_ref X.t_NoWalker X.t_NoCoins (nd_ne X.ne (i := 2) (j := 14) rfl rfl (by decide)) (nd_ne X.ne (i := 2) (j := 0) rfl rfl (by decide)), kit_ref X.t_NoWalker X.t_NoCount (nd_ne X.ne (i := 3) (j := 14) rfl rfl (by decide)) (nd_ne X.ne (i := 3) (j := 0) rfl rfl (by decide)), kit_ref X.t_NoWalker X.t_NoEntry (nd_ne X.ne (i := 4) (j := 14) rfl rfl (by decide)) (nd_ne X.ne (i := 4) (j := 0) rfl rfl (by decide)), kit_ref X.t_NoWalker X.t_NoName (nd_ne X.ne (i := 5) (j := 14) rfl rfl (by decide)) (nd_ne X.ne (i := 5) (j := 0) rfl rfl (by decide)), kit_ref X.t_NoWalker X.t_NoPartner (nd_ne X.ne (i := 6) (j := 14) rfl rfl (by decide)) (nd_ne X.ne (i := 6) (j := 0) rfl rfl (by decide)), kit_ref X.t_NoWalker X.t_NoPower (nd_ne X.ne (i := 7) (j := 14) rfl rfl (by decide)) (nd_ne X.ne (i := 7) (j := 0) rfl rfl (by decide)), kit_ref X.t_NoWalker X.t_NoRing (nd_ne X.ne (i := 8) (j := 14) rfl rfl (by decide)) (nd_ne X.ne (i := 8) (j := 0) rfl rfl (by decide)), kit_ref X.t_NoWalker X.t_NoRise (nd_ne X.ne (i := 9) (j := 14) rfl rfl (by decide)) (nd_ne X.ne (i := 9) (j := 0) rfl rfl (by decide)), kit_ref X.t_NoWalker X.t_NoRow (nd_ne X.ne (i := 10) (j := 14) rfl rfl (by decide)) (nd_ne X.ne (i := 10) (j := 0) rfl rfl (by decide)), kit_ref X.t_NoWalker X.t_NoStair (nd_ne X.ne (i := 11) (j := 14) rfl rfl (by decide)) (nd_ne X.ne (i := 11) (j := 0) rfl rfl (by decide)), kit_ref X.t_NoWalker X.t_NoSteps (nd_ne X.ne (i := 12) (j := 14) rfl rfl (by decide)) (nd_ne X.ne (i := 12) (j := 0) rfl rfl (by decide)), kit_ref X.t_NoWalker X.t_NoText (nd_ne X.ne (i := 13) (j := 14) rfl rfl (by decide)) (nd_ne X.ne (i := 13) (j := 0) rfl rfl (by decide)), kit_same, kit_ref X.t_NoWalker X.t_NothingLeft (nd_ne X.ne (i := 15) (j := 14) rfl rfl (by decide)) (nd_ne X.ne (i := 15) (j := 0) rfl rfl (by decide)), kit_ref X.t_NoWalker X.t_TooMany (nd_ne X.ne (i := 16) (j := 14) rfl rfl (by decide)) (nd_ne X.ne (i := 16) (j := 0) rfl rfl (by decide))⟩
  | 14, n =>
    cases n
    refine ⟨by decide, X.t_NothingLeft, kit_ref X.t_NothingLeft X.t_NoBounds (nd_ne X.ne (i := 1) (j := 15) rfl rfl (by decide)) (nd_ne X.ne (i := 1) (j := 0) rfl rfl (by decide)), kit_ref X.t_NothingLeft X.t_NoCoins (nd_ne X.ne (i := 2) (j := 15) rfl rfl (by decide)) (nd_ne X.ne (i := 2) (j := 0) rfl rfl (by decide)), kit_ref X.t_NothingLeft X.t_NoCount (nd_ne X.ne (i := 3) (j := 15) rfl rfl (by decide)) (nd_ne X.ne (i := 3) (j := 0) rfl rfl (by decide)), kit_ref X.t_NothingLeft X.t_NoEntry (nd_ne X.ne (i := 4) (j := 15) rfl rfl (by decide)) (nd_ne X.ne (i := 4) (j := 0) rfl rfl (by decide)), kit_ref X.t_NothingLeft X.t_NoName (nd_ne X.ne (i := 5) (j := 15) rfl rfl (by decide)) (nd_ne X.ne (i := 5) (j := 0) rfl rfl (by decide)), kit_ref X.t_NothingLeft X.t_NoPartner (nd_ne X.ne (i := 6) (j := 15) rfl rfl (by decide)) (nd_ne X.ne (i := 6) (j := 0) rfl rfl (by decide)), kit_ref X.t_NothingLeft X.t_NoPower (nd_ne X.ne (i := 7) (j := 15) rfl rfl (by decide)) (nd_ne X.ne (i := 7) (j := 0) rfl rfl (by decide)), kit_ref X.t_NothingLeft X.t_NoRing (nd_ne X.ne (i := 8) (j := 15) rfl rfl (by decide)) (nd_ne X.ne (i := 8) (j := 0) rfl rfl (by decide)), kit_ref X.t_NothingLeft X.t_NoRise (nd_ne X.ne (i := 9) (j := 15) rfl rfl (by decide)) (nd_ne X.ne (i := 9) (j := 0) rfl rfl (by decide)), kit_ref X.t_NothingLeft X.t_NoRow (nd_ne X.ne (i := 10) (j := 15) rfl rfl (by decide)) (nd_ne X.ne (i := 10) (j := 0) rfl rfl (by decide)), kit_ref X.t_NothingLeft X.t_NoStair (nd_ne X.ne (i := 11) (j := 15) rfl rfl (by decide)) (nd_ne X.ne (i := 11) (j := 0) rfl rfl (by decide)), kit_ref X.t_NothingLeft X.t_NoSteps (nd_ne X.ne (i := 12) (j := 15) rfl rfl (by decide)) (nd_ne X.ne (i := 12) (j := 0) rfl rfl (by decide)), kit_ref X.t_NothingLeft X.t_NoText (nd_ne X.ne (i := 13) (j := 15) rfl rfl (by decide)) (nd_ne X.ne (i := 13) (j := 0) rfl rfl (by decide)), kit_ref X.t_NothingLeft X.t_NoWalker (nd_ne X.ne (i := 14) (j := 15) rfl rfl (by decide)) (nd_ne X.ne (i := 14) (j := 0) rfl rfl (by decide)), kit_same, kit_ref X.t_NothingLeft X.t_TooMany (nd_ne X.ne (i := 16) (j := 15) rfl rfl (by decide)) (nd_ne X.ne (i := 16) (j := 0) rfl rfl (by decide))⟩
  | 15, n =>
    cases n
    refine ⟨by decide, X.t_TooMany, kit_ref X.t_TooMany X.t_NoBounds (nd_ne X.ne (i := 1) (j := 16) rfl rfl (by decide)) (nd_ne X.ne (i := 1) (j := 0) rfl rfl (by decide)), kit_ref X.t_TooMany X.t_NoCoins (nd_ne X.ne (i := 2) (j := 16) rfl rfl (by decide)) (nd_ne X.ne (i := 2) (j := 0) rfl rfl (by decide)), kit_ref X.t_TooMany X.t_NoCount (nd_ne X.ne (i := 3) (j := 16) rfl rfl (by decide)) (nd_ne X.ne (i := 3) (j := 0) rfl rfl (by decide)), kit_ref X.t_TooMany X.t_NoEntry (nd_ne X.ne (i := 4) (j := 16) rfl rfl (by decide)) (nd_ne X.ne (i := 4) (j := 0) rfl rfl (by decide)), kit_ref X.t_TooMany X.t_NoName (nd_ne X.ne (i := 5) (j := 16) rfl rfl (by decide)) (nd_ne X.ne (i := 5) (j := 0) rfl rfl (by decide)), kit_ref X.t_TooMany X.t_NoPartner (nd_ne X.ne (i := 6) (j := 16) rfl rfl (by decide)) (nd_ne X.ne (i := 6) (j := 0) rfl rfl (by decide)), kit_ref X.t_TooMany X.t_NoPower (nd_ne X.ne (i := 7) (j := 16) rfl rfl (by decide)) (nd_ne X.ne (i := 7) (j := 0) rfl rfl (by decide)), kit_ref X.t_TooMany X.t_NoRing (nd_ne X.ne (i := 8) (j := 16) rfl rfl (by decide)) (nd_ne X.ne (i := 8) (j := 0) rfl rfl (by decide)), kit_ref X.t_TooMany X.t_NoRise (nd_ne X.ne (i := 9) (j := 16) rfl rfl (by decide)) (nd_ne X.ne (i := 9) (j := 0) rfl rfl (by decide)), kit_ref X.t_TooMany X.t_NoRow (nd_ne X.ne (i := 10) (j := 16) rfl rfl (by decide)) (nd_ne X.ne (i := 10) (j := 0) rfl rfl (by decide)), kit_ref X.t_TooMany X.t_NoStair (nd_ne X.ne (i := 11) (j := 16) rfl rfl (by decide)) (nd_ne X.ne (i := 11) (j := 0) rfl rfl (by decide)), kit_ref X.t_TooMany X.t_NoSteps (nd_ne X.ne (i := 12) (j := 16) rfl rfl (by decide)) (nd_ne X.ne (i := 12) (j := 0) rfl rfl (by decide)), kit_ref X.t_TooMany X.t_NoText (nd_ne X.ne (i := 13) (j := 16) rfl rfl (by decide)) (nd_ne X.ne (i := 13) (j := 0) rfl rfl (by decide)), kit_ref X.t_TooMany X.t_NoWalker (nd_ne X.ne (i := 14) (j := 16) rfl rfl (by decide)) (nd_ne X.ne (i := 14) (j := 0) rfl rfl (by decide)), kit_ref X.t_TooMany X.t_NothingLeft (nd_ne X.ne (i := 15) (j := 16) rfl rfl (by decide)) (nd_ne X.ne (i := 15) (j := 0) rfl rfl (by decide)), kit_same⟩
  | i + 16, n => simp at n
theorem hotc_of {X : Cx} {A : Around} {p : Addr × Obj} (hot : L2H.Hot1 A p) (h : X.A.handled = A.handled) (hp : p ∈ X.pn) : L2H.HotC X := ⟨p, ⟨h.trans hot.1, hot.2⟩, hp⟩
theorem pg_tupHK {X : Cx} {K : PySem.W.Frag} {es : List Expr} {k : Nat} {t : TGs} {n : Nat} {pos : Pos} (hc : L2H.HotC X) (h : PGs X es t) (hK : X.K = K := by rfl)
    (hn : (assignEach es X.env).length = n := by rfl) (hst : (assignEach es X.env).findIdx? (·.1) = none := by rfl) : PG X (.Tuple es k pos) (gTup K n t) := hK ▸ pg_tupH hc h hn hst
theorem cxH_K {CX : CXT} {P : Program} {w : World} {K : PySem.W.Frag} {mg : Str → Option Value} {base : Heap} {N : List Str} {qual : Str} {scope : Scope} {f : Addr} {cd : Value} {A : Around} {outer : List Env} {s : Shared} {H : Hp} {E : XK} {p : Addr × Obj} : (L2H.cxH CX P w K mg base N qual scope f cd A outer s H E p).K = K := rfl
def kindW : List Str := ["NoBounds", "NoCoins", "NoCount", "NoEntry", "NoName", "NoPartner", "NoPower", "NoRing", "NoRise", "NoRow", "NoStair", "NoSteps", "NoText", "NoWalker", "NothingLeft", "TooMany", "+"]
def kindB (i : Nat) : List Bool := (List.range 16).map (fun j => decide (i = j)) ++ [true]
theorem kind_txt : ∀ i, i < 16 → Txt.join "" (((kindW.zip (kindB i)).filter (·.2)).map (·.1)) = kindT i := by decide +kernel
theorem kind_len : ∀ i, i < 16 → ((((kindW.zip (kindB i)).filter (·.2)).map (·.1)).map (·.length)).sum + (((kindW.zip (kindB i)).filter (·.2)).map (·.1)).length * (Str.ofString "").length ≤ 16777216 := by decide +kernel
theorem r_neSS {a : Str} {H : Hp} {Q : VK} (k : Q (.bl false) H) : rNe (.str a) (.str a) H Q := ⟨rfl, by rw [decide_eq_true rfl]; exact k⟩
theorem r_eqSS {a : Str} {H : Hp} {Q : VK} (k : Q (.bl true) H) : rEq (.str a) (.str a) H Q := ⟨rfl, by rw [decide_eq_true rfl]; exact k⟩
theorem r_neSD {a b : Str} (h : a ≠ b) {H : Hp} {Q : VK} (k : Q (.bl true) H) : rNe (.str a) (.str b) H Q := ⟨rfl, by rw [decide_eq_false (fun z => h (V.str.inj z))]; exact k⟩
theorem r_eqSD {a b : Str} (h : a ≠ b) {H : Hp} {Q : VK} (k : Q (.bl false) H) : rEq (.str a) (.str b) H Q := ⟨rfl, by rw [decide_eq_false (fun z => h (V.str.inj z))]; exact k⟩
theorem eqv_ns (z : Str) : PyData.eqv (.tuple [.none, .str z]) (.tuple [.none, .str z]) = true := by
  show (PyData.eqv .none .none && (PyData.eqv (.str z) (.str z) && true)) = true
  show (true && ((z == z) && true)) = true
  rw [beq_self_eq_true]
  rfl
theorem dp_ns {K : PySem.W.Frag} {H : Hp} {p : Addr} {z : Str} (h : H p = some (.tup [.non, .str z])) : Dp K H (.ref p) (.tuple [.none, .str z]) := .tup (SqT.of h) (.cons .non (.cons (.str z) .nil))
theorem r_neNS {K : PySem.W.Frag} {H : Hp} {Q : VK} {p q : Addr} {z : Str} (h : H p = some (.tup [.non, .str z])) (h' : H q = some (.tup [.non, .str z])) (k : Q (.bl false) H) (hs : SeqAt.shaped (.tuple [.none, .str z]) = true := by decide +kernel) : rNeD K (.ref p) (.ref q) H Q :=
  r_neD (dp_ns h) (dp_ns h') hs hs (by rw [eqv_ns]; exact k)
/-- False in a list of Trues -/
theorem r_inBF {K : PySem.W.Frag} {H : Hp} {Q : VK} {p : Addr} {n : Nat} (h : SqL K H p (List.replicate n (.bl true))) (k : Q (.bl false) H) : rIn K false (.bl false) (.ref p) H Q := by
  refine ⟨p, _, rfl, .inl h, rfl, ?_, ?_⟩
  · rw [List.all_eq_true]
    intro x hx
    rw [List.eq_of_mem_replicate hx]
    rfl
  · have e : inV (.bl false) (List.replicate n (V.bl true)) = false := by
      unfold inV
      rw [List.any_eq_false]
      intro x hx
      rw [List.eq_of_mem_replicate hx]
      decide
    rw [e]
    exact k
/-- a class that is raised, and what is told of it -/
def KdK (K : PySem.W.Frag) (c : Cl) (cls : Value) (z : Str) : Prop := ∃ i D, Nth c i D ∧ cls = .ref D ∧ z = kindT i ∧ XD K D
theorem kd_mk {K : PySem.W.Frag} {c : Cl} {D : Addr} (i : Nat) (d : XD K D) (n : Nth c i D) : KdK K c (.ref D) (kindT i) := ⟨i, D, n, rfl, rfl, d⟩
theorem r_isE {K : PySem.W.Frag} {D a C : Addr} {b : Bool} {H : Hp} {Q : VK} (e : PySem.W.kitOne K (.ref D) (.ref C) = some b) (k : Q (.bl b) H) : rIsE K D a [.ref a, .ref C] H Q :=
  ⟨.ref C, .ref C, b, rfl, fun u r => r, e, k⟩
theorem r_isEV {K : PySem.W.Frag} {D a : Addr} {S : Addr} {H : Hp} {Q : VK} (t : CT K D (.ref S :: vE)) (k : Q (.bl true) H) : rIsE K D a [.ref a, .ty "ValueError"] H Q :=
  ⟨.ty "ValueError", .type "ValueError", true, rfl, fun u r => r, kit_val t, k⟩
/-- [w for w, b in zip(words, flags) if b] -/
theorem lc_zipF {K : PySem.W.Frag} {σ : L2.St} {H : Hp} {Q : VK} {te : TE} {tt : TT} {a b : Addr} {ws : List Str} {bs : List Bool} {j1 j2 : Nat} {vs : List Nat} (ha : SqL K H a (ws.map V.str)) (hb : SqL K H b (bs.map V.bl)) (hl : ws.length = bs.length) (hn : ws.length ≤ 1000)
    (hw : ∀ x y, wipe (((wipe σ vs).set j1 (some x)).set j2 (some y)) vs = wipe σ vs)
    (ht : ∀ w f, PureT tt (((wipe σ vs).set j1 (some (.str w))).set j2 (some (.bl f))) H f) (he : ∀ w f, PureE te (((wipe σ vs).set j1 (some (.str w))).set j2 (some (.bl f))) H (.str w))
    (k : ∀ p H1, H p = none → Ex H H1 → H1 p = some (.lst ((((ws.zip bs).filter (·.2)).map (·.1)).map V.str)) → Q (.ref p) H1) : LcB (ItzH K a b) (gTup K 2 (gCons (gName j1) (gCons (gName j2) gNil))) tt te vs σ H Q := fun Dl hD => by
  have lz : (ws.zip bs).length = ws.length := by rw [List.length_zip, ← hl, Nat.min_self]
  refine ⟨fun i m H' => m = ws.length - i ∧ i ≤ ws.length ∧ Ex H H' ∧ H' Dl = some (.lst (((((ws.zip bs).take i).filter (·.2)).map (·.1)).map V.str)), ⟨_, rfl, Nat.zero_le _, Ex.new hD, by rw [upd_same]; rfl⟩, ?_⟩
  rintro i m H' ⟨rfl, hi, e, hd⟩
  by_cases hx : i = ws.length
  · subst hx
    refine .inl ⟨⟨_, sql_up e ha, by rw [List.length_map]; exact Nat.le_refl _⟩, ?_⟩
    rw [← lz, List.take_length] at hd
    exact k Dl H' hD e hd
  · have h1 : i < ws.length := by omega
    have h2 : i < bs.length := by omega
    have g1 : (ws.map V.str)[i]? = some (.str ws[i]) := by rw [List.getElem?_map, List.getElem?_eq_getElem h1]; rfl
    have g2 : (bs.map V.bl)[i]? = some (.bl bs[i]) := by rw [List.getElem?_map, List.getElem?_eq_getElem h2]; rfl
    have gz : (ws.zip bs)[i]? = some (ws[i], bs[i]) := by
      rw [List.getElem?_eq_getElem (by omega), List.getElem_zip]
    refine .inr ⟨⟨_, _, _, _, sql_up e ha, sql_up e hb, g1, g2⟩, fun H3 => Ex H H3 ∧ H3 Dl = some (.lst (((((ws.zip bs).take (i + 1)).filter (·.2)).map (·.1)).map V.str)), fun H3 p => ⟨ws.length - (i + 1), by omega, rfl, by omega, p⟩, ?_⟩
    rintro x H2 ⟨T, x1, y1, rfl, hT, rfl, q1, q2⟩
    have e1 : x1 = .str ws[i] := Option.some.inj ((q1 _ (sql_up e ha)).symm.trans g1)
    have e2 : y1 = .bl bs[i] := Option.some.inj ((q2 _ (sql_up e hb)).symm.trans g2)
    subst e1 e2
    refine ⟨T, _, rfl, SqT.of upd_same, rfl, _, _, rfl, _, _, rfl, rfl, hw _ _, ?_⟩
    have eT : Ex H' (upd H' T (.tup [.str ws[i], .bl bs[i]])) := Ex.new hT
    refine ht ws[i] bs[i] _ (e.trans eT) _ fun H4 e4 => ?_
    have eD := e4 _ _ (eT _ _ hd)
    have tk : (ws.zip bs).take (i + 1) = (ws.zip bs).take i ++ [(ws[i], bs[i])] := by rw [List.take_add_one, gz]; rfl
    cases hc : bs[i] with
    | true =>
      rw [if_pos rfl]
      have hc' := hc
      refine he ws[i] true H4 ((e.trans eT).trans e4) _ fun H5 e5 => ⟨_, e5 _ _ eD, ?_, ?_⟩
      · rw [List.length_map, List.length_map]
        have := List.length_filter_le (·.2) ((ws.zip bs).take i)
        rw [List.length_take] at this
        exact len_lt (by omega)
      · refine ⟨fun a o ho => ?_, ?_⟩
        · rw [upd_ne (ne_of_none ho hD)]
          exact e5 _ _ (e4 _ _ (eT _ _ (e _ _ ho)))
        · rw [upd_same, tk, List.filter_append, List.map_append, List.map_append, hc]
          rfl
    | false =>
      rw [if_neg Bool.false_ne_true]
      refine ⟨(e.trans eT).trans e4, ?_⟩
      rw [eD, tk, List.filter_append, List.map_append, List.map_append, hc]
      simp
theorem r_iZipH {K : PySem.W.Frag} {ta : TA} {σ : L2.St} {H : Hp} {R : It → Hp → Prop} (k : ta σ H fun vs H1 => ∃ a b xs ys, vs = [.ref a, .ref b] ∧ SqL K H1 a xs ∧ SqL K H1 b ys ∧ R (ItzH K a b) H1) : iZipH K ta σ H R := k
theorem r_zipE {K : PySem.W.Frag} {H : Hp} {a b : Addr} {xs ys : List V} {R : It → Hp → Prop} (ha : SqL K H a xs) (hb : SqL K H b ys) (k : R (ItzH K a b) H) : ∃ a' b' xs ys, [V.ref a, V.ref b] = [.ref a', .ref b'] ∧ SqL K H a' xs ∧ SqL K H b' ys ∧ R (ItzH K a' b') H := ⟨a, b, xs, ys, rfl, ha, hb, k⟩
/-! ### methods that raise -/
section
variable {P : Program} {w : World} {K : PySem.W.Frag} {mg : Str → Option Value} {base : Heap}
theorem MetAt.okR {C : Addr} {m q : Str} {st : Stmt} {N ps : List Str} {k : Nat} {sp : Sp} (D : MetAt K C m q st ps) (S : FnScope N ps (defScope st)) (len : ∀ vs H Q E, sp vs H Q E → vs.length = ps.length)
    (hbody : ∀ (f : Addr) (cdv : Value) (A : Around) (outer : List Env) (s : Shared) (H : Hp) (vs : List V) (Q : VK) (E : XK), Room k (A.deeper (envOfC q (defScope st) s.heap.objs.size f cdv)) → sp vs H Q E →
      ∃ t, PSs (cxOf (L2N.CX P w) P w K mg base N q (defScope st) f cdv A outer s H E) (defBody st) t ∧ t { nx := fun _ H' => Q .non H', rt := Q } (start N vs) H) : HasM P w K mg base (L2N.CX P w) (k + 1) C m ps sp := by
  obtain ⟨f, fd, F, m, b⟩ := D
  obtain ⟨oc, od, kV, doc, pm, an, cdv, ct, osl, rfl, lk, hcd⟩ := F.ex
  exact ⟨f, _, m, b, fn_of lk hcd S len fun A outer s H vs Q E hr h => hbody f cdv A outer s H vs Q E hr h⟩
theorem IniAt.okR {C : Addr} {q : Str} {st : Stmt} {N ps : List Str} {k : Nat} {sp : Sp} (D : IniAt K C q st ps) (S : FnScope N ps (defScope st)) (len : ∀ vs H Q E, sp vs H Q E → vs.length = ps.length)
    (hbody : ∀ (f : Addr) (cdv : Value) (A : Around) (outer : List Env) (s : Shared) (H : Hp) (vs : List V) (Q : VK) (E : XK), Room k (A.deeper (envOfC q (defScope st) s.heap.objs.size f cdv)) → sp vs H Q E →
      ∃ t, PSs (cxOf (L2N.CX P w) P w K mg base N q (defScope st) f cdv A outer s H E) (defBody st) t ∧ t { nx := fun _ H' => Q .non H', rt := Q } (start N vs) H) : HasI P w K mg base (L2N.CX P w) (k + 1) C ps sp := by
  obtain ⟨f, fd, F, m, b⟩ := D
  obtain ⟨oc, od, kV, doc, pm, an, cdv, ct, osl, rfl, lk, hcd⟩ := F.ex
  exact ⟨f, _, m, b, fn_of lk hcd S len fun A outer s H vs Q E hr h => hbody f cdv A outer s H vs Q E hr h⟩
end
def tMCS (C : Addr) (m : Str) (sp : Sp) (E : L2.St → XK) (ta : TE) (t : TA) : TE := fun σ H Q => ta σ H fun x H1 => MObj C m x H1 (t σ H1 fun vs H2 => sp (x :: vs) H2 Q (E σ))
def tMkCS (C : Addr) (sp : Sp) (E : L2.St → XK) (t : TA) : TE := fun σ H Q => t σ H fun vs H1 => NewO C (fun x H2 => sp (.ref x :: vs) H2 (fun v H3 => v = .non ∧ Q (.ref x) H3) (E σ)) H1
theorem r_methS {C : Addr} {m : Str} {sp : Sp} {E : L2.St → XK} {ta : TE} {t : TA} {σ : L2.St} {H : Hp} {Q : VK} (k : ta σ H fun x H1 => MObj C m x H1 (t σ H1 fun vs H2 => sp (x :: vs) H2 Q (E σ))) : tMCS C m sp E ta t σ H Q := k
theorem r_makeS {C : Addr} {sp : Sp} {E : L2.St → XK} {t : TA} {σ : L2.St} {H : Hp} {Q : VK} (k : t σ H fun vs H1 => NewO C (fun x H2 => sp (.ref x :: vs) H2 (fun v H3 => v = .non ∧ Q (.ref x) H3) (E σ)) H1) : tMkCS C sp E t σ H Q := k
section
variable {X : Cx} {x m : Str} {C : Addr} {p pos apos : Pos} {o e : Expr} {es : List Expr} {ta : TE} {t : TA} {k : Nat} {ps : List Str} {sp : Sp} {pl : Sem Bool} {W : WX}
theorem pmethR (c : Cls X.K C) (G : HasM X.prog X.w X.K X.mg X.base (L2N.CX X.prog X.w) k C m ps sp) (hr : Room k X.A) (tk : L2N.Takes X W) (ho : PE X o ta) (ha : PA X (e :: es) t)
    (hst : starEach (e :: es) X.env = (false, eval e X.env) :: starEach es X.env := by rfl) (hpl : (backTo pos (starEach es X.env)).any (·.1) = false := by rfl)
    (ht : eval (.Call (.Attribute o m apos) (e :: es) [] pos) X.env = (do
      let ov ← eval o X.env
      standAt apos.atName
      let (f, first) ← holding [ov] (getMethod ov m pl)
      callWith pos f first (backTo pos (starEach (e :: es) X.env)) (backToKw pos (keywordEach [] X.env))) := by rfl) :
    PE X (.Call (.Attribute o m apos) (e :: es) [] pos) (tMCS C m sp (WE W) ta t) := by
  obtain ⟨f, fd, hm, b, F⟩ := G
  refine ⟨fun pins s σ H Q I h => ?_⟩
  have h : ta σ H fun x H1 => ∃ a dx fs, x = .ref a ∧ H1 a = some (.ins C dx fs) ∧ fs.lookup m = none ∧ t σ H1 fun vs H2 => sp (x :: vs) H2 Q (WE W σ) := h
  refine PySem.W.methodCall_KW (pl := pl) (thn (ho.run pins s σ H _ I h) fun u s1 ⟨x, H1, I1, rx, a, dx, fs, ex, ea, l, q⟩ => ?_) ht
  subst ex
  obtain rfl : u = Value.ref a := rx
  refine getmeth_ok I1 ea c hm l ?_
  refine PySem.W.callWith_K (first := [.ref a]) (h₀ := X.base) I.ok.mod.kin hm.kp (thn (ha.run pos pins s1 σ H1 _ I1 q) fun us s2 ⟨vs, H2, I2, r, q2⟩ => ⟨I2.kIn, ?_⟩) hst hpl
  exact run_fnS (us := .ref a :: us) (vs := .ref a :: vs) F hr b (L2N.passAt tk σ) I2 (.cons rfl r) q2
theorem pmethR0 (c : Cls X.K C) (G : HasM X.prog X.w X.K X.mg X.base (L2N.CX X.prog X.w) k C m ps sp) (hr : Room k X.A) (tk : L2N.Takes X W) (ho : PE X o ta)
    (ht : eval (.Call (.Attribute o m apos) [] [] pos) X.env = (do
      let ov ← eval o X.env
      standAt apos.atName
      let (f, first) ← holding [ov] (getMethod ov m pl)
      callWith pos f first (backTo pos (starEach [] X.env)) (backToKw pos (keywordEach [] X.env))) := by rfl) :
    PE X (.Call (.Attribute o m apos) [] [] pos) (tMCS C m sp (WE W) ta tNil) := by
  obtain ⟨f, fd, hm, b, F⟩ := G
  refine ⟨fun pins s σ H Q I h => ?_⟩
  have h : ta σ H fun x H1 => ∃ a dx fs, x = .ref a ∧ H1 a = some (.ins C dx fs) ∧ fs.lookup m = none ∧ sp [x] H1 Q (WE W σ) := h
  refine PySem.W.methodCall_KW (pl := pl) (thn (ho.run pins s σ H _ I h) fun u s1 ⟨x, H1, I1, rx, a, dx, fs, ex, ea, l, q⟩ => ?_) ht
  subst ex
  obtain rfl : u = Value.ref a := rx
  refine getmeth_ok I1 ea c hm l ?_
  exact PySem.W.callWith_K0 (first := [.ref a]) I1.kIn hm.kp (run_fnS (us := [.ref a]) (vs := [.ref a]) F hr b (L2N.passAt tk σ) I1 (.cons rfl .nil) q)
theorem run_makeS {pins : List (Addr × Obj)} {σ : L2.St} {H : Hp} {s : Shared} {Q : VK} {us : List Value} {vs : List V} {CX : CXT} {f : Addr} {fd : FuncData} {E : XK} (M : Mk X.K C f) (F : FnOk X.prog X.w X.K X.mg X.base CX k f fd ps sp) (hr : Room (k + 1) X.A) (hb : Binds X.K fd ps [])
    (hx : PassesAt CX X σ E) (I : Inv X pins σ H s) (r : Vals vs us)
    (h : ∀ x dx, H x = none → H dx = none → dx ≠ x → sp (.ref x :: vs) (upd (upd H dx (.own x)) x (.ins C dx [])) (fun v H2 => v = .non ∧ Q (.ref x) H2) E) :
    wpAny (model X.prog X.w) X.A (call (.ref C) us) (EP X pins σ Q) X.xe s := by
  have hq := h (s.heap.objs.size + 1) s.heap.objs.size (I.hok.fresh (Nat.le_succ _)) (I.hok.fresh (Nat.le_refl _)) (Nat.ne_of_lt (Nat.lt_succ_self _))
  have I2 := Inv.made (C := C) I
  have r2 : Vals (V.ref (s.heap.objs.size + 1) :: vs) (Value.ref (s.heap.objs.size + 1) :: us) := .cons rfl r
  have hl : (Value.ref (s.heap.objs.size + 1) :: us).length = ps.length := by
    have e := r2.length
    rw [F.len _ _ _ _ hq] at e
    exact e.symm
  have b := hb { s with heap := (s.heap.push PySem.W.emptyDict).push (PySem.W.instObj C s.heap.objs.size) } (Value.ref (s.heap.objs.size + 1) :: us) I2.kIn (by rw [List.append_nil]; exact hl)
  rw [List.append_nil] at b
  refine wpAny_call (make_map (f := f) I.kIn M.makes M.init (beq_iff_eq.mp M.fn) (codeAny_mono (F.run _ X.stack _ _ ⟨Value.ref (s.heap.objs.size + 1) :: us, []⟩ (Value.ref (s.heap.objs.size + 1) :: us) _ _ E (hr.make C us [])
    (I2.env0.make C us []) b r2 hq) fun r s' hq' => ?_))
  cases r with
  | error e => exact hx pins _ _ e s' I2 hq'
  | ok fl =>
    cases fl with
    | ret u =>
      obtain ⟨v, H', I3, rv, ev, q3⟩ := I2.after hq'
      subst ev
      exact ⟨rv, ⟨V.ref (s.heap.objs.size + 1), H', I3, rfl, q3⟩⟩
    | next => exact False.elim hq'
    | brk => exact False.elim hq'
    | cont => exact False.elim hq'
theorem pmakeR (hm : X.mg x = some (.ref C)) (G : HasI X.prog X.w X.K X.mg X.base (L2N.CX X.prog X.w) k C ps sp) (hr : Room (k + 1) X.A) (tk : L2N.Takes X W) (ha : PA X (e :: es) t) (hg : Gl X x := by rfl)
    (hdb : (x == ("__debug__" : Str)) = false := by decide) (he : starEach (e :: es) X.env = (false, eval e X.env) :: starEach es X.env := by rfl) (hpl : (backTo pos (starEach es X.env)).any (·.1) = false := by rfl) :
    PE X (.Call (.Name x p) (e :: es) [] pos) (tMkCS C sp (WE W) t) := by
  obtain ⟨f, fd, M, b, F⟩ := G
  refine ⟨fun pins s σ H Q I h => ?_⟩
  refine wpAny_Call_Name_kw (ld_glob I hg hm ?_ hdb)
  refine PySem.W.callWith_K (h₀ := X.base) I.ok.mod.kin M.kp (thn (ha.run pos pins s σ H _ I h) fun us s1 ⟨vs, H1, I1, r, q⟩ => ⟨I1.kIn, ?_⟩) he hpl
  exact run_makeS M F hr b (L2N.passAt tk σ) I1 r q
end
end Sd
namespace Sd
open PySem PySem.Spec PyProof.Rows L2
def topS (i : Nat) : Stmt := PySem.Challenge.pw_stairsum_k41_whole_walkers.main.body.getD i (.Pass ⟨0, 0, 0, 0⟩)
local macro_rules | `(tactic| walk_at "pos") => `(tactic| first | assumption | decide | omega | fail "no step")
local macro_rules | `(tactic| walk_at "sz") => `(tactic| first
  | assumption
  | (with_reducible refine Sz.lit ?_; decide)
  | with_reducible exact Sz.b2
  | (with_reducible refine Sz.mul (n := ?n) (m := ?m) ?a ?b; (case a => walk_at "sz"); (case b => walk_at "sz"))
  | (with_reducible refine Sz.add (n := ?n) (m := ?m) ?a ?b; (case a => walk_at "sz"); (case b => walk_at "sz"))
  | (with_reducible refine Sz.sub (n := ?n) (m := ?m) ?a ?b; (case a => walk_at "sz"); (case b => walk_at "sz"))
  | (with_reducible refine Sz.neg (n := ?n) ?a; (case a => walk_at "sz"))
  | (with_reducible refine Sz.abs (n := ?n) ?a; (case a => walk_at "sz"))
  | (with_reducible refine Sz.div (n := ?n) ?a ?b; (case a => walk_at "sz"); (case b => walk_at "pos"))
  | (with_reducible refine Sz.mod (n := ?n) ?a ?b; (case a => walk_at "sz"); (case b => walk_at "pos"))
  | fail "no step")
local macro_rules | `(tactic| walk_at "mulW") => `(tactic| first
  | exact mulR ⟨by decide, by decide⟩
  | exact mulL ⟨by decide, by decide⟩
  | (refine mulX (n := ?n) (m := ?m) ?a ?b ?h; (case a => walk_at "sz"); (case b => walk_at "sz"); (case h => decide))
  | fail "no step")
local macro_rules | `(tactic| walk_at "divW") => `(tactic| (refine divW (n := ?n) ?p ?a ?h; (case p => walk_at "pos"); (case a => walk_at "sz"); (case h => decide)))
/- H a = some _ at the heap at hand -/
local macro_rules | `(tactic| walk_at "at") => `(tactic| first
  | assumption
  | (with_reducible refine Kp.tup (H := ?H) (d := ?d) ?k ?D ?_; (case k => assumption); (case D => assumption); walk_at "at")
  | (with_reducible refine Ex.at (H := ?H) ?k ?_; (case k => assumption); walk_at "at")
  | fail "no step")
local macro_rules | `(tactic| walk_at "sqt") => `(tactic| first
  | assumption
  | exact SqT.of (by walk_at "at")
  | (with_reducible refine sqt_kp (H := ?H) (d := ?d) ?k ?D ?_; (case k => assumption); (case D => assumption); walk_at "sqt")
  | (with_reducible refine sqt_up (H := ?H) ?k ?_; (case k => assumption); walk_at "sqt")
  | fail "no step")
local macro_rules | `(tactic| walk_at "sql") => `(tactic| first
  | assumption
  | exact SqL.of (by walk_at "at")
  | (with_reducible refine sql_up (H := ?H) ?k ?_; (case k => assumption); walk_at "sql")
  | fail "no step")
local macro_rules | `(tactic| walk_at "dec_f") => `(tactic| first
  | with_reducible rfl | with_reducible assumption
  | (with_reducible refine not_f ?_; walk_at "dec_t")
  | (with_reducible refine decide_eq_false ?_; first | with_reducible assumption | omega | (simp only [List.length_cons, List.length_nil]; omega))
  | fail "no step")
local macro_rules | `(tactic| walk_at "dec_t") => `(tactic| first
  | with_reducible rfl | with_reducible assumption
  | (with_reducible refine not_t ?_; walk_at "dec_f")
  | (with_reducible refine decide_eq_true ?_; first | with_reducible assumption | with_reducible rfl | omega | (simp only [List.length_cons, List.length_nil]; omega))
  | fail "no step")
local macro_rules | `(tactic| walk_at "sets") => `(tactic| first
  | with_reducible exact set_z
  | ((with_reducible refine set_s (l' := ?l) ?a); (case a => walk_at "sets"))
  | ((with_reducible refine set_in (e' := ?e) ?a ?b); (case a => walk_at "sets"); (case b => walk_at "sets"))
  | fail "no step")
local macro_rules | `(tactic| walk_at "lk") => `(tactic| fail "no step")
local macro_rules | `(tactic| walk_at "go1") => `(tactic| first
  | ((with_reducible refine r_nxS (l' := ?l) ?h ?_); (case h => walk_at "sets"))
  | with_reducible refine r_seq ?_
  | with_reducible refine r_asg ?_
  | ((with_reducible refine r_var (v := ?v) ?h ?_); (case h => exact rfl))
  | with_reducible refine r_c ?_
  | with_reducible refine r_nx ?_
  | with_reducible refine r_rt ?_
  | with_reducible refine r_op ?_
  | with_reducible refine r_cons ?_
  | with_reducible refine r_nil ?_
  | with_reducible refine r_cal ?_
  | with_reducible refine r_I0 ?_
  | ((with_reducible refine r_mul ?c ?_); (case c => walk_at "mulW"))
  | ((with_reducible refine r_div ?c ?_); (case c => walk_at "divW"))
  | ((with_reducible refine r_mod ?c ?_); (case c => walk_at "pos"))
  | with_reducible refine r_p6 ?_
  | with_reducible refine r_p18 ?_
  | with_reducible refine r_p29 ?_
  | with_reducible refine r_p30 ?_
  | with_reducible refine r_p60 ?_
  | with_reducible refine r_p15 ?_
  | with_reducible refine r_p24 ?_
  | ((with_reducible refine r_pow ?c ?_); (case c => exact ⟨by decide, by decide, by decide⟩))
  | with_reducible refine r_ifS ?_
  | with_reducible refine r_test ?_
  | with_reducible refine r_tB ?_
  | with_reducible refine r_bl ?_
  | with_reducible refine r_eqI ?_
  | with_reducible refine r_neI ?_
  | with_reducible refine r_not ?_
  | with_reducible refine r_and ?_
  | with_reducible refine r_or ?_
  | with_reducible refine r_notV ?_
  | with_reducible refine r_andV ?_
  | with_reducible refine r_orV ?_
  | with_reducible refine r_blV ?_
  | with_reducible refine r_chain ?_
  | with_reducible refine r_ret ?_
  | with_reducible refine r_retN ?_
  | with_reducible refine r_drop ?_
  | with_reducible refine r_next ?_
  | with_reducible refine r_un ?_
  | with_reducible refine r_U ?_
  | with_reducible refine r_tup ?_
  | with_reducible refine r_lst ?_
  | ((with_reducible refine r_newT ?l ?_); (case l => exact Nat.le_of_ble_eq_true rfl); intro _ _ _ _ _)
  | ((with_reducible refine r_newL ?l ?_); (case l => exact Nat.le_of_ble_eq_true rfl); intro _ _ _ _ _)
  | ((with_reducible refine r_ixT (xs := ?x) (v := ?v) ?h ?a ?_); (case h => walk_at "sqt"); (case a => exact rfl))
  | ((with_reducible refine r_ixL (xs := ?x) (v := ?v) ?h ?a ?_); (case h => walk_at "sql"); (case a => exact rfl))
  | with_reducible refine r_asgG ?_
  | ((with_reducible refine r_gTup (xs := ?x) ?h ?l ?_); (case h => walk_at "sqt"); (case l => exact rfl))
  | with_reducible refine r_gCons ?_
  | with_reducible refine r_gNil ?_
  | with_reducible refine r_gName ?_
  | with_reducible refine r_gSub ?_
  | with_reducible refine r_par ?_
  | with_reducible refine r_parE ?_
  | with_reducible refine r_par3 ?_
  | with_reducible refine r_parE3 ?_
  | ((with_reducible refine r_aug (i := ?i) ?h ?_); (case h => exact rfl))
  | with_reducible refine r_ipI ?_
  | with_reducible refine r_if ?_
  | with_reducible refine r_chain3 ?_
  | ((with_reducible refine r_gLst (xs := ?x) ?h ?l ?_); (case h => walk_at "sql"); (case l => exact rfl))
  | with_reducible refine r_CB ?_
  | with_reducible refine r_isII ?_
  | with_reducible refine r_isIB ?_
  | ((with_reducible refine r_isTT (xs := ?x) ?h ?_); (case h => walk_at "at"))
  | with_reducible refine r_tyS ?_
  | with_reducible refine r_isSS ?_
  | with_reducible refine r_iZip ?_
  | with_reducible refine r_iZipA ?_
  | ((with_reducible refine r_isLL (xs := ?x) ?h ?_); (case h => walk_at "at"))
  | ((with_reducible refine r_lenL (ys := ?x) ?h ?_); (case h => walk_at "sql"))
  | ((with_reducible refine r_lenT (ys := ?x) ?h ?_); (case h => walk_at "sqt"))
  | with_reducible refine r_abs ?_
  | with_reducible refine r_max2 ?_
  | with_reducible refine r_min2 ?_
  | with_reducible refine r_min3 ?_
  | with_reducible refine r_intI ?_
  | with_reducible refine r_intB ?_
  | with_reducible refine r_isBB ?_
  | with_reducible refine r_for ?_
  | ((with_reducible refine r_eqT3 (a := ?a) (b := ?b) (c := ?c) (a' := ?a') (b' := ?b') (c' := ?c') ?h ?h' ?_); (case h => walk_at "sqt"); (case h' => walk_at "sqt"))
  | ((with_reducible refine r_neT3 (a := ?a) (b := ?b) (c := ?c) (a' := ?a') (b' := ?b') (c' := ?c') ?h ?h' ?_); (case h => walk_at "sqt"); (case h' => walk_at "sqt"))
  | with_reducible refine r_notB ?_
  | with_reducible refine r_isB ?_
  | with_reducible refine r_bm ?_
  | ((with_reducible refine r_tyL (xs := ?x) ?h ?_); (case h => walk_at "sql"))
  | with_reducible refine r_sl ?_
  | with_reducible refine r_noP ?_
  | with_reducible refine r_part ?_
  | with_reducible refine r_partI ?_
  | ((with_reducible refine r_sl4 (a := ?a) (b := ?b) (c := ?c) (d := ?d) (e := ?e) ?h ?_); (case h => walk_at "sqt"); intro _ _ _ _ _)
  | ((with_reducible refine r_cat13 (x := ?x) (a := ?a) (b := ?b) (c := ?c) ?h ?h2 ?_); (case h => walk_at "sqt"); (case h2 => walk_at "sqt"); intro _ _ _ _ _)
  | ((with_reducible refine r_cat41 (x := ?x) (a := ?a) (b := ?b) (c := ?c) (y := ?y) ?h ?h2 ?_); (case h => walk_at "sqt"); (case h2 => walk_at "sqt"); intro _ _ _ _ _)
  | ((with_reducible refine r_neT4 (a := ?a) (b := ?b) (c := ?c) (d := ?d) (a' := ?a') (b' := ?b') (c' := ?c') (d' := ?d') ?h ?h' ?_); (case h => walk_at "sqt"); (case h' => walk_at "sqt"))
  | ((with_reducible refine r_listL (ys := ?y) ?h ?_); (case h => walk_at "sql"); intro _ _ _ _ _)
  | with_reducible refine r_rev ?_
  | with_reducible refine r_isNnI ?_
  | with_reducible refine r_isNnR ?_
  | with_reducible refine r_isNnN ?_
  | with_reducible refine r_notNnI ?_
  | with_reducible refine r_notNnR ?_
  | with_reducible refine r_notNnN ?_
  | with_reducible refine r_iRng1 ?_
  | with_reducible refine r_iRng2 ?_
  | with_reducible refine r_iList ?_
  | with_reducible refine r_iTup ?_
  | with_reducible refine r_lc ?_
  | ((with_reducible refine r_ItL (xs := ?x) ?h ?_); (case h => walk_at "sql"))
  | ((with_reducible refine r_ItT (xs := ?x) ?h ?_); (case h => walk_at "sqt"))
  | with_reducible refine r_fldE ?_
  | ((with_reducible refine r_fld (C := ?C) (dx := ?dx) (fs := ?fs) (v := ?v) ?h ?c ?n ?l ?_); (case h => walk_at "at"); (case c => assumption); (case n => assumption); (case l => walk_at "lk"))
  | with_reducible refine r_fldS ?_
  | with_reducible refine r_fldAug ?_
  | ((with_reducible refine r_fldA (C := ?C) (dx := ?dx) (fs := ?fs) (v := ?v) ?h ?c ?n ?l ?_); (case h => walk_at "at"); (case c => assumption); (case n => assumption); (case l => walk_at "lk"))
  | with_reducible refine r_rAdd ?_
  | with_reducible refine r_rSub ?_
  | with_reducible refine r_meth ?_
  | ((with_reducible refine r_mobj (dx := ?dx) (fs := ?fs) ?h ?l ?_); (case h => walk_at "at"); (case l => walk_at "lk"))
  | with_reducible refine r_make ?_
  | with_reducible refine r_bm0 ?_
  | ((with_reducible refine if_T ?h ?_); (case h => walk_at "dec_t"))
  | ((with_reducible refine if_F ?h ?_); (case h => walk_at "dec_f"))
  | fail "no step")
local macro_rules | `(tactic| walk_at "go") => `(tactic| repeat walk_at "go1")
local macro_rules | `(tactic| walk_at "szm") => `(tactic| (refine Sz.mono (n := ?n) ?a ?h; (case a => walk_at "sz"); (case h => decide)))
local macro_rules | `(tactic| walk_at "go1") => `(tactic| first
  | ((with_reducible refine r_isE (b := ?b) ?h ?_); (case h => assumption))
  | ((with_reducible refine r_isEV (S := ?S) ?h ?_); (case h => assumption))
  | with_reducible refine r_iZipH ?_
  | ((with_reducible refine r_zipE (xs := ?x) (ys := ?y) ?h ?h2 ?_); (case h => walk_at "sql"); (case h2 => walk_at "sql"))
  | ((with_reducible refine r_catL (xs := ?x) (ys := ?y) ?h ?h2 ?n ?_); (case h => walk_at "at"); (case h2 => walk_at "at"); (case n => exact Nat.le_of_ble_eq_true rfl); intro _ _ _ _ _)
  | with_reducible refine r_neSS ?_
  | with_reducible refine r_eqSS ?_
  | ((with_reducible refine r_neSD ?h ?_); (case h => decide +kernel))
  | ((with_reducible refine r_eqSD ?h ?_); (case h => decide +kernel))
  | with_reducible refine r_raise ?_
  | with_reducible refine r_try ?_
  | with_reducible refine r_kind ?_
  | with_reducible refine r_calS ?_
  | with_reducible refine r_methS ?_
  | with_reducible refine r_makeS ?_
  | fail "no step")
def sp_law_draws (K : PySem.W.Frag) : Sp := fun vs H Q _ => ∃ (a : Addr) (ns : List Int) (k : Int), vs = [.ref a, .int k] ∧ SqL K H a (ns.map V.int) ∧ 0 ≤ k ∧ k ≤ 1000 ∧ ∀ d H', H d = none → Ex H H' → Dr H' d → Q (.ref d) H'
theorem use_law_draws {K : PySem.W.Frag} {H : Hp} {Q : VK} {E : XK} {a : Addr} {ns : List Int} {k : Int} (h : SqL K H a (ns.map V.int)) (h0 : 0 ≤ k) (h1 : k ≤ 1000) (q : ∀ d H', H d = none → Ex H H' → Dr H' d → Q (.ref d) H') : sp_law_draws K [.ref a, .int k] H Q E := ⟨a, ns, k, rfl, h, h0, h1, q⟩
abbrev s_law_draws : Stmt := topS 46
abbrev nm_law_draws : List Str := ["script", "k", "cell"]
theorem sc_law_draws : FnScope nm_law_draws ["script", "k"] (defScope s_law_draws) := ⟨rfl, rfl, rfl, by decide +kernel, rfl, by decide +kernel, by decide +kernel⟩
theorem st_law_draws {v0 v1 : V} : start nm_law_draws [v0, v1] = [some v0, some v1, none] := rfl
section
variable {P : Program} {w : World} {K : PySem.W.Frag} {mg : Str → Option Value} {base : Heap} {c : Cl}
theorem ok_law_draws (D : DefAt K mg "_law_draws" s_law_draws ["script", "k"]) (B_len : mg "len" = none) (B_int : mg "int" = none) : Has P w K mg base CX0 2 "_law_draws" ["script", "k"] (sp_law_draws K) := by
  refine D.ok sc_law_draws (by rintro _ _ _ _ ⟨_, _, _, rfl, _⟩; rfl) (fun f cdv A outer s H vs Q E hr h => ?_)
  obtain ⟨a, ns, k, rfl, hS, h0, h1, q⟩ := h
  have zk : Sz 200 k := Sz.small (by omega)
  refine ⟨_, (pss_cons (ps_set (i := 2) sc_law_draws.nd rfl (Or.inl rfl) (pe_op op_mulX pe_int (pv 1)))
      (pcut (ps_if (pt_cmpR op_lt (pv 1) (pe_callB cl_len (by rfl) B_len (by decide +kernel) (pa_cons (pv 0) pa_nil)) (nomark _)) (pss_one (ps_set (i := 2) sc_law_draws.nd rfl (Or.inl rfl) (pe_op op_mod (pe_ix ix_list (pv 0) (pv 1) (fun _ _ => rfl)) (pe_op op_mulX (pe_op op_pow pe_int pe_int) (pe_op op_pow pe_int pe_int))))) (pss_one (ps_if (pt_cmpR op_gt (pe_callB cl_len (by rfl) B_len (by decide +kernel) (pa_cons (pv 0) pa_nil)) pe_int (nomark _)) (pss_one (ps_set (i := 2) sc_law_draws.nd rfl (Or.inl rfl) (pe_op op_add (pe_op op_mod (pe_ix ix_list (pv 0) (pe_op op_mod (pv 1) (pe_callB cl_len (by rfl) B_len (by decide +kernel) (pa_cons (pv 0) pa_nil))) (fun _ _ => rfl)) (pe_op op_pow pe_int pe_int)) (pe_op op_mulX pe_int (pv 1))))) pss_nil)))
      (pss_one (ps_ret (pe_lst (pa_cons (pe_op op_mulX (pv 2) (pe_callTy cl_int1 (by rfl) B_int (by decide +kernel) (pa_cons (pe_cmpR op_ge (pv 2) (pe_op op_pow pe_int pe_int) (nomark _)) pa_nil))) (pa_cons (pe_op op_add pe_int (pe_op op_mod (pe_op op_add (pe_op op_mulX (pv 2) pe_int) (pe_op op_mulX pe_int (pe_op op_add (pv 1) pe_int))) pe_int)) pa_nil))))))), ?_⟩
  rw [st_law_draws]
  try dsimp only [Cx.nox, Cx.wish, Cx.blk, cx_K, cxH_K]
  walk_at "go"
  refine r_cut (fun σ H' => H' = H ∧ ∃ c : Int, σ = [some (.ref a), some (.int k), some (.int c)] ∧ Sz 500 c) ?_ ?_
  · walk_at "go"
    refine if_2 (fun hx => ?_) (fun hx => ?_)
    · have hx := of_decide_eq_true hx
      rw [List.length_map] at hx
      obtain ⟨z, hz, _⟩ := at_ints h0 hx
      walk_at "go"
      refine r_ixL hS hz ?_
      walk_at "go"
      exact ⟨rfl, _, rfl, by walk_at "szm"⟩
    · have hx := of_decide_eq_false hx
      rw [List.length_map] at hx
      walk_at "go"
      refine if_2 (fun hy => ?_) (fun hy => ?_)
      · have hy := of_decide_eq_true hy
        obtain ⟨z, hz, _⟩ := at_ints (ns := ns) (i := k % ((ns.map V.int).length : Nat)) (Int.emod_nonneg _ (by omega)) (by
          have := Int.emod_lt_of_pos k hy
          rw [List.length_map] at this ⊢
          exact this)
        walk_at "go"
        refine r_ixL hS hz ?_
        walk_at "go"
        refine ⟨rfl, _, rfl, (Sz.small ?_).mono (by decide)⟩
        omega
      · walk_at "go"
        refine ⟨rfl, _, rfl, (Sz.small ?_).mono (by decide)⟩
        omega
  rintro σ H' ⟨rfl, c, rfl, zc⟩
  walk_at "go"
  rename_i d H1 nd e1 hd
  exact q _ _ nd e1 ⟨_, _, hd, by omega, by omega⟩

end
/-- a digit below n is drawn -/
def sp_law_draw (_ : PySem.W.Frag) : Sp := fun vs H Q _ => ∃ (d : Addr) (n : Int), vs = [.ref d, .int n] ∧ Dr H d ∧ 0 < n ∧ Sz 4000 n ∧ ∀ v H', 0 ≤ v → v < n → Kp d H H' → Dr H' d → Q (.int v) H'
theorem use_law_draw {K : PySem.W.Frag} {H : Hp} {Q : VK} {E : XK} {d : Addr} {n : Int} (D : Dr H d) (p : 0 < n) (z : Sz 4000 n) (k : ∀ v H', 0 ≤ v → v < n → Kp d H H' → Dr H' d → Q (.int v) H') : sp_law_draw K [.ref d, .int n] H Q E := ⟨d, n, rfl, D, p, z, k⟩
abbrev s_law_draw : Stmt := topS 44
abbrev nm_law_draw : List Str := ["draws", "many", "found"]
theorem sc_law_draw : FnScope nm_law_draw ["draws", "many"] (defScope s_law_draw) := ⟨rfl, rfl, rfl, by decide +kernel, rfl, by decide +kernel, by decide +kernel⟩
theorem st_law_draw {v0 v1 : V} : start nm_law_draw [v0, v1] = [some v0, some v1, none] := rfl
section
variable {P : Program} {w : World} {K : PySem.W.Frag} {mg : Str → Option Value} {base : Heap} {c : Cl}
theorem ok_law_draw (D : DefAt K mg "_law_draw" s_law_draw ["draws", "many"]) : Has P w K mg base CX0 2 "_law_draw" ["draws", "many"] (sp_law_draw K) := by
  refine D.ok sc_law_draw (by rintro _ _ _ _ ⟨_, _, rfl, _⟩; rfl) (fun f cdv A outer s H vs Q E hr h => ?_)
  obtain ⟨d, n, rfl, ⟨x, y, hd, y0, y1⟩, hn, zn, k⟩ := h
  have zy : Sz 200 y := by
    show y.natAbs < 2 ^ 200
    omega
  refine ⟨_, (pss_cons (ps_if (pt_cmpR op_gt (pe_ix ix_list (pv 0) pe_int (fun _ _ => rfl)) pe_int (nomark _)) (pss_cons (ps_set (i := 2) sc_law_draw.nd rfl (Or.inl rfl) (pe_op op_mod (pe_ix ix_list (pv 0) pe_int (fun _ _ => rfl)) (pv 1)))
        (pss_cons (ps_asg (pe_op op_fdivW (pe_ix ix_list (pv 0) pe_int (fun _ _ => rfl)) (pv 1)) (pg_sub (pv 0) pe_int set_list))
        (pss_one (ps_ret (pv 2))))) pss_nil)
      (pss_cons (ps_asg (pe_op op_mod (pe_op op_mulX (pe_ix ix_list (pv 0) pe_int (fun _ _ => rfl)) pe_int) pe_int) (pg_sub (pv 0) pe_int set_list))
      (pss_one (ps_ret (pe_op op_mod (pe_op op_fdivW (pe_op op_mod (pe_op op_mulX (pe_ix ix_list (pv 0) pe_int (fun _ _ => rfl)) (pe_op op_add (pe_op op_fdivW (pe_ix ix_list (pv 0) pe_int (fun _ _ => rfl)) pe_int) pe_int)) pe_int) pe_int) (pv 1)))))), ?_⟩
  rw [st_law_draw]
  try dsimp only [Cx.nox, Cx.wish, Cx.blk, cx_K, cxH_K]
  walk_at "go"
  refine if_2 (fun hx => ?_) (fun hx => ?_)
  · walk_at "go"
    refine r_setL (k0 := 0) hd (by rfl) ?_
    walk_at "go"
    exact k _ _ (Int.emod_nonneg _ (by omega)) (Int.emod_lt_of_pos _ hn) Kp.upd ⟨_, _, upd_same, y0, y1⟩
  · walk_at "go"
    refine r_setL (k0 := 1) hd (by rfl) ?_
    have hd2 : (upd H d (.lst [.int x, .int (y * 69621 % 2147483647)])) d = some (.lst [.int x, .int (y * 69621 % 2147483647)]) := upd_same
    walk_at "go"
    exact k _ _ (Int.emod_nonneg _ (by omega)) (Int.emod_lt_of_pos _ hn) Kp.upd ⟨_, _, upd_same, Int.emod_nonneg _ (by decide), Int.emod_lt_of_pos _ (by decide)⟩

end
/-- a small drawn stair -/
structure StS (a b m : Int) : Prop where
  m0 : 0 < m
  m1 : m ≤ 60
  a0 : -2 * m ≤ a
  a1 : a ≤ 3 * m + 2
  b0 : -100 ≤ b
  b1 : b ≤ 100
theorem StS.zm {a b m : Int} (S : StS a b m) : Sz 200 m := Sz.small (by have := S.m0; have := S.m1; omega)
theorem StS.za {a b m : Int} (S : StS a b m) : Sz 200 a := Sz.small (by have := S.m0; have := S.m1; have := S.a0; have := S.a1; omega)
theorem StS.zb {a b m : Int} (S : StS a b m) : Sz 200 b := Sz.small (by have := S.b0; have := S.b1; omega)
theorem StS.toB {a b m : Int} (S : StS a b m) : StB a b m := ⟨S.m0, by have := S.m1; omega, S.za.mono (by decide), S.zb.mono (by decide)⟩
def sp_law_small_stair (_ : PySem.W.Frag) : Sp := fun vs H Q _ => ∃ (d : Addr), vs = [.ref d] ∧ Dr H d ∧ ∀ p a b m H', StS a b m → H p = none → Kp d H H' → Dr H' d → H' p = some (.tup [.int a, .int b, .int m]) → Q (.ref p) H'
theorem use_law_small_stair {K : PySem.W.Frag} {H : Hp} {Q : VK} {E : XK} {d : Addr} (D : Dr H d) (k : ∀ p a b m H', StS a b m → H p = none → Kp d H H' → Dr H' d → H' p = some (.tup [.int a, .int b, .int m]) → Q (.ref p) H') : sp_law_small_stair K [.ref d] H Q E := ⟨d, rfl, D, k⟩
abbrev s_law_small_stair : Stmt := topS 47
abbrev nm_law_small_stair : List Str := ["draws", "m"]
theorem sc_law_small_stair : FnScope nm_law_small_stair ["draws"] (defScope s_law_small_stair) := ⟨rfl, rfl, rfl, by decide +kernel, rfl, by decide +kernel, by decide +kernel⟩
theorem st_law_small_stair {v0 : V} : start nm_law_small_stair [v0] = [some v0, none] := rfl
section
variable {P : Program} {w : World} {K : PySem.W.Frag} {mg : Str → Option Value} {base : Heap} {c : Cl}
theorem ok_law_small_stair (D : DefAt K mg "_law_small_stair" s_law_small_stair ["draws"]) (G__law_draw : Has P w K mg base CX0 2 "_law_draw" ["draws", "many"] (sp_law_draw K)) : Has P w K mg base CX0 3 "_law_small_stair" ["draws"] (sp_law_small_stair K) := by
  refine D.ok sc_law_small_stair (by rintro _ _ _ _ ⟨_, rfl, _⟩; rfl) (fun f cdv A outer s H vs Q E hr h => ?_)
  obtain ⟨d, rfl, D0, k⟩ := h
  refine ⟨_, (pss_cons (ps_set (i := 1) sc_law_small_stair.nd rfl (Or.inl rfl) (pe_op op_add pe_int (pcall G__law_draw (hr.mono (by decide)) (pa_cons (pv 0) (pa_cons (pe_ix ix_list (pe_lst (pa_cons pe_int (pa_cons pe_int pa_nil))) (pcall G__law_draw (hr.mono (by decide)) (pa_cons (pv 0) (pa_cons pe_int pa_nil))) (fun _ _ => rfl)) pa_nil)))))
      (pss_one (ps_ret (pe_tup (pa_cons (pe_op op_sub (pcall G__law_draw (hr.mono (by decide)) (pa_cons (pv 0) (pa_cons (pe_op op_add (pe_op op_mulX pe_int (pv 1)) pe_int) pa_nil))) (pe_op op_mulX pe_int (pv 1))) (pa_cons (pe_op op_sub (pcall G__law_draw (hr.mono (by decide)) (pa_cons (pv 0) (pa_cons pe_int pa_nil))) pe_int) (pa_cons (pv 1) pa_nil))))))), ?_⟩
  rw [st_law_small_stair]
  try dsimp only [Cx.nox, Cx.wish, Cx.blk, cx_K, cxH_K]
  walk_at "go"
  rename_i l H1 nl e1 hl
  refine use_law_draw (D0.up e1) (by decide) (by walk_at "szm") fun v1 H2 a1 b1 k2 D2 => ?_
  walk_at "go"
  obtain ⟨v, hv, hv'⟩ := at_2 (x := .int 9) (y := .int 60) a1 b1
  refine r_ixL (SqL.of (k2 _ _ (D0.free nl) hl)) hv ?_
  obtain ⟨u, rfl, u0, u1⟩ : ∃ u : Int, v = .int u ∧ 0 < u ∧ u ≤ 60 := by
    rcases hv' with rfl | rfl
    · exact ⟨_, rfl, by decide, by decide⟩
    · exact ⟨_, rfl, by decide, by decide⟩
  walk_at "go"
  refine use_law_draw D2 u0 (Sz.mono (n := 200) (Sz.small (by omega)) (by decide)) fun v3 H3 a3 b3 k3 D3 => ?_
  have zm : Sz 200 v3 := Sz.small (by omega)
  walk_at "go"
  refine use_law_draw D3 (by omega) (by walk_at "szm") fun v4 H4 a4 b4 k4 D4 => ?_
  walk_at "go"
  refine use_law_draw D4 (by decide) (by walk_at "szm") fun v5 H5 a5 b5 k5 D5 => ?_
  walk_at "go"
  rename_i p H6 np e6 hp
  have kk : Kp d H H5 := e1.kp.trans (k2.trans (k3.trans (k4.trans k5)))
  exact k _ _ _ _ _ ⟨by omega, by omega, by omega, by omega, by omega, by omega⟩ (free_kp kk D5 np) (kk.trans e6.kp) (D5.up e6) hp

end
def sp_is_whole (_ : PySem.W.Frag) : Sp := fun vs H Q _ => ∃ i : Int, vs = [.int i] ∧ Q (.bl true) H
theorem use_is_whole {K : PySem.W.Frag} {H : Hp} {Q : VK} {E : XK} {i : Int} (k : Q (.bl true) H) : sp_is_whole K [.int i] H Q E := ⟨i, rfl, k⟩
abbrev s_is_whole : Stmt := topS 19
abbrev nm_is_whole : List Str := ["thing"]
theorem sc_is_whole : FnScope nm_is_whole ["thing"] (defScope s_is_whole) := ⟨rfl, rfl, rfl, by decide +kernel, rfl, by decide +kernel, by decide +kernel⟩
theorem st_is_whole {v0 : V} : start nm_is_whole [v0] = [some v0] := rfl
section
variable {P : Program} {w : World} {K : PySem.W.Frag} {mg : Str → Option Value} {base : Heap} {c : Cl}
theorem ok_is_whole (D : DefAt K mg "is_whole" s_is_whole ["thing"]) (B_isinstance : mg "isinstance" = none) (B_int : mg "int" = none) (B_bool : mg "bool" = none) : Has P w K mg base CX0 2 "is_whole" ["thing"] (sp_is_whole K) := by
  refine D.ok sc_is_whole (by rintro _ _ _ _ ⟨_, rfl, _⟩; rfl) (fun f cdv A outer s H vs Q E hr h => ?_)
  obtain ⟨i, rfl, k⟩ := h
  refine ⟨_, (pss_one (ps_ret (pe_and (pe_callB call_isi (by rfl) B_isinstance (by decide +kernel) (pa_cons (pv 0) (pa_cons (pe_bltn (v := .ty "int") (by rfl) B_int (by decide +kernel) rfl) pa_nil))) (pe_one (pe_not (pe_callB call_isi (by rfl) B_isinstance (by decide +kernel) (pa_cons (pv 0) (pa_cons (pe_bltn (v := .ty "bool") (by rfl) B_bool (by decide +kernel) rfl) pa_nil)))))))), ?_⟩
  rw [st_is_whole]
  try dsimp only [Cx.nox, Cx.wish, Cx.blk, cx_K, cxH_K]
  walk_at "go"
  exact k

end
/-- at p stands the stair (a, b, m) -/
def StAt (H : Hp) (p : Addr) (a b m : Int) : Prop := H p = some (.tup [.int a, .int b, .int m])
def sp_is_stair (_ : PySem.W.Frag) : Sp := fun vs H Q _ => ∃ (p : Addr) (a b m : Int), vs = [.ref p] ∧ H p = some (.tup [.int a, .int b, .int m]) ∧ 0 < m ∧ ∀ H', Ex H H' → Q (.bl true) H'
theorem use_is_stair {K : PySem.W.Frag} {H : Hp} {Q : VK} {E : XK} {p : Addr} {a b m : Int} (h : H p = some (.tup [.int a, .int b, .int m])) (hm : 0 < m) (k : ∀ H', Ex H H' → Q (.bl true) H') : sp_is_stair K [.ref p] H Q E := ⟨p, a, b, m, rfl, h, hm, k⟩
abbrev s_is_stair : Stmt := topS 20
abbrev nm_is_stair : List Str := ["thing", "number"]
theorem sc_is_stair : FnScope nm_is_stair ["thing"] (defScope s_is_stair) := ⟨rfl, rfl, rfl, by decide +kernel, rfl, by decide +kernel, by decide +kernel⟩
theorem st_is_stair {v0 : V} : start nm_is_stair [v0] = [some v0, none] := rfl
section
variable {P : Program} {w : World} {K : PySem.W.Frag} {mg : Str → Option Value} {base : Heap} {c : Cl}
theorem ok_is_stair (D : DefAt K mg "is_stair" s_is_stair ["thing"]) (B_len : mg "len" = none) (B_isinstance : mg "isinstance" = none) (B_tuple : mg "tuple" = none) (B_all : mg "all" = none) (G_is_whole : Has P w K mg base CX0 2 "is_whole" ["thing"] (sp_is_whole K)) : Has P w K mg base CX0 3 "is_stair" ["thing"] (sp_is_stair K) := by
  refine D.ok sc_is_stair (by rintro _ _ _ _ ⟨_, _, _, _, rfl, _⟩; rfl) (fun f cdv A outer s H vs Q E hr h => ?_)
  obtain ⟨p, a, b, m, rfl, hp, hm, k⟩ := h
  refine ⟨_, (pss_cons (ps_if (PW.pt (pw_or (pt_not (pt_val (pe_callB call_isi (by rfl) B_isinstance (by decide +kernel) (pa_cons (pv 0) (pa_cons (pe_bltn (v := .ty "tuple") (by rfl) B_tuple (by decide +kernel) rfl) pa_nil))))) (pw_or1 (pt_cmpR op_ne (pe_callB cl_len (by rfl) B_len (by decide +kernel) (pa_cons (pv 0) pa_nil)) pe_int (nomark _))))) (pss_one (ps_ret pe_bl)) pss_nil)
      (pss_one (ps_ret (pe_and (pe_callB (cr_all rfl) (by rfl) B_all (by decide +kernel) (pa_cons (pe_lc rfl sc_is_stair.nd (pi_tup (pv 0)) (blkOk_by (own := [("number", 1)]) (N := nm_is_stair) (sc := defScope s_is_stair) (by decide +kernel)) (fun _ _ _ _ _ => (pg_name (i := 1) sc_is_stair.nd rfl (Or.inl rfl))) (fun _ _ _ _ _ => pts_nil) (fun _ _ _ _ _ => (pcall G_is_whole (hr.mono (by decide)) (pa_cons (pv 1) pa_nil)))) pa_nil)) (pe_one (pe_cmpR op_ge (pe_ix ix_tup (pv 0) pe_int (fun _ _ => rfl)) pe_int (nomark _))))))), ?_⟩
  rw [st_is_stair]
  try dsimp only [Cx.nox, Cx.wish, Cx.blk, cx_K, cxH_K]
  walk_at "go"
  refine lc_tupP (fun _ => .bl true) (SqT.of hp) (show 3 ≤ 100000 by decide) (fun _ => rfl) (fun i x hx H1 e1 QE kE => ?_) (fun l H1 nl e1 hl => ?_)
  · obtain ⟨z, rfl⟩ : ∃ z, x = V.int z := by
      match i, hx with
      | 0, hx => exact ⟨_, (Option.some.inj hx).symm⟩
      | 1, hx => exact ⟨_, (Option.some.inj hx).symm⟩
      | 2, hx => exact ⟨_, (Option.some.inj hx).symm⟩
      | _ + 3, hx => simp at hx
    walk_at "go"
    exact use_is_whole (kE _ Ex.refl)
  · walk_at "go"
    refine r_all (bs := [true, true, true]) (SqL.of hl) ?_
    walk_at "go"
    refine if_T rfl ?_
    walk_at "go"
    have q : decide (1 ≤ m) = true := decide_eq_true (by omega)
    rw [q]
    exact k _ e1

end
def sp_need_stair (_ : PySem.W.Frag) : Sp := fun vs H Q _ => ∃ (p : Addr) (a b m : Int), vs = [.ref p] ∧ H p = some (.tup [.int a, .int b, .int m]) ∧ 0 < m ∧ ∀ H', Ex H H' → Q .non H'
theorem use_need_stair {K : PySem.W.Frag} {H : Hp} {Q : VK} {E : XK} {p : Addr} {a b m : Int} (h : H p = some (.tup [.int a, .int b, .int m])) (hm : 0 < m) (k : ∀ H', Ex H H' → Q .non H') : sp_need_stair K [.ref p] H Q E := ⟨p, a, b, m, rfl, h, hm, k⟩
abbrev s_need_stair : Stmt := topS 21
abbrev nm_need_stair : List Str := ["thing"]
theorem sc_need_stair : FnScope nm_need_stair ["thing"] (defScope s_need_stair) := ⟨rfl, rfl, rfl, by decide +kernel, rfl, by decide +kernel, by decide +kernel⟩
theorem st_need_stair {v0 : V} : start nm_need_stair [v0] = [some v0] := rfl
section
variable {P : Program} {w : World} {K : PySem.W.Frag} {mg : Str → Option Value} {base : Heap} {c : Cl}
theorem ok_need_stair (D : DefAt K mg "need_stair" s_need_stair ["thing"]) (G_is_stair : Has P w K mg base CX0 3 "is_stair" ["thing"] (sp_is_stair K)) : Has P w K mg base CX0 4 "need_stair" ["thing"] (sp_need_stair K) := by
  refine D.ok sc_need_stair (by rintro _ _ _ _ ⟨_, _, _, _, rfl, _⟩; rfl) (fun f cdv A outer s H vs Q E hr h => ?_)
  obtain ⟨p, a, b, m, rfl, hp, hm, k⟩ := h
  refine ⟨_, (pss_one (ps_if (pt_not (pt_val (pcall G_is_stair (hr.mono (by decide)) (pa_cons (pv 0) pa_nil)))) (pss_one ps_never) pss_nil)), ?_⟩
  rw [st_need_stair]
  try dsimp only [Cx.nox, Cx.wish, Cx.blk, cx_K, cxH_K]
  walk_at "go"
  refine use_is_stair hp hm fun H1 e1 => ?_
  walk_at "go"
  exact k _ e1

end
/-! the attributes of a Walker -/
def fs_Walker (v0 v1 v2 : V) : List (Str × V) := [("stair", v0), ("at", v1), ("former", v2)]
theorem ln_Walker {v0 v1 v2 : V} : (fs_Walker v0 v1 v2).length < 1000 := by
  show 3 < 1000
  decide
theorem lk_Walker_stair {v0 v1 v2 : V} : (fs_Walker v0 v1 v2).lookup ("stair" : Str) = some v0 := by
  unfold fs_Walker
  rw [List.lookup_cons, show (("stair" : Str) == "stair") = true by decide +kernel]
theorem pf_Walker_stair {v0 v1 v2 y : V} : putF "stair" y (fs_Walker v0 v1 v2) = fs_Walker y v1 v2 := by
  unfold fs_Walker
  rw [putF, if_pos rfl]
theorem lk_Walker_at {v0 v1 v2 : V} : (fs_Walker v0 v1 v2).lookup ("at" : Str) = some v1 := by
  unfold fs_Walker
  rw [List.lookup_cons, show (("at" : Str) == "stair") = false by decide +kernel]
  dsimp only
  rw [List.lookup_cons, show (("at" : Str) == "at") = true by decide +kernel]
theorem pf_Walker_at {v0 v1 v2 y : V} : putF "at" y (fs_Walker v0 v1 v2) = fs_Walker v0 y v2 := by
  unfold fs_Walker
  rw [putF, if_neg (show ¬ (("stair" : Str) = "at") by decide +kernel)]
  rw [putF, if_pos rfl]
theorem lk_Walker_former {v0 v1 v2 : V} : (fs_Walker v0 v1 v2).lookup ("former" : Str) = some v2 := by
  unfold fs_Walker
  rw [List.lookup_cons, show (("former" : Str) == "stair") = false by decide +kernel]
  dsimp only
  rw [List.lookup_cons, show (("former" : Str) == "at") = false by decide +kernel]
  dsimp only
  rw [List.lookup_cons, show (("former" : Str) == "former") = true by decide +kernel]
theorem pf_Walker_former {v0 v1 v2 y : V} : putF "former" y (fs_Walker v0 v1 v2) = fs_Walker v0 v1 y := by
  unfold fs_Walker
  rw [putF, if_neg (show ¬ (("stair" : Str) = "former") by decide +kernel)]
  rw [putF, if_neg (show ¬ (("at" : Str) = "former") by decide +kernel)]
  rw [putF, if_pos rfl]
theorem lk_Walker_moved_ {v0 v1 v2 : V} : (fs_Walker v0 v1 v2).lookup ("moved" : Str) = none := by
  unfold fs_Walker
  rw [List.lookup_cons, show (("moved" : Str) == "stair") = false by decide +kernel]
  dsimp only
  rw [List.lookup_cons, show (("moved" : Str) == "at") = false by decide +kernel]
  dsimp only
  rw [List.lookup_cons, show (("moved" : Str) == "former") = false by decide +kernel]
  dsimp only
  rfl
theorem lk_Walker_go_ {v0 v1 v2 : V} : (fs_Walker v0 v1 v2).lookup ("go" : Str) = none := by
  unfold fs_Walker
  rw [List.lookup_cons, show (("go" : Str) == "stair") = false by decide +kernel]
  dsimp only
  rw [List.lookup_cons, show (("go" : Str) == "at") = false by decide +kernel]
  dsimp only
  rw [List.lookup_cons, show (("go" : Str) == "former") = false by decide +kernel]
  dsimp only
  rfl
theorem lk_Walker_find_ {v0 v1 v2 : V} : (fs_Walker v0 v1 v2).lookup ("find" : Str) = none := by
  unfold fs_Walker
  rw [List.lookup_cons, show (("find" : Str) == "stair") = false by decide +kernel]
  dsimp only
  rw [List.lookup_cons, show (("find" : Str) == "at") = false by decide +kernel]
  dsimp only
  rw [List.lookup_cons, show (("find" : Str) == "former") = false by decide +kernel]
  dsimp only
  rfl
theorem lk_Walker_back_ {v0 v1 v2 : V} : (fs_Walker v0 v1 v2).lookup ("back" : Str) = none := by
  unfold fs_Walker
  rw [List.lookup_cons, show (("back" : Str) == "stair") = false by decide +kernel]
  dsimp only
  rw [List.lookup_cons, show (("back" : Str) == "at") = false by decide +kernel]
  dsimp only
  rw [List.lookup_cons, show (("back" : Str) == "former") = false by decide +kernel]
  dsimp only
  rfl
theorem lk_Walker_place_ {v0 v1 v2 : V} : (fs_Walker v0 v1 v2).lookup ("place" : Str) = none := by
  unfold fs_Walker
  rw [List.lookup_cons, show (("place" : Str) == "stair") = false by decide +kernel]
  dsimp only
  rw [List.lookup_cons, show (("place" : Str) == "at") = false by decide +kernel]
  dsimp only
  rw [List.lookup_cons, show (("place" : Str) == "former") = false by decide +kernel]
  dsimp only
  rfl
theorem lk_Walker_height_ {v0 v1 v2 : V} : (fs_Walker v0 v1 v2).lookup ("height" : Str) = none := by
  unfold fs_Walker
  rw [List.lookup_cons, show (("height" : Str) == "stair") = false by decide +kernel]
  dsimp only
  rw [List.lookup_cons, show (("height" : Str) == "at") = false by decide +kernel]
  dsimp only
  rw [List.lookup_cons, show (("height" : Str) == "former") = false by decide +kernel]
  dsimp only
  rfl
theorem lk_Walker_rest_ {v0 v1 v2 : V} : (fs_Walker v0 v1 v2).lookup ("rest" : Str) = none := by
  unfold fs_Walker
  rw [List.lookup_cons, show (("rest" : Str) == "stair") = false by decide +kernel]
  dsimp only
  rw [List.lookup_cons, show (("rest" : Str) == "at") = false by decide +kernel]
  dsimp only
  rw [List.lookup_cons, show (("rest" : Str) == "former") = false by decide +kernel]
  dsimp only
  rfl
theorem lk_Walker_total_ {v0 v1 v2 : V} : (fs_Walker v0 v1 v2).lookup ("total" : Str) = none := by
  unfold fs_Walker
  rw [List.lookup_cons, show (("total" : Str) == "stair") = false by decide +kernel]
  dsimp only
  rw [List.lookup_cons, show (("total" : Str) == "at") = false by decide +kernel]
  dsimp only
  rw [List.lookup_cons, show (("total" : Str) == "former") = false by decide +kernel]
  dsimp only
  rfl
theorem lk_Walker_often_ {v0 v1 v2 : V} : (fs_Walker v0 v1 v2).lookup ("often" : Str) = none := by
  unfold fs_Walker
  rw [List.lookup_cons, show (("often" : Str) == "stair") = false by decide +kernel]
  dsimp only
  rw [List.lookup_cons, show (("often" : Str) == "at") = false by decide +kernel]
  dsimp only
  rw [List.lookup_cons, show (("often" : Str) == "former") = false by decide +kernel]
  dsimp only
  rfl
theorem mk_Walker {v0 v1 v2 : V} : putF "former" v2 (putF "at" v1 (putF "stair" v0 [])) = fs_Walker v0 v1 v2 := by
  unfold fs_Walker
  try simp only [putF]
  try simp only [putF]
  try rw [if_neg (show ¬ (("stair" : Str) = "at") by decide +kernel)]
  try simp only [putF]
  try rw [if_neg (show ¬ (("stair" : Str) = "former") by decide +kernel)]
  try rw [if_neg (show ¬ (("at" : Str) = "former") by decide +kernel)]
local macro_rules | `(tactic| walk_at "lk") => `(tactic| first
  | with_reducible exact lk_Walker_stair
  | with_reducible exact lk_Walker_at
  | with_reducible exact lk_Walker_former
  | with_reducible exact lk_Walker_moved_
  | with_reducible exact lk_Walker_go_
  | with_reducible exact lk_Walker_find_
  | with_reducible exact lk_Walker_back_
  | with_reducible exact lk_Walker_place_
  | with_reducible exact lk_Walker_height_
  | with_reducible exact lk_Walker_rest_
  | with_reducible exact lk_Walker_total_
  | with_reducible exact lk_Walker_often_
  | fail "no step")

/-! whole parts -/
theorem div_split (a b k : Int) {m : Int} (hm : 0 < m) : (a * k + b) / m = a / m * k + b / m + (a % m * k + b % m) / m := by
  have ea := Int.emod_add_mul_ediv a m
  have eb := Int.emod_add_mul_ediv b m
  have e : a * k + b = (a % m * k + b % m) + m * (a / m * k + b / m) := by
    have h1 : a * k = a % m * k + m * (a / m) * k := by
      rw [← Int.add_mul, ea]
    rw [h1, Int.mul_add, Int.mul_assoc]
    omega
  rw [e, Int.add_mul_ediv_left _ _ (by omega : m ≠ 0)]
  omega
theorem mod_split (a b k : Int) {m : Int} : (a * k + b) % m = (a % m * k + b % m) % m := by
  have ea := Int.emod_add_mul_ediv a m
  have eb := Int.emod_add_mul_ediv b m
  have e : a * k + b = (a % m * k + b % m) + m * (a / m * k + b / m) := by
    have h1 : a * k = a % m * k + m * (a / m) * k := by
      rw [← Int.add_mul, ea]
    rw [h1, Int.mul_add, Int.mul_assoc]
    omega
  rw [e, Int.add_mul_emod_self_left]

--@ needs Div
/-! sums, whole parts of many fractions -/
def sm (f : Nat → Int) : Nat → Int
  | 0 => 0
  | n + 1 => sm f n + f n
theorem sm_congr {f g : Nat → Int} : ∀ {n : Nat}, (∀ i, i < n → f i = g i) → sm f n = sm g n
  | 0, _ => rfl
  | n + 1, h => by
    show sm f n + f n = sm g n + g n
    rw [sm_congr (fun i hi => h i (by omega)), h n (by omega)]
theorem sm_add {f : Nat → Int} (n : Nat) : ∀ k : Nat, sm f (n + k) = sm f n + sm (fun i => f (n + i)) k
  | 0 => by
    show sm f n = sm f n + 0
    omega
  | k + 1 => by
    show sm f (n + k) + f (n + k) = sm f n + (sm (fun i => f (n + i)) k + f (n + k))
    rw [sm_add n k]
    omega
theorem sm_plus {f g : Nat → Int} : ∀ n : Nat, sm (fun i => f i + g i) n = sm f n + sm g n
  | 0 => rfl
  | n + 1 => by
    show sm (fun i => f i + g i) n + (f n + g n) = sm f n + f n + (sm g n + g n)
    rw [sm_plus n]
    omega
theorem sm_mul {f : Nat → Int} (c : Int) : ∀ n : Nat, sm (fun i => c * f i) n = c * sm f n
  | 0 => by show (0 : Int) = c * 0; rw [Int.mul_zero]
  | n + 1 => by
    show sm (fun i => c * f i) n + c * f n = c * (sm f n + f n)
    rw [sm_mul c n, Int.mul_add]
theorem sm_const (c : Int) : ∀ n : Nat, sm (fun _ => c) n = c * n
  | 0 => by show (0 : Int) = c * 0; rw [Int.mul_zero]
  | n + 1 => by
    show sm (fun _ => c) n + c = c * ((n : Int) + 1)
    rw [sm_const c n, Int.mul_add, Int.mul_one]
theorem sm_first {f : Nat → Int} : ∀ n : Nat, sm f (n + 1) = f 0 + sm (fun i => f (i + 1)) n
  | 0 => by
    show 0 + f 0 = f 0 + 0
    omega
  | n + 1 => by
    show sm f (n + 1) + f (n + 1) = f 0 + (sm (fun i => f (i + 1)) n + f (n + 1))
    rw [sm_first n]
    omega
theorem sm_rev {f : Nat → Int} : ∀ n : Nat, sm f n = sm (fun i => f (n - 1 - i)) n
  | 0 => rfl
  | n + 1 => by
    rw [sm_first (f := fun i => f (n + 1 - 1 - i))]
    show sm f n + f n = f (n + 1 - 1 - 0) + sm (fun i => f (n + 1 - 1 - (i + 1))) n
    rw [sm_rev n, sm_congr (g := fun i => f (n + 1 - 1 - (i + 1))) (fun i hi => by
      show f (n - 1 - i) = f (n + 1 - 1 - (i + 1))
      congr 1
      omega)]
    show _ + f n = f n + _
    omega
theorem sm_tri : ∀ n : Nat, 2 * sm (fun i => (i : Int)) n = (n : Int) * (n - 1)
  | 0 => rfl
  | n + 1 => by
    show 2 * (sm (fun i => (i : Int)) n + n) = ((n : Int) + 1) * ((n : Int) + 1 - 1)
    rw [Int.mul_add, sm_tri n, show (n : Int) + 1 - 1 = n by omega, Int.add_mul, Int.mul_sub]
    omega
theorem sm_tri2 (n : Nat) : (n : Int) * (n - 1) / 2 = sm (fun i => (i : Int)) n := by
  rw [← sm_tri n]
  omega
/-- the sum of the whole parts of (a k + b) / m over the first n places -/
@[irreducible] def fs (n : Nat) (a b m : Int) : Int := sm (fun k => (a * k + b) / m) n
theorem fs_zero (a b m : Int) : fs 0 a b m = 0 := by unfold fs; rfl
theorem fs_succ (n : Nat) (a b m : Int) : fs (n + 1) a b m = fs n a b m + (a * n + b) / m := by unfold fs; rfl
theorem fs_split (n : Nat) (a b : Int) {m : Int} (hm : 0 < m) : fs n a b m = a / m * ((n : Int) * (n - 1) / 2) + b / m * n + fs n (a % m) (b % m) m := by
  rw [sm_tri2]
  unfold fs
  rw [sm_congr (g := fun k : Nat => (a / m * (k : Int) + b / m) + (a % m * k + b % m) / m) (fun i _ => div_split a b i hm)]
  rw [sm_plus, sm_plus, sm_mul, sm_const]
theorem ediv_is {x m q : Int} (hm : 0 < m) (h0 : q * m ≤ x) (h1 : x < (q + 1) * m) : x / m = q := by
  have e1 : q ≤ x / m := (Int.le_ediv_iff_mul_le hm).mpr h0
  have e2 : x / m < q + 1 := (Int.ediv_lt_iff_lt_mul hm).mpr h1
  omega
/-- the places below a height -/
@[irreducible] def fsH (n : Int) (s m r : Int) (c : Nat) : Int := sm (fun i => n + (s - m * ((i : Int) + 1)) / r) c
theorem fsH_step (n s m r : Int) (c : Nat) : fsH (n + 1) s m r c = fsH n s m r c + c := by
  unfold fsH
  rw [sm_congr (g := fun i : Nat => (n + (s - m * ((i : Int) + 1)) / r) + 1) (fun i _ => by omega), sm_plus, sm_const]
  omega
/-- the turn: (r k + s) / m over n places, by m and r exchanged -/
theorem fs_turnH (s : Int) {m r : Int} (hr : 0 < r) (s0 : 0 ≤ s) (s1 : s < m) : ∀ n : Nat, fs n r s m = fsH n s m r ((r * n + s) / m).toNat := by
  have hm : 0 < m := by omega
  intro n
  induction n with
  | zero =>
    rw [show r * ((0 : Nat) : Int) + s = s by rw [show ((0 : Nat) : Int) = 0 from rfl, Int.mul_zero]; omega, Int.ediv_eq_zero_of_lt s0 s1]
    unfold fs fsH
    rfl
  | succ n ih =>
    rw [fs_succ, ih]
    generalize hy : (r * (n : Int) + s) / m = y
    generalize hz : (r * ((n + 1 : Nat) : Int) + s) / m = z
    have hn1 : r * ((n + 1 : Nat) : Int) + s = r * n + s + r := by
      rw [show ((n + 1 : Nat) : Int) = (n : Int) + 1 from rfl, Int.mul_add, Int.mul_one]
      omega
    have rn : 0 ≤ r * (n : Int) := Int.mul_nonneg (by omega) (by omega)
    have y0 : 0 ≤ y := by
      rw [← hy]
      exact Int.ediv_nonneg (by omega) (by omega)
    have yz : y ≤ z := by
      rw [← hy, ← hz, hn1]
      exact Int.ediv_le_ediv hm (by omega)
    obtain ⟨Y, hY⟩ : ∃ Y : Nat, y = Y := ⟨y.toNat, by omega⟩
    obtain ⟨D, hD⟩ : ∃ D : Nat, z = Y + D := ⟨(z - y).toNat, by omega⟩
    have eY : y.toNat = Y := by omega
    have eZ : z.toNat = Y + D := by omega
    rw [eY, eZ]
    show fsH n s m r Y + y = fsH (((n : Nat) : Int) + 1) s m r (Y + D)
    have e3 : fsH (((n : Nat) : Int) + 1) s m r (Y + D) = fsH (((n : Nat) : Int) + 1) s m r Y + sm (fun i => ((n : Nat) : Int) + 1 + (s - m * (((Y + i : Nat) : Int) + 1)) / r) D := by
      unfold fsH
      exact sm_add Y D
    rw [e3, fsH_step, sm_congr (g := fun _ => 0) (fun i hi => ?_), sm_const]
    · omega
    · have b1 : m * (((Y + i : Nat) : Int) + 1) ≤ r * n + s + r := by
        have h1 : z * m ≤ r * n + s + r := by
          rw [← hz, hn1]
          exact Int.ediv_mul_le _ (by omega)
        have h2 : (((Y + i : Nat) : Int) + 1) * m ≤ z * m := Int.mul_le_mul_of_nonneg_right (by omega) (by omega)
        rw [Int.mul_comm]
        omega
      have b2 : r * n + s < m * (((Y + i : Nat) : Int) + 1) := by
        have h1 : r * n + s < (y + 1) * m := by
          rw [← hy]
          exact Int.lt_ediv_add_one_mul_self _ hm
        have h2 : (y + 1) * m ≤ (((Y + i : Nat) : Int) + 1) * m := Int.mul_le_mul_of_nonneg_right (by omega) (by omega)
        rw [Int.mul_comm m]
        omega
      have q : (s - m * (((Y + i : Nat) : Int) + 1)) / r = -((n : Int) + 1) := by
        refine ediv_is hr ?_ ?_
        · rw [Int.neg_mul, Int.add_mul, Int.one_mul, Int.mul_comm (n : Int) r]
          omega
        · rw [show -((n : Int) + 1) + 1 = -(n : Int) by omega, Int.neg_mul, Int.mul_comm (n : Int) r]
          omega
      show ((n : Nat) : Int) + 1 + (s - m * (((Y + i : Nat) : Int) + 1)) / r = 0
      rw [q]
      omega
theorem fs_turn (n : Nat) (s : Int) {m r : Int} (hr : 0 ≤ r) (s0 : 0 ≤ s) (s1 : s < m) : fs n r s m = fs ((r * n + s) / m).toNat m ((r * n + s) % m) r := by
  have hm : 0 < m := by omega
  by_cases h : r = 0
  · subst h
    rw [Int.zero_mul, Int.zero_add, Int.ediv_eq_zero_of_lt s0 s1]
    rw [show Int.toNat 0 = 0 from rfl, fs_zero]
    unfold fs
    rw [sm_congr (g := fun _ => 0) (fun i _ => by rw [Int.zero_mul, Int.zero_add, Int.ediv_eq_zero_of_lt s0 s1]), sm_const]
    omega
  · rw [fs_turnH s (by omega) s0 s1 n]
    generalize hy : (r * (n : Int) + s) / m = y
    have rn : 0 ≤ r * (n : Int) := Int.mul_nonneg hr (by omega)
    have y0 : 0 ≤ y := by
      rw [← hy]
      exact Int.ediv_nonneg (by omega) (by omega)
    unfold fsH fs
    rw [sm_rev]
    refine sm_congr fun i hi => ?_
    have e := Int.emod_add_mul_ediv (r * n + s) m
    rw [hy] at e
    have c : (((y.toNat - 1 - i : Nat) : Int) + 1) = y - i := by omega
    show (n : Int) + (s - m * (((y.toNat - 1 - i : Nat) : Int) + 1)) / r = (m * (i : Int) + (r * n + s) % m) / r
    rw [c, show m * (i : Int) + (r * n + s) % m = (s - m * (y - i)) + r * n by rw [Int.mul_sub]; omega, Int.add_mul_ediv_left _ _ h]
    omega
theorem fs_loop (n : Nat) (a b : Int) {m : Int} (hm : 0 < m) :
    fs n a b m = a / m * ((n : Int) * (n - 1) / 2) + b / m * n + fs ((a % m * n + b % m) / m).toNat m ((a % m * n + b % m) % m) (a % m) := by
  rw [fs_split n a b hm, fs_turn n (b % m) (Int.emod_nonneg _ (by omega)) (Int.emod_nonneg _ (by omega)) (Int.emod_lt_of_pos _ hm)]
/-- the law's own turn, from the last place -/
theorem fs_quick (b : Int) {m a : Int} (a0 : 0 ≤ a) (b0 : 0 ≤ b) (b1 : b < m) : ∀ L : Nat, fs (L + 1) a b m = (L : Int) * ((a * L + b) / m) - fs ((a * L + b) / m).toNat m (m - b - 1) a := by
  have hm : 0 < m := by omega
  intro L
  induction L with
  | zero =>
    rw [show a * ((0 : Nat) : Int) + b = b by rw [show ((0 : Nat) : Int) = 0 from rfl, Int.mul_zero]; omega, Int.ediv_eq_zero_of_lt b0 b1, fs_succ]
    rw [show a * ((0 : Nat) : Int) + b = b by rw [show ((0 : Nat) : Int) = 0 from rfl, Int.mul_zero]; omega, Int.ediv_eq_zero_of_lt b0 b1, fs_zero, show Int.toNat 0 = 0 from rfl, fs_zero]
    rfl
  | succ n ih =>
    rw [fs_succ, ih]
    generalize hy : (a * (n : Int) + b) / m = y
    generalize hz : (a * ((n + 1 : Nat) : Int) + b) / m = z
    have hn1 : a * ((n + 1 : Nat) : Int) + b = a * n + b + a := by
      rw [show ((n + 1 : Nat) : Int) = (n : Int) + 1 from rfl, Int.mul_add, Int.mul_one]
      omega
    have rn : 0 ≤ a * (n : Int) := Int.mul_nonneg a0 (by omega)
    have y0 : 0 ≤ y := by
      rw [← hy]
      exact Int.ediv_nonneg (by omega) (by omega)
    have yz : y ≤ z := by
      rw [← hy, ← hz, hn1]
      exact Int.ediv_le_ediv hm (by omega)
    obtain ⟨Y, hY⟩ : ∃ Y : Nat, y = Y := ⟨y.toNat, by omega⟩
    obtain ⟨D, hD⟩ : ∃ D : Nat, z = Y + D := ⟨(z - y).toNat, by omega⟩
    have eY : y.toNat = Y := by omega
    have eZ : z.toNat = Y + D := by omega
    rw [eY, eZ]
    have e3 : fs (Y + D) m (m - b - 1) a = fs Y m (m - b - 1) a + sm (fun i => (m * ((Y + i : Nat) : Int) + (m - b - 1)) / a) D := by
      unfold fs
      exact sm_add Y D
    rw [e3, sm_congr (g := fun _ => (n : Int)) (fun i hi => ?_), sm_const, hD, hY]
    · rw [show ((n + 1 : Nat) : Int) = (n : Int) + 1 from rfl, Int.add_mul, Int.one_mul, Int.mul_add]
      omega
    · have b1' : (((Y + i : Nat) : Int) + 1) * m ≤ a * n + b + a := by
        have h1 : z * m ≤ a * n + b + a := by
          rw [← hz, hn1]
          exact Int.ediv_mul_le _ (by omega)
        have h2 : (((Y + i : Nat) : Int) + 1) * m ≤ z * m := Int.mul_le_mul_of_nonneg_right (by omega) (by omega)
        omega
      have b2 : a * n + b < (((Y + i : Nat) : Int) + 1) * m := by
        have h1 : a * n + b < (y + 1) * m := by
          rw [← hy]
          exact Int.lt_ediv_add_one_mul_self _ hm
        have h2 : (y + 1) * m ≤ (((Y + i : Nat) : Int) + 1) * m := Int.mul_le_mul_of_nonneg_right (by omega) (by omega)
        omega
      have ap : 0 < a := by omega
      show (m * ((Y + i : Nat) : Int) + (m - b - 1)) / a = (n : Int)
      have h3 : (((Y + i : Nat) : Int) + 1) * m = m * ((Y + i : Nat) : Int) + m := by rw [Int.add_mul, Int.one_mul, Int.mul_comm m]
      rw [h3] at b1' b2
      refine ediv_is ap ?_ ?_
      · rw [Int.mul_comm (n : Int) a]
        omega
      · rw [Int.add_mul, Int.one_mul, Int.mul_comm (n : Int) a]
        omega
theorem fs_add (n k : Nat) (a b m : Int) : fs (n + k) a b m = fs n a b m + fs k a (a * n + b) m := by
  unfold fs
  rw [sm_add]
  congr 1
  refine sm_congr fun i _ => ?_
  show (a * ((n + i : Nat) : Int) + b) / m = (a * (i : Int) + (a * (n : Int) + b)) / m
  rw [show ((n + i : Nat) : Int) = (n : Int) + i from rfl, Int.mul_add]
  congr 1
  omega
theorem fs_a (n : Nat) (a b y : Int) {m : Int} (hm : 0 < m) : fs n (a + y * m) b m = fs n a b m + y * ((n : Int) * (n - 1) / 2) := by
  rw [sm_tri2, ← sm_mul]
  unfold fs
  rw [← sm_plus]
  refine sm_congr fun i _ => ?_
  show ((a + y * m) * (i : Int) + b) / m = (a * (i : Int) + b) / m + y * (i : Int)
  rw [show (a + y * m) * (i : Int) + b = (a * i + b) + m * (y * i) by
    rw [Int.add_mul, Int.mul_comm y m, Int.mul_assoc]
    omega, Int.add_mul_ediv_left _ _ (by omega : m ≠ 0)]
theorem fs_b (n : Nat) (a b y : Int) {m : Int} (hm : 0 < m) : fs n a (b + y * m) m = fs n a b m + y * n := by
  rw [← sm_const]
  unfold fs
  rw [← sm_plus]
  refine sm_congr fun i _ => ?_
  show (a * (i : Int) + (b + y * m)) / m = (a * (i : Int) + b) / m + y
  rw [show a * (i : Int) + (b + y * m) = (a * i + b) + m * y by
    rw [Int.mul_comm y m]
    omega, Int.add_mul_ediv_left _ _ (by omega : m ≠ 0)]
theorem fs_rev (n : Nat) (a b m : Int) : fs n (0 - a) (a * (n - 1) + b) m = fs n a b m := by
  unfold fs
  rw [sm_rev]
  refine sm_congr fun i hi => ?_
  show ((0 - a) * ((n - 1 - i : Nat) : Int) + (a * ((n : Int) - 1) + b)) / m = (a * (i : Int) + b) / m
  rw [show ((n - 1 - i : Nat) : Int) = (n : Int) - 1 - i by omega, Int.sub_mul, Int.zero_mul, Int.mul_sub a _ (i : Int)]
  congr 1
  omega

--@ needs Sum
/-! how often -/
/-- how many of the first places are within bounds -/
@[irreducible] def cn (n : Nat) (a b m low high : Int) : Int := fs n a (b - low) m - fs n a (b - high) m
theorem cn_all (n : Nat) (a b : Int) {m : Int} (hm : 0 < m) : cn n a b m 0 m = n := by
  unfold cn
  have h := fs_b n a (b - m) 1 hm
  rw [show b - m + 1 * m = b - 0 by omega] at h
  omega
theorem cn_add (n k : Nat) (a b m low high : Int) : cn (n + k) a b m low high = cn n a b m low high + cn k a (a * n + b) m low high := by
  unfold cn
  rw [fs_add, fs_add]
  rw [show a * (n : Int) + (b - low) = a * n + b - low by omega, show a * (n : Int) + (b - high) = a * n + b - high by omega]
  omega
theorem cn_turn (n : Nat) (a b low high : Int) {m : Int} (hm : 0 < m) : cn n (0 - a) (m - 1 - b) m (m - high) (m - low) = cn n a b m low high := by
  have key : ∀ c : Int, fs n (0 - a) (m - 1 - b - (m - c)) m = - fs n a (b - c) m - n := by
    intro c
    unfold fs
    have e : ∀ i : Nat, i < n → ((0 - a) * (i : Int) + (m - 1 - b - (m - c))) / m = (-1) * ((a * (i : Int) + (b - c)) / m) + (-1) := by
      intro i _
      have h := Int.emod_add_mul_ediv (a * (i : Int) + (b - c)) m
      have r0 := Int.emod_nonneg (a * (i : Int) + (b - c)) (show m ≠ 0 by omega)
      have r1 := Int.emod_lt_of_pos (a * (i : Int) + (b - c)) hm
      refine ediv_is hm ?_ ?_
      · grind
      · grind
    rw [sm_congr e, sm_plus, sm_mul, sm_const]
    omega
  unfold cn
  rw [key high, key low]
  omega

--@ needs Div
/-! common divisors -/
theorem gcd_step (x y : Nat) : Nat.gcd y (x % y) = Nat.gcd x y := by
  rw [Nat.gcd_comm x y, Nat.gcd_rec y x, Nat.gcd_comm]
/-- the stair made least -/
def lsA (a m : Int) : Int := a / (Int.gcd a m : Int)
def lsM (a m : Int) : Int := m / (Int.gcd a m : Int)
def lsB (a b m : Int) : Int := b / (Int.gcd a m : Int)
theorem gcd_pos {a m : Int} (hm : 0 < m) : 0 < (Int.gcd a m : Int) := by
  have : 0 < Int.gcd a m := Int.gcd_pos_of_ne_zero_right a (by omega)
  omega
theorem lsA_mul (a m : Int) : lsA a m * (Int.gcd a m : Int) = a := Int.ediv_mul_cancel (Int.gcd_dvd_left a m)
theorem lsM_mul (a m : Int) : lsM a m * (Int.gcd a m : Int) = m := Int.ediv_mul_cancel (Int.gcd_dvd_right a m)
theorem lsM_pos {a m : Int} (hm : 0 < m) : 0 < lsM a m := by
  have h := lsM_mul a m
  have g := gcd_pos (a := a) hm
  refine Int.pos_of_mul_pos_left (b := (Int.gcd a m : Int)) ?_ g
  omega
theorem ls_height (a b k : Int) {m : Int} (hm : 0 < m) : (lsA a m * k + lsB a b m) / lsM a m = (a * k + b) / m := by
  have g := gcd_pos (a := a) hm
  have ha := lsA_mul a m
  have hM := lsM_mul a m
  generalize lsA a m = A at *
  generalize lsM a m = M at *
  unfold lsB
  generalize (Int.gcd a m : Int) = G at *
  subst ha
  subst hM
  rw [Int.mul_comm M G, ← Int.ediv_ediv_of_nonneg (by omega), show A * G * k + b = b + G * (A * k) by rw [Int.mul_comm A G, Int.mul_assoc]; omega, Int.add_mul_ediv_left _ _ (by omega : G ≠ 0), Int.add_comm]
theorem ls_cop {a m : Int} (hm : 0 < m) : Int.gcd (lsA a m) (lsM a m) = 1 := by
  have g := gcd_pos (a := a) hm
  unfold lsA lsM
  exact Int.gcd_ediv_gcd_ediv_gcd (by omega)
/-- only 1 divides both: no lesser place is a period -/
theorem cop_no {a m k : Int} (h : Int.gcd a m = 1) (k0 : 0 < k) (k1 : k < m) : a * k % m ≠ 0 := by
  intro z
  have d : m ∣ a * k := Int.dvd_of_emod_eq_zero z
  have d2 : m ∣ k := by
    have d3 := Int.dvd_gcd_mul_iff_dvd_mul.mpr d
    rw [Int.gcd_comm, h] at d3
    rw [show ((1 : Nat) : Int) * k = k by omega] at d3
    exact d3
  have := Int.le_of_dvd k0 d2
  omega

--@ needs Often Gcd
/-! first hits -/
def Wn (a m lo hi k : Int) : Prop := lo ≤ a * k % m ∧ a * k % m ≤ hi
/-- the first one, or none -/
def FR (a m lo hi : Int) : Option Int → Prop
  | none => ∀ k : Int, 0 ≤ k → ¬ Wn a m lo hi k
  | some k => 0 ≤ k ∧ Wn a m lo hi k ∧ ∀ j : Int, 0 ≤ j → j < k → ¬ Wn a m lo hi j
/-- a quotient, rounded up -/
def cup (t b : Int) : Int := 0 - (0 - t) / b
theorem cup_up {t b : Int} (hb : 0 < b) : t ≤ cup t b * b ∧ (cup t b - 1) * b < t := by
  have e := Int.emod_add_mul_ediv (0 - t) b
  have r0 := Int.emod_nonneg (0 - t) (show b ≠ 0 by omega)
  have r1 := Int.emod_lt_of_pos (0 - t) hb
  unfold cup
  generalize (0 - t) / b = q at *
  constructor
  · grind
  · grind
theorem cup_le {t b k : Int} (hb : 0 < b) (h : t ≤ b * k) : cup t b ≤ k := by
  obtain ⟨_, h2⟩ := cup_up (t := t) hb
  have h3 : (cup t b - 1) * b < k * b := by rw [Int.mul_comm k]; omega
  have := Int.lt_of_mul_lt_mul_right h3 (by omega)
  omega
theorem Wn_mod (a m lo hi k : Int) : Wn (a % m) m lo hi k ↔ Wn a m lo hi k := by
  unfold Wn
  rw [Int.mul_emod, Int.emod_emod_of_dvd _ (Int.dvd_refl m), ← Int.mul_emod]
theorem FR_mod {a m lo hi : Int} {v : Option Int} (h : FR (a % m) m lo hi v) : FR a m lo hi v := by
  cases v with
  | none => exact fun k k0 w => h k k0 ((Wn_mod ..).mpr w)
  | some k => exact ⟨h.1, (Wn_mod ..).mp h.2.1, fun j j0 jk w => h.2.2 j j0 jk ((Wn_mod ..).mpr w)⟩
theorem FR_0 {a m hi : Int} (h : 0 ≤ hi) : FR a m 0 hi (some 0) := by
  refine ⟨by omega, ?_, fun j _ _ => by omega⟩
  unfold Wn
  rw [Int.mul_zero, Int.zero_emod]
  omega
theorem FR_no {m lo hi : Int} (h : 0 < lo) : FR 0 m lo hi none := by
  intro k _ w
  unfold Wn at w
  rw [Int.zero_mul, Int.zero_emod] at w
  omega
theorem FR_one {a m lo hi : Int} (ha : 0 < a) (hl : 0 < lo) (hm : hi < m) (h : cup lo a * a ≤ hi) : FR a m lo hi (some (cup lo a)) := by
  obtain ⟨h1, h2⟩ := cup_up (t := lo) ha
  have k0 : 0 < cup lo a := by
    have h3 : 0 * a < cup lo a * a := by omega
    exact Int.lt_of_mul_lt_mul_right h3 (by omega)
  refine ⟨by omega, ?_, fun j j0 jk w => ?_⟩
  · unfold Wn
    rw [Int.mul_comm a, Int.emod_eq_of_lt (by omega) (by omega)]
    omega
  · have h3 : j * a ≤ (cup lo a - 1) * a := Int.mul_le_mul_of_nonneg_right (by omega) (by omega)
    have h4 : 0 ≤ j * a := Int.mul_nonneg j0 (by omega)
    unfold Wn at w
    rw [Int.mul_comm a, Int.emod_eq_of_lt (by omega) (by omega)] at w
    omega
theorem Wn_line {a m lo hi k : Int} (hm : 0 < m) (hl : 0 < lo) (hh : hi < m) : Wn a m lo hi k ↔ ∃ y, lo + m * y ≤ a * k ∧ a * k ≤ hi + m * y := by
  have e := Int.emod_add_mul_ediv (a * k) m
  constructor
  · intro w
    unfold Wn at w
    exact ⟨a * k / m, by omega, by omega⟩
  · rintro ⟨y, h1, h2⟩
    have d : a * k / m = y := ediv_is hm (by rw [Int.mul_comm]; omega) (by rw [Int.add_mul, Int.mul_comm y]; omega)
    unfold Wn
    rw [d] at e
    omega
theorem Wn_turn {a m lo hi y : Int} (ha : 0 < a) (hlh : lo ≤ hi) (h : hi < cup lo a * a) : Wn m a ((0 - hi) % a) ((0 - lo) % a) y ↔ ∃ k, lo + m * y ≤ a * k ∧ a * k ≤ hi + m * y := by
  obtain ⟨h1, h2⟩ := cup_up (t := lo) ha
  have u : (0 - hi) % a = cup lo a * a - hi := by
    have d : (0 - hi) / a = 0 - cup lo a := ediv_is ha (by grind) (by grind)
    have e := Int.emod_add_mul_ediv (0 - hi) a
    rw [d] at e
    grind
  have w : (0 - lo) % a = cup lo a * a - lo := by
    have d : (0 - lo) / a = 0 - cup lo a := ediv_is ha (by grind) (by grind)
    have e := Int.emod_add_mul_ediv (0 - lo) a
    rw [d] at e
    grind
  rw [u, w]
  have e := Int.emod_add_mul_ediv (m * y) a
  generalize cup lo a = c at *
  unfold Wn
  constructor
  · rintro ⟨g1, g2⟩
    exact ⟨m * y / a + c, by grind, by grind⟩
  · rintro ⟨k, g1, g2⟩
    have d : m * y / a = k - c := ediv_is ha (by grind) (by grind)
    rw [d] at e
    constructor <;> grind
/-- the turn -/
theorem FR_turn {a m lo hi : Int} {v : Option Int} (ha : 0 < a) (hm : 0 < m) (hl : 0 < lo) (hlh : lo ≤ hi) (hh : hi < m) (h : hi < cup lo a * a) (f : FR m a ((0 - hi) % a) ((0 - lo) % a) v) : FR a m lo hi (v.map fun y => cup (lo + m * y) a) := by
  have line : ∀ k : Int, 0 ≤ k → Wn a m lo hi k → ∃ y, 0 ≤ y ∧ Wn m a ((0 - hi) % a) ((0 - lo) % a) y ∧ lo + m * y ≤ a * k := by
    intro k k0 w
    obtain ⟨y, h1, h2⟩ := (Wn_line hm hl hh).mp w
    refine ⟨y, ?_, (Wn_turn ha hlh h).mpr ⟨k, h1, h2⟩, h1⟩
    have h3 : 0 ≤ a * k := Int.mul_nonneg (by omega) k0
    have h4 : m * (-1) < m * y := by omega
    have := Int.lt_of_mul_lt_mul_left h4 (by omega)
    omega
  cases v with
  | none =>
    intro k k0 w
    obtain ⟨y, y0, hy, _⟩ := line k k0 w
    exact f y y0 hy
  | some y =>
    obtain ⟨y0, wy, least⟩ := f
    obtain ⟨k', g1, g2⟩ := (Wn_turn ha hlh h).mp wy
    obtain ⟨c1, c2⟩ := cup_up (t := lo + m * y) ha
    have ck := cup_le ha g1
    have c3 : a * cup (lo + m * y) a ≤ a * k' := Int.mul_le_mul_of_nonneg_left ck (by omega)
    have c4 : lo + m * y ≤ a * cup (lo + m * y) a := by rw [Int.mul_comm a]; exact c1
    have my : 0 ≤ m * y := Int.mul_nonneg (by omega) y0
    refine ⟨?_, (Wn_line hm hl hh).mpr ⟨y, c4, show a * cup (lo + m * y) a ≤ hi + m * y by omega⟩, fun j j0 jk w => ?_⟩
    · show 0 ≤ cup (lo + m * y) a
      have h3 : a * 0 < a * cup (lo + m * y) a := by omega
      have := Int.lt_of_mul_lt_mul_left h3 (by omega)
      omega
    · have jk : j < cup (lo + m * y) a := jk
      obtain ⟨y', y0', hy', l'⟩ := line j j0 w
      have : y ≤ y' := by
        by_cases z : y ≤ y'
        · exact z
        · exact (least y' y0' (by omega) hy').elim
      have h5 : m * y ≤ m * y' := Int.mul_le_mul_of_nonneg_left this (by omega)
      have := cup_le (t := lo + m * y) (b := a) (k := j) ha (by omega)
      omega
/-- how many turns there may be -/
def fb : Nat → Nat
  | 0 => 0
  | 1 => 1
  | n + 2 => fb (n + 1) + fb n
def Trn (j : Nat) (a m : Int) : Prop := m < fb (j + 1) ∨ a % m < fb j
theorem Trn_0 {a m : Int} (hm : 0 < m) : ¬ Trn 0 a m := by
  rintro (h | h)
  · have : m < 1 := h
    omega
  · have : a % m < 0 := h
    have := Int.emod_nonneg a (show m ≠ 0 by omega)
    omega
theorem Trn_next {j : Nat} {a m : Int} (hm : 0 < m) (h : Trn (j + 1) a m) (h0 : a % m ≠ 0) : Trn j m (a % m) := by
  have r0 := Int.emod_nonneg a (show m ≠ 0 by omega)
  have r1 := Int.emod_lt_of_pos a hm
  by_cases z : a % m < fb (j + 1)
  · exact .inl z
  · right
    rcases h with h | h
    · have h : m < ((fb (j + 1) + fb j : Nat) : Int) := h
      have e := Int.emod_add_mul_ediv m (a % m)
      have q : 1 ≤ m / (a % m) := (Int.le_ediv_iff_mul_le (by omega)).mpr (by omega)
      have h1 : a % m * 1 ≤ a % m * (m / (a % m)) := Int.mul_le_mul_of_nonneg_left q (by omega)
      omega
    · exact (z h).elim
theorem FR_lt {a m lo hi k : Int} (hm : 0 < m) (h : FR a m lo hi (some k)) : k < m := by
  obtain ⟨k0, w, l⟩ := h
  by_cases z : k < m
  · exact z
  · refine (l (k - m) (by omega) (by omega) ?_).elim
    unfold Wn at w ⊢
    rw [show a * (k - m) = a * k + m * (-a) by grind, Int.add_mul_emod_self_left]
    exact w
theorem turn_bounds {a lo hi : Int} (ha : 0 < a) (hl : 0 < lo) (hlh : lo ≤ hi) (h : hi < cup lo a * a) : (0 - hi) % a ≤ (0 - lo) % a := by
  obtain ⟨h1, h2⟩ := cup_up (t := lo) ha
  have d1 : (0 - hi) / a = 0 - cup lo a := ediv_is ha (by grind) (by grind)
  have d2 : (0 - lo) / a = 0 - cup lo a := ediv_is ha (by grind) (by grind)
  have e1 := Int.emod_add_mul_ediv (0 - hi) a
  have e2 := Int.emod_add_mul_ediv (0 - lo) a
  rw [d1] at e1
  rw [d2] at e2
  omega
theorem cup_b {lo a : Int} (ha : 0 < a) (hl : 0 < lo) : 0 < cup lo a ∧ cup lo a ≤ lo := by
  obtain ⟨h1, h2⟩ := cup_up (t := lo) ha
  constructor
  · have h3 : 0 * a < cup lo a * a := by omega
    exact Int.lt_of_mul_lt_mul_right h3 (by omega)
  · refine cup_le ha ?_
    have : 1 * lo ≤ a * lo := Int.mul_le_mul_of_nonneg_right (by omega) (by omega)
    omega
/-- a hit of bounds -/
def Ht (a b m lo hi k : Int) : Prop := lo ≤ (a * k + b) % m ∧ (a * k + b) % m < hi
def FH (a b m lo hi : Int) : Option Int → Prop
  | none => ∀ k : Int, 0 ≤ k → ¬ Ht a b m lo hi k
  | some k => 0 ≤ k ∧ Ht a b m lo hi k ∧ ∀ j : Int, 0 ≤ j → j < k → ¬ Ht a b m lo hi j
theorem FH_same (a b m lo : Int) : FH a b m lo lo none := by
  intro k _ w
  unfold Ht at w
  omega
theorem FH_0 {a b m lo hi : Int} (h : lo ≤ b % m) (h2 : b % m < hi) : FH a b m lo hi (some 0) := by
  refine ⟨by omega, ?_, fun j _ _ => by omega⟩
  unfold Ht
  rw [Int.mul_zero, Int.zero_add]
  exact ⟨h, h2⟩
theorem sub_mod' (x b m : Int) : (x - b) % m = (x - b % m) % m := by
  have e := Int.emod_add_mul_ediv b m
  rw [show x - b = x - b % m + m * (-(b / m)) by grind, Int.add_mul_emod_self_left]
theorem rest_bounds {b m lo hi : Int} (hm : 0 < m) (l0 : 0 ≤ lo) (lh : lo < hi) (hh : hi ≤ m) (h : ¬ (lo ≤ b % m ∧ b % m < hi)) : 0 < (lo - b) % m ∧ (lo - b) % m ≤ (hi - 1 - b) % m ∧ (hi - 1 - b) % m < m := by
  have s0 := Int.emod_nonneg b (show m ≠ 0 by omega)
  have s1 := Int.emod_lt_of_pos b hm
  rw [sub_mod' lo, sub_mod' (hi - 1)]
  generalize b % m = s at *
  by_cases z : s < lo
  · rw [Int.emod_eq_of_lt (by omega) (by omega), Int.emod_eq_of_lt (by omega) (by omega)]
    omega
  · rw [← Int.add_emod_right, ← Int.add_emod_right (hi - 1 - s), Int.emod_eq_of_lt (by omega) (by omega), Int.emod_eq_of_lt (by omega) (by omega)]
    omega
theorem Ht_iff {a b m lo hi k : Int} (hm : 0 < m) (l0 : 0 ≤ lo) (lh : lo < hi) (hh : hi ≤ m) (h : ¬ (lo ≤ b % m ∧ b % m < hi)) : Ht a b m lo hi k ↔ Wn a m ((lo - b) % m) ((hi - 1 - b) % m) k := by
  have s0 := Int.emod_nonneg b (show m ≠ 0 by omega)
  have s1 := Int.emod_lt_of_pos b hm
  have r0 := Int.emod_nonneg (a * k) (show m ≠ 0 by omega)
  have r1 := Int.emod_lt_of_pos (a * k) hm
  unfold Ht Wn
  rw [sub_mod' lo, sub_mod' (hi - 1), Int.add_emod (a * k) b]
  generalize b % m = s at *
  generalize a * k % m = r at *
  by_cases z : s < lo
  · rw [Int.emod_eq_of_lt (a := lo - s) (by omega) (by omega), Int.emod_eq_of_lt (a := hi - 1 - s) (by omega) (by omega)]
    by_cases y : r + s < m
    · rw [Int.emod_eq_of_lt (by omega) y]
      omega
    · rw [show r + s = r + s - m + m by omega, Int.add_emod_right, Int.emod_eq_of_lt (by omega) (by omega)]
      omega
  · rw [← Int.add_emod_right (lo - s), ← Int.add_emod_right (hi - 1 - s), Int.emod_eq_of_lt (a := lo - s + m) (by omega) (by omega), Int.emod_eq_of_lt (a := hi - 1 - s + m) (by omega) (by omega)]
    by_cases y : r + s < m
    · rw [Int.emod_eq_of_lt (by omega) y]
      omega
    · rw [show r + s = r + s - m + m by omega, Int.add_emod_right, Int.emod_eq_of_lt (by omega) (by omega)]
      omega
theorem FH_of {a b m lo hi : Int} {v : Option Int} (hm : 0 < m) (l0 : 0 ≤ lo) (lh : lo < hi) (hh : hi ≤ m) (h : ¬ (lo ≤ b % m ∧ b % m < hi)) (f : FR a m ((lo - b) % m) ((hi - 1 - b) % m) v) : FH a b m lo hi v := by
  cases v with
  | none => exact fun k k0 w => f k k0 ((Ht_iff hm l0 lh hh h).mp w)
  | some k => exact ⟨f.1, (Ht_iff hm l0 lh hh h).mpr f.2.1, fun j j0 jk w => f.2.2 j j0 jk ((Ht_iff hm l0 lh hh h).mp w)⟩
theorem Ht_period {a b m lo hi k c : Int} : Ht a b m lo hi (k + m * c) ↔ Ht a b m lo hi k := by
  unfold Ht
  rw [show a * (k + m * c) + b = a * k + b + m * (a * c) by grind, Int.add_mul_emod_self_left]
theorem FH_lt {a b m lo hi k : Int} (hm : 0 < m) (h : FH a b m lo hi (some k)) : k < m := by
  obtain ⟨k0, w, l⟩ := h
  by_cases z : k < m
  · exact z
  · refine (l (k - m) (by omega) (by omega) ?_).elim
    have := (Ht_period (a := a) (b := b) (m := m) (lo := lo) (hi := hi) (k := k - m) (c := 1)).mp (by
      rw [show k - m + m * 1 = k by omega]
      exact w)
    exact this
theorem cn_shift (k : Nat) (a b c lo hi : Int) {m : Int} (hm : 0 < m) : cn k a (b + c * m) m lo hi = cn k a b m lo hi := by
  unfold cn
  rw [show b + c * m - lo = b - lo + c * m by omega, show b + c * m - hi = b - hi + c * m by omega, fs_b k a (b - lo) c hm, fs_b k a (b - hi) c hm]
  omega
theorem cn_zero (a b m lo hi : Int) : cn 0 a b m lo hi = 0 := by
  unfold cn
  rw [fs_zero, fs_zero]
  rfl
theorem cn_per {P : Nat} {a b c lo hi m : Int} (hm : 0 < m) (h : a * P = c * m) : ∀ (q r : Nat), cn (q * P + r) a b m lo hi = q * cn P a b m lo hi + cn r a b m lo hi
  | 0, r => by
    rw [Nat.zero_mul, Nat.zero_add]
    omega
  | q + 1, r => by
    rw [show (q + 1) * P + r = P + (q * P + r) by rw [Nat.add_mul]; omega, cn_add, h, Int.add_comm (c * m) b, cn_shift _ _ _ _ _ _ hm, cn_per hm h q r, Int.natCast_add, Int.add_mul]
    omega
theorem cn_step (n : Nat) {a b lo hi m : Int} (hm : 0 < m) (l0 : 0 ≤ lo) (lh : lo ≤ hi) (hh : hi ≤ m) : (Ht a b m lo hi n → cn (n + 1) a b m lo hi = cn n a b m lo hi + 1) ∧ (¬ Ht a b m lo hi n → cn (n + 1) a b m lo hi = cn n a b m lo hi) := by
  have e := Int.emod_add_mul_ediv (a * (n : Int) + b) m
  have r0 := Int.emod_nonneg (a * (n : Int) + b) (show m ≠ 0 by omega)
  have r1 := Int.emod_lt_of_pos (a * (n : Int) + b) hm
  have d : ∀ c : Int, 0 ≤ c → c ≤ m → (a * (n : Int) + (b - c)) / m = (a * (n : Int) + b) / m - (if (a * (n : Int) + b) % m < c then 1 else 0) := by
    intro c c0 c1
    split
    · exact ediv_is hm (by grind) (by grind)
    · exact ediv_is hm (by grind) (by grind)
  unfold cn Ht
  rw [fs_succ, fs_succ, d lo l0 (by omega), d hi (by omega) hh]
  constructor
  · rintro ⟨g1, g2⟩
    rw [if_neg (by omega), if_pos g2]
    omega
  · intro g
    by_cases z : (a * (n : Int) + b) % m < lo
    · rw [if_pos z, if_pos (by omega)]
      omega
    · rw [if_neg z, if_neg (by omega)]
      omega
theorem cn_none {a b lo hi m : Int} (hm : 0 < m) (l0 : 0 ≤ lo) (lh : lo ≤ hi) (hh : hi ≤ m) : ∀ n : Nat, (∀ k : Int, 0 ≤ k → k < n → ¬ Ht a b m lo hi k) → cn n a b m lo hi = 0
  | 0, _ => cn_zero ..
  | n + 1, h => by
    rw [(cn_step n hm l0 lh hh).2 (h n (by omega) (by omega))]
    exact cn_none hm l0 lh hh n fun k k0 k1 => h k k0 (by omega)
theorem cn_mono {a b lo hi m : Int} (hm : 0 < m) (l0 : 0 ≤ lo) (lh : lo ≤ hi) (hh : hi ≤ m) (n : Nat) : ∀ k : Nat, cn n a b m lo hi ≤ cn (n + k) a b m lo hi
  | 0 => Int.le_refl _
  | k + 1 => by
    have := cn_mono (a := a) (b := b) hm l0 lh hh n k
    by_cases z : Ht a b m lo hi ((n + k : Nat) : Int)
    · have := (cn_step (n + k) hm l0 lh hh).1 z
      rw [show n + (k + 1) = n + k + 1 by omega]
      omega
    · have := (cn_step (n + k) hm l0 lh hh).2 z
      rw [show n + (k + 1) = n + k + 1 by omega]
      omega
theorem cn_some {a b lo hi m k : Int} (hm : 0 < m) (l0 : 0 ≤ lo) (lh : lo ≤ hi) (hh : hi ≤ m) (k0 : 0 ≤ k) (w : Ht a b m lo hi k) {n : Nat} (h : k < n) : 0 < cn n a b m lo hi := by
  obtain ⟨K, rfl⟩ : ∃ K : Nat, k = K := ⟨k.toNat, by omega⟩
  have h1 := (cn_step K hm l0 lh hh).1 w
  have h2 := cn_mono (a := a) (b := b) hm l0 lh hh 0 K
  have h3 := cn_mono (a := a) (b := b) hm l0 lh hh (K + 1) (n - (K + 1))
  rw [show K + 1 + (n - (K + 1)) = n by omega] at h3
  rw [cn_zero, Nat.zero_add] at h2
  omega
/-- a period -/
theorem per_eq (a : Int) {m : Int} (hm : 0 < m) : a * (lsM a m) = lsA a m * m := by
  have h1 := lsA_mul a m
  have h2 := lsM_mul a m
  generalize lsA a m = A at *
  generalize lsM a m = M at *
  generalize (Int.gcd a m : Int) = g at *
  subst h1
  subst h2
  grind
theorem Ht_per {a b m lo hi k q : Int} (hm : 0 < m) : Ht a b m lo hi (q * lsM a m + k) ↔ Ht a b m lo hi k := by
  unfold Ht
  have h := per_eq a hm
  rw [show a * (q * lsM a m + k) + b = a * k + b + m * (q * lsA a m) by
    rw [Int.mul_add, show a * (q * lsM a m) = q * (a * lsM a m) by grind, h]
    grind, Int.add_mul_emod_self_left]
/-- the hit by its number -/
theorem hit_at {a b m lo hi n less : Int} (hm : 0 < m) (l0 : 0 ≤ lo) (lh : lo ≤ hi) (hh : hi ≤ m) (n0 : 0 ≤ n) (b0 : 0 ≤ less) (e0 : 0 < cn (lsM a m).toNat a b m lo hi)
    (h1 : cn less.toNat a b m lo hi ≤ n % cn (lsM a m).toNat a b m lo hi) (h2 : n % cn (lsM a m).toNat a b m lo hi < cn (less.toNat + 1) a b m lo hi) :
    0 ≤ n / cn (lsM a m).toNat a b m lo hi * lsM a m + less ∧ Ht a b m lo hi (n / cn (lsM a m).toNat a b m lo hi * lsM a m + less) ∧ cn (n / cn (lsM a m).toNat a b m lo hi * lsM a m + less).toNat a b m lo hi = n := by
  have M0 := lsM_pos (a := a) hm
  have pe := per_eq a hm
  have hp := cn_per (P := (lsM a m).toNat) (a := a) (b := b) (c := lsA a m) (lo := lo) (hi := hi) hm (by rw [show (((lsM a m).toNat : Nat) : Int) = lsM a m by omega]; exact pe)
  have hi1 : Ht a b m lo hi less := by
    by_cases z : Ht a b m lo hi ((less.toNat : Nat) : Int)
    · rw [show ((less.toNat : Nat) : Int) = less by omega] at z
      exact z
    · have := (cn_step less.toNat hm l0 lh hh).2 z
      omega
  have ez := (cn_step (a := a) (b := b) less.toNat hm l0 lh hh).1 (by rw [show ((less.toNat : Nat) : Int) = less by omega]; exact hi1)
  have ed := Int.emod_add_mul_ediv n (cn (lsM a m).toNat a b m lo hi)
  have q0 : 0 ≤ n / cn (lsM a m).toNat a b m lo hi := Int.ediv_nonneg n0 (by omega)
  generalize hE : cn (lsM a m).toNat a b m lo hi = E at *
  generalize n / E = q at *
  have qp : 0 ≤ q * lsM a m := Int.mul_nonneg q0 (by omega)
  refine ⟨by omega, (Ht_per hm).mpr hi1, ?_⟩
  have h3 := hp q.toNat less.toNat
  have e4 : (q * lsM a m + less).toNat = q.toNat * (lsM a m).toNat + less.toNat := by
    have : ((q.toNat * (lsM a m).toNat : Nat) : Int) = q * lsM a m := by
      rw [Int.natCast_mul, show ((q.toNat : Nat) : Int) = q by omega, show (((lsM a m).toNat : Nat) : Int) = lsM a m by omega]
    omega
  rw [e4, h3, show ((q.toNat : Nat) : Int) = q by omega]
  rw [Int.mul_comm E q] at ed
  omega
theorem cn_m {a b m lo hi : Int} (hm : 0 < m) (e : cn (lsM a m).toNat a b m lo hi = 0) : cn m.toNat a b m lo hi = 0 := by
  have M0 := lsM_pos (a := a) hm
  have pe := per_eq a hm
  have hp := cn_per (P := (lsM a m).toNat) (a := a) (b := b) (c := lsA a m) (lo := lo) (hi := hi) hm (by rw [show (((lsM a m).toNat : Nat) : Int) = lsM a m by omega]; exact pe) (Int.gcd a m) 0
  rw [e, cn_zero, Nat.add_zero, Int.mul_zero, Int.add_zero] at hp
  have h2 := lsM_mul a m
  rw [show m.toNat = Int.gcd a m * (lsM a m).toNat by
    have : ((Int.gcd a m * (lsM a m).toNat : Nat) : Int) = lsM a m * (Int.gcd a m : Int) := by
      rw [Int.natCast_mul, show (((lsM a m).toNat : Nat) : Int) = lsM a m by omega, Int.mul_comm]
    omega]
  exact hp
theorem cn_le {a b lo hi m : Int} (hm : 0 < m) (l0 : 0 ≤ lo) (lh : lo ≤ hi) (hh : hi ≤ m) : ∀ n : Nat, cn n a b m lo hi ≤ n
  | 0 => by
    rw [cn_zero]
    omega
  | n + 1 => by
    have := cn_le (a := a) (b := b) hm l0 lh hh n
    by_cases z : Ht a b m lo hi n
    · have := (cn_step n hm l0 lh hh).1 z
      omega
    · have := (cn_step n hm l0 lh hh).2 z
      omega
theorem FH_all {a b m lo hi : Int} (hm : 0 < m) (f : FH a b m lo hi none) (k : Int) : ¬ Ht a b m lo hi k := by
  intro w
  refine f (k + m * (k.natAbs : Int)) ?_ (Ht_period.mpr w)
  have h1 : 1 * (k.natAbs : Int) ≤ m * (k.natAbs : Int) := Int.mul_le_mul_of_nonneg_right (by omega) (by omega)
  omega
theorem Ht_move {a b m lo hi j p : Int} : Ht a (a * p + b) m lo hi j ↔ Ht a b m lo hi (p + j) := by
  unfold Ht
  rw [show a * j + (a * p + b) = a * (p + j) + b by grind]
theorem FH_cn0 {a b m lo hi k : Int} (hm : 0 < m) (l0 : 0 ≤ lo) (lh : lo ≤ hi) (hh : hi ≤ m) (f : FH a b m lo hi (some k)) : cn k.toNat a b m lo hi = 0 :=
  cn_none hm l0 lh hh _ fun j j0 jk => f.2.2 j j0 (by have := f.1; omega)

--@ needs Hit
/-- none or a number -/
def vO : Option Int → V
  | none => .non
  | some k => .int k
theorem vO_some {v : Option Int} {k : Int} (h : v = some k) : vO v = .int k := by rw [h]; rfl

--@ needs C_Walker
--@ needs Sum
--@ needs HitV
/-- a walker at p, its stair (a, b, m) at s, where it stood ahead at l -/
structure WkAt (C : Addr) (H : Hp) (p s l : Addr) (a b m k : Int) (fo : List Int) : Prop where
  ob : ∃ dx, H p = some (.ins C dx (fs_Walker (.ref s) (.int k) (.ref l)))
  st : H s = some (.tup [.int a, .int b, .int m])
  li : H l = some (.lst (fo.map V.int))
theorem WkAt.ex {C : Addr} {H H' : Hp} {p s l : Addr} {a b m k : Int} {fo : List Int} (W : WkAt C H p s l a b m k fo) (e : Ex H H') : WkAt C H' p s l a b m k fo := by
  obtain ⟨⟨dx, h1⟩, h2, h3⟩ := W
  exact ⟨⟨dx, e _ _ h1⟩, e _ _ h2, e _ _ h3⟩
theorem WkAt.kp {C : Addr} {H H' : Hp} {p s l d : Addr} {a b m k : Int} {fo : List Int} (W : WkAt C H p s l a b m k fo) (kp : Kp d H H') (D : Dr H d) (n : l ≠ d) : WkAt C H' p s l a b m k fo := by
  obtain ⟨⟨dx, h1⟩, h2, h3⟩ := W
  obtain ⟨x, y, e, _⟩ := id D
  exact ⟨⟨dx, kp _ _ (ne_of h1 e (by intro z; cases z)) h1⟩, kp.tup D h2, kp _ _ n h3⟩
/-- another list is changed -/
theorem WkAt.kpL {C : Addr} {H H' : Hp} {p s l d : Addr} {a b m k : Int} {fo : List Int} {ys : List V} (W : WkAt C H p s l a b m k fo) (kp : Kp d H H') (D : H d = some (.lst ys)) (n : l ≠ d) : WkAt C H' p s l a b m k fo := by
  obtain ⟨⟨dx, h1⟩, h2, h3⟩ := W
  exact ⟨⟨dx, kp _ _ (ne_of h1 D (by intro z; cases z)) h1⟩, kp.tupL D h2, kp _ _ n h3⟩
/-- another walker is changed -/
theorem WkAt.kq {C : Addr} {H H' : Hp} {p s l p2 s2 l2 : Addr} {a b m k a2 b2 m2 k2 : Int} {fo fo2 : List Int} (W : WkAt C H p s l a b m k fo) (kq : Kq [p2, l2] H H') (W2 : WkAt C H p2 s2 l2 a2 b2 m2 k2 fo2) (n : p ≠ p2) (nl : l ≠ l2) : WkAt C H' p s l a b m k fo := by
  obtain ⟨⟨dx, h1⟩, h2, h3⟩ := W
  obtain ⟨⟨dx2, g1⟩, g2, g3⟩ := W2
  refine ⟨⟨dx, kq _ _ ?_ h1⟩, kq _ _ ?_ h2, kq _ _ ?_ h3⟩
  · simp only [List.mem_cons, List.not_mem_nil, or_false, not_or]
    exact ⟨n, ne_of h1 g3 (by intro z; cases z)⟩
  · simp only [List.mem_cons, List.not_mem_nil, or_false, not_or]
    exact ⟨ne_of h2 g1 (by intro z; cases z), ne_of h2 g3 (by intro z; cases z)⟩
  · simp only [List.mem_cons, List.not_mem_nil, or_false, not_or]
    exact ⟨ne_of h3 g1 (by intro z; cases z), nl⟩
/-- what a walker's deed leaves as it was -/
theorem WkAt.tup {C : Addr} {H H' : Hp} {p s l q : Addr} {a b m k : Int} {fo : List Int} {xs : List V} (W : WkAt C H p s l a b m k fo) (kq : Kq [p, l] H H') (h : H q = some (.tup xs)) : H' q = some (.tup xs) := by
  obtain ⟨⟨dx, h1⟩, h2, h3⟩ := W
  refine kq _ _ ?_ h
  simp only [List.mem_cons, List.not_mem_nil, or_false, not_or]
  exact ⟨ne_of h h1 (by intro z; cases z), ne_of h h3 (by intro z; cases z)⟩
theorem WkAt.lst {C : Addr} {H H' : Hp} {p s l q : Addr} {a b m k : Int} {fo : List Int} {xs : List V} (W : WkAt C H p s l a b m k fo) (kq : Kq [p, l] H H') (n : q ≠ l) (h : H q = some (.lst xs)) : H' q = some (.lst xs) := by
  obtain ⟨⟨dx, h1⟩, h2, h3⟩ := W
  refine kq _ _ ?_ h
  simp only [List.mem_cons, List.not_mem_nil, or_false, not_or]
  exact ⟨ne_of h h1 (by intro z; cases z), n⟩
/-- sizes of a walker's numbers -/
structure WkZ (a b m k : Int) : Prop where
  m0 : 0 < m
  za : Sz 900 a
  zb : Sz 900 b
  zm : Sz 200 m
  k0 : 0 ≤ k
  zk : Sz 900 k

def sp_Walker___init__ (_ : PySem.W.Frag) (C : Addr) : Sp := fun vs H Q _ => ∃ (x p dx : Addr) (a b m : Int), vs = [.ref x, .ref p] ∧ H x = some (.ins C dx []) ∧ H p = some (.tup [.int a, .int b, .int m]) ∧ 0 < m ∧
  ∀ l H', H l = none → Kp x H H' → WkAt C H' x p l a b m 0 [] → Q .non H'
theorem use_Walker___init__ {K : PySem.W.Frag} {C : Addr} {H : Hp} {Q : VK} {E : XK} {x p dx : Addr} {a b m : Int} (hx : H x = some (.ins C dx [])) (hp : H p = some (.tup [.int a, .int b, .int m])) (hm : 0 < m)
    (q : ∀ l H', H l = none → Kp x H H' → WkAt C H' x p l a b m 0 [] → Q .non H') : sp_Walker___init__ K C [.ref x, .ref p] H Q E := ⟨x, p, dx, a, b, m, rfl, hx, hp, hm, q⟩
abbrev s_Walker___init__ : Stmt := inClass (topS 40) 0
abbrev nm_Walker___init__ : List Str := ["self", "stair"]
theorem sc_Walker___init__ : FnScope nm_Walker___init__ ["self", "stair"] (defScope s_Walker___init__) := ⟨rfl, rfl, rfl, by decide +kernel, rfl, by decide +kernel, by decide +kernel⟩
theorem st_Walker___init__ {v0 v1 : V} : start nm_Walker___init__ [v0, v1] = [some v0, some v1] := rfl
section
variable {P : Program} {w : World} {K : PySem.W.Frag} {mg : Str → Option Value} {base : Heap} {c : Cl}
theorem ok_Walker___init__ {C_Walker : Addr} (D : IniAt K C_Walker "Walker.__init__" s_Walker___init__ ["self", "stair"]) (U_Walker : TxC K mg "Walker" C_Walker ["stair", "at", "former"]) (G_need_stair : Has P w K mg base CX0 4 "need_stair" ["thing"] (sp_need_stair K)) : HasI P w K mg base CX0 5 C_Walker ["self", "stair"] (sp_Walker___init__ K C_Walker) := by
  refine D.ok sc_Walker___init__ (by rintro _ _ _ _ ⟨_, _, _, _, _, _, rfl, _⟩; rfl) (fun f cdv A outer s H vs Q E hr h => ?_)
  obtain ⟨cl_Walker, mg_Walker, n_Walker_stair, n_Walker_at, n_Walker_former, _⟩ := U_Walker
  obtain ⟨x, p, dx, a, b, m, rfl, hx, hp, hm, q⟩ := h
  refine ⟨_, (pss_cons (ps_expr (pcall G_need_stair (hr.mono (by decide)) (pa_cons (pv 1) pa_nil)))
      (pss_cons (ps_fld (pv 0) (pv 1) rfl)
      (pss_cons (ps_fld (pv 0) pe_int rfl)
      (pss_one (ps_fld (pv 0) (pe_lst pa_nil) rfl))))), ?_⟩
  rw [st_Walker___init__]
  try dsimp only [Cx.nox, Cx.wish, Cx.blk, cx_K, cxH_K]
  walk_at "go"
  refine use_need_stair hp hm fun H1 e1 => ?_
  walk_at "go"
  have px : p ≠ x := ne_of hp hx (by intro z; cases z)
  refine r_fldW (e1.at hx) cl_Walker n_Walker_stair (by show 0 < 1000; decide) rfl fun H2 k2 h2 => ?_
  walk_at "go"
  refine r_fldW h2 cl_Walker n_Walker_at (by show 1 < 1000; decide) rfl fun H3 k3 h3 => ?_
  walk_at "go"
  rename_i l H4 n4 e4 h4
  refine r_fldW (e4.at h3) cl_Walker n_Walker_former (by show 2 < 1000; decide) rfl fun H5 k5 h5 => ?_
  walk_at "go"
  rw [mk_Walker] at h5
  have lx : l ≠ x := fun z => by
    rw [z, h3] at n4
    cases n4
  have k13 := k2.trans k3
  refine q l H5 ?_ ((e1.kp.trans k13).trans (e4.kp.trans k5)) ⟨⟨dx, h5⟩, k5 _ _ px (e4.at (k13 _ _ px (e1.at hp))), k5 _ _ lx h4⟩
  cases hl : H l with
  | none => rfl
  | some o =>
    rw [k13 _ _ lx (e1.at hl)] at n4
    cases n4

end
def sp_law_some_bounds (_ : PySem.W.Frag) : Sp := fun vs H Q _ => ∃ (p d : Addr) (a b m : Int), vs = [.ref p, .ref d] ∧ H p = some (.tup [.int a, .int b, .int m]) ∧ 0 < m ∧ Sz 2900 a ∧ Sz 200 m ∧ Dr H d ∧
  ∀ t lo hi H', 0 ≤ lo → lo ≤ hi → hi ≤ m → Kp d H H' → Dr H' d → H' t = some (.tup [.int lo, .int hi]) → Q (.ref t) H'
theorem use_law_some_bounds {K : PySem.W.Frag} {H : Hp} {Q : VK} {E : XK} {p d : Addr} {a b m : Int} (hp : H p = some (.tup [.int a, .int b, .int m])) (hm : 0 < m) (za : Sz 2900 a) (zm : Sz 200 m) (D : Dr H d)
  (q : ∀ t lo hi H', 0 ≤ lo → lo ≤ hi → hi ≤ m → Kp d H H' → Dr H' d → H' t = some (.tup [.int lo, .int hi]) → Q (.ref t) H') : sp_law_some_bounds K [.ref p, .ref d] H Q E := ⟨p, d, a, b, m, rfl, hp, hm, za, zm, D, q⟩
abbrev s_law_some_bounds : Stmt := topS 45
abbrev nm_law_some_bounds : List Str := ["stair", "draws", "m", "some", "low", "high"]
theorem sc_law_some_bounds : FnScope nm_law_some_bounds ["stair", "draws"] (defScope s_law_some_bounds) := ⟨rfl, rfl, rfl, by decide +kernel, rfl, by decide +kernel, by decide +kernel⟩
theorem st_law_some_bounds {v0 v1 : V} : start nm_law_some_bounds [v0, v1] = [some v0, some v1, none, none, none, none] := rfl
section
variable {P : Program} {w : World} {K : PySem.W.Frag} {mg : Str → Option Value} {base : Heap} {c : Cl}
theorem ok_law_some_bounds (D : DefAt K mg "_law_some_bounds" s_law_some_bounds ["stair", "draws"]) (B_sorted : mg "sorted" = none) (B_min : mg "min" = none) (G__law_draw : Has P w K mg base CX0 2 "_law_draw" ["draws", "many"] (sp_law_draw K)) : Has P w K mg base CX0 3 "_law_some_bounds" ["stair", "draws"] (sp_law_some_bounds K) := by
  refine D.ok sc_law_some_bounds (by rintro _ _ _ _ ⟨_, _, _, _, _, rfl, _⟩; rfl) (fun f cdv A outer s H vs Q E hr h => ?_)
  obtain ⟨p, d, a, b, m, rfl, hp, hm, za, zm, D, q⟩ := h
  refine ⟨_, (pss_cons (ps_set (i := 2) sc_law_some_bounds.nd rfl (Or.inl rfl) (pe_ix ix_tup (pv 0) pe_int (fun _ _ => rfl)))
      (pss_cons (ps_set (i := 3) sc_law_some_bounds.nd rfl (Or.inl rfl) (pe_lst (pa_cons (pcall G__law_draw (hr.mono (by decide)) (pa_cons (pv 1) (pa_cons (pe_op op_add (pv 2) pe_int) pa_nil))) (pa_cons (pcall G__law_draw (hr.mono (by decide)) (pa_cons (pv 1) (pa_cons (pe_op op_add (pv 2) pe_int) pa_nil))) (pa_cons pe_int (pa_cons (pv 2) (pa_cons (pe_op op_mod (pe_op op_add (pe_op op_mulX (pe_ix ix_tup (pv 0) pe_int (fun _ _ => rfl)) (pcall G__law_draw (hr.mono (by decide)) (pa_cons (pv 1) (pa_cons pe_int pa_nil)))) (pe_ix ix_tup (pv 0) pe_int (fun _ _ => rfl))) (pv 2)) pa_nil)))))))
      (pss_cons (ps_asg (pe_callB cr_sortedI (by rfl) B_sorted (by decide +kernel) (pa_cons (pe_lst (pa_cons (pe_ix ix_list (pv 3) (pcall G__law_draw (hr.mono (by decide)) (pa_cons (pv 1) (pa_cons pe_int pa_nil))) (fun _ _ => rfl)) (pa_cons (pe_ix ix_list (pv 3) (pcall G__law_draw (hr.mono (by decide)) (pa_cons (pv 1) (pa_cons pe_int pa_nil))) (fun _ _ => rfl)) pa_nil))) pa_nil)) (pg_lst (by rfl) (pgs_cons (pg_name (i := 4) sc_law_some_bounds.nd rfl (Or.inl rfl)) (pgs_cons (pg_name (i := 5) sc_law_some_bounds.nd rfl (Or.inl rfl)) pgs_nil))))
      (pcut (ps_if (pt_cmpR op_eq (pcall G__law_draw (hr.mono (by decide)) (pa_cons (pv 1) (pa_cons pe_int pa_nil))) pe_int (nomark _)) (pss_one (ps_set (i := 5) sc_law_some_bounds.nd rfl (Or.inl rfl) (pe_callB (cl_min2 rfl) (by rfl) B_min (by decide +kernel) (pa_cons (pv 2) (pa_cons (pe_op op_add (pe_op op_add (pv 4) pe_int) (pcall G__law_draw (hr.mono (by decide)) (pa_cons (pv 1) (pa_cons pe_int pa_nil)))) pa_nil))))) pss_nil)
      (pss_one (ps_ret (pe_tup (pa_cons (pv 4) (pa_cons (pv 5) pa_nil))))))))), ?_⟩
  rw [st_law_some_bounds]
  try dsimp only [Cx.nox, Cx.wish, Cx.blk, cx_K, cxH_K]
  walk_at "go"
  have zm1 : Sz 201 (m + 1) := by
    have h : m.natAbs < 2 ^ 200 := zm
    show (m + 1).natAbs < 2 ^ 201
    omega
  refine use_law_draw D (by omega) (zm1.mono (by decide)) fun x1 H1 x10 x11 k1 D1 => ?_
  walk_at "go"
  refine use_law_draw D1 (by omega) (zm1.mono (by decide)) fun x2 H2 x20 x21 k2 D2 => ?_
  have K2 := k1.trans k2
  have hp2 := K2.tup D hp
  clear k1 k2 D1
  walk_at "go"
  refine use_law_draw D2 (by decide) (by walk_at "szm") fun x3 H3 x30 x31 k3 D3 => ?_
  have K3 := K2.trans k3
  have hp3 := k3.tup D2 hp2
  have zx3 : Sz 200 x3 := Sz.small (by omega)
  clear k3 D2 K2 hp2
  walk_at "go"
  rename_i t4 H4 n4 e4 h4
  have y0 := Int.emod_nonneg (a * x3 + b) (show m ≠ 0 by omega)
  have y1 := Int.emod_lt_of_pos (a * x3 + b) hm
  generalize (a * x3 + b) % m = y at *
  have nd4 := D3.free n4
  refine use_law_draw (D3.up e4) (by decide) (by walk_at "szm") fun x5 H5 x50 x51 k5 D5 => ?_
  have h5 := k5 _ _ nd4 h4
  have K5 := (K3.trans e4.kp).trans k5
  clear k5 e4 n4 h4 D3 K3
  have five : ∀ i : Int, 0 ≤ i → i < 5 → ∃ z, atI [V.int x1, V.int x2, V.int 0, V.int m, V.int y] i = some (.int z) ∧ 0 ≤ z ∧ z ≤ m := by
    intro i i0 i1
    obtain rfl | rfl | rfl | rfl | rfl : i = 0 ∨ i = 1 ∨ i = 2 ∨ i = 3 ∨ i = 4 := by omega
    · exact ⟨_, rfl, by omega, by omega⟩
    · exact ⟨_, rfl, by omega, by omega⟩
    · exact ⟨_, rfl, by omega, by omega⟩
    · exact ⟨_, rfl, by omega, by omega⟩
    · exact ⟨_, rfl, by omega, by omega⟩
  walk_at "go"
  obtain ⟨z5, hz5, z50, z51⟩ := five x5 x50 x51
  refine r_ixL (SqL.of h5) hz5 ?_
  walk_at "go"
  refine use_law_draw D5 (by decide) (by walk_at "szm") fun x6 H6 x60 x61 k6 D6 => ?_
  have h6 := k6 _ _ nd4 h5
  have K6 := K5.trans k6
  clear k6 h5 D5 K5
  walk_at "go"
  obtain ⟨z6, hz6, z60, z61⟩ := five x6 x60 x61
  refine r_ixL (SqL.of h6) hz6 ?_
  walk_at "go"
  rename_i t7 H7 n7 e7 h7
  refine r_sortI (ns := [z5, z6]) (SqL.of h7) fun ns' l8 H8 pe pw n8 e8 h8 => ?_
  have es := sort_2 pe pw
  subst es
  have h8' : H8 l8 = some (.lst [.int (min z5 z6), .int (max z5 z6)]) := h8
  have D8 := (D6.up e7).up e8
  have K8 := (K6.trans e7.kp).trans e8.kp
  generalize hlo : min z5 z6 = lo at *
  generalize hhi : max z5 z6 = hi at *
  have b0 : 0 ≤ lo := by omega
  have b1 : lo ≤ hi := by omega
  have b2 : hi ≤ m := by omega
  clear e7 e8 n7 n8 h7 h6 D6 K6 hlo hhi pe pw h8 hz5 hz6
  walk_at "go"
  refine r_cut (fun σ' H' => ∃ (hi : Int) (o2 o3 : Option V), σ' = [some (.ref p), some (.ref d), o2, o3, some (.int lo), some (.int hi)] ∧ lo ≤ hi ∧ hi ≤ m ∧ Kp d H H' ∧ Dr H' d) ?_ ?_
  · walk_at "go"
    refine use_law_draw D8 (by decide) (by walk_at "szm") fun x9 H9 x90 x91 k9 D9 => ?_
    walk_at "go"
    refine if_2 (fun hx => ?_) (fun hx => ?_)
    · walk_at "go"
      refine use_law_draw D9 (by decide) (by walk_at "szm") fun x10 H10 x100 x101 k10 D10 => ?_
      walk_at "go"
      exact ⟨_, _, _, rfl, by omega, by omega, (K8.trans k9).trans k10, D10⟩
    · walk_at "go"
      exact ⟨hi, _, _, rfl, b1, b2, K8.trans k9, D9⟩
  · rintro σ' H' ⟨hi, o2, o3, rfl, c1, c2, K, D'⟩
    walk_at "go"
    rename_i t11 H11 n11 e11 h11
    exact q _ _ _ _ b0 c1 c2 (K.trans e11.kp) (D'.up e11) h11

end
--@ needs WkV
/-- the walk's state: the walker, the list of all places -/
structure W42 (C : Addr) (H0 H : Hp) (p s l lp : Addr) (a b m k : Int) (fo : List Int) : Prop where
  e : Ex H0 H
  w : WkAt C H p s l a b m k fo
  pa : H lp = some (.lst ((fo ++ [k]).map V.int))
theorem W42.dr {C : Addr} {H0 H H' : Hp} {p s l lp d : Addr} {a b m k : Int} {fo : List Int} (S : W42 C H0 H p s l lp a b m k fo) (kp : Kp d H H') (D : Dr H d) (nd : H0 d = none) (n1 : l ≠ d) (n2 : lp ≠ d) : W42 C H0 H' p s l lp a b m k fo :=
  ⟨S.e.kpd nd kp, S.w.kp kp D n1, kp _ _ n2 S.pa⟩
theorem W42.ex {C : Addr} {H0 H H' : Hp} {p s l lp : Addr} {a b m k : Int} {fo : List Int} (S : W42 C H0 H p s l lp a b m k fo) (e : Ex H H') : W42 C H0 H' p s l lp a b m k fo := ⟨S.e.trans e, S.w.ex e, e _ _ S.pa⟩
/-- the deed, then the list -/
theorem W42.deed {C : Addr} {H0 H H1 H2 : Hp} {p s l lp : Addr} {a b m k k' : Int} {fo fo' : List Int} (S : W42 C H0 H p s l lp a b m k fo) (kq : Kq [p, l] H H1) (W1 : WkAt C H1 p s l a b m k' fo') (fr : H0 p = none) (fl : H0 l = none) (flp : H0 lp = none) (nl : lp ≠ l) (kp : Kp lp H1 H2) (h : H2 lp = some (.lst ((fo' ++ [k']).map V.int))) : W42 C H0 H2 p s l lp a b m k' fo' := by
  have h1 := S.w.lst kq nl S.pa
  refine ⟨fun x o hx => ?_, W1.kpL kp h1 nl.symm, h⟩
  refine kp _ _ (ne_of_none hx flp) (kq _ _ ?_ (S.e _ _ hx))
  simp only [List.mem_cons, List.not_mem_nil, or_false, not_or]
  exact ⟨ne_of_none hx fr, ne_of_none hx fl⟩
/-- what stands at H0 is kept by a deed -/
theorem kq_keep {H0 H H' : Hp} {p l : Addr} (kq : Kq [p, l] H H') (e : Ex H0 H) (fp : H0 p = none) (fl : H0 l = none) : Ex H0 H' := fun x o hx => by
  refine kq _ _ ?_ (e _ _ hx)
  simp only [List.mem_cons, List.not_mem_nil, or_false, not_or]
  exact ⟨ne_of_none hx fp, ne_of_none hx fl⟩

--@ needs Often Hit
/-! rests within bounds, one by one -/
theorem cn_list {a b m lo hi : Int} (hm : 0 < m) (l0 : 0 ≤ lo) (lh : lo ≤ hi) (hh : hi ≤ m) : ∀ n : Nat, ((((List.range n).map fun (i : Nat) => (a * (i : Int) + b) % m).filter fun r => decide (lo ≤ r) && decide (r < hi)).length : Int) = cn n a b m lo hi
  | 0 => by rw [cn_zero]; rfl
  | n + 1 => by
    rw [List.range_succ, List.map_append, List.filter_append, List.length_append, Int.natCast_add, cn_list hm l0 lh hh n]
    obtain ⟨s1, s2⟩ := cn_step n (a := a) (b := b) hm l0 lh hh
    by_cases h : Ht a b m lo hi n
    · rw [s1 h]
      have h' : lo ≤ (a * (n : Int) + b) % m ∧ (a * (n : Int) + b) % m < hi := h
      simp [h'.1, h'.2]
    · rw [s2 h]
      have h' : ¬ (lo ≤ (a * (n : Int) + b) % m ∧ (a * (n : Int) + b) % m < hi) := h
      by_cases h1 : lo ≤ (a * (n : Int) + b) % m
      · have h2 : ¬ (a * (n : Int) + b) % m < hi := fun z => h' ⟨h1, z⟩
        simp [h1, h2]
      · simp [h1]

--@ needs Hit OftenL
/-! hits, one by one -/
theorem FH_uniq {a b m lo hi : Int} {v w : Option Int} (h1 : FH a b m lo hi v) (h2 : FH a b m lo hi w) : v = w := by
  cases v with
  | none =>
    cases w with
    | none => rfl
    | some k => exact (h1 k h2.1 h2.2.1).elim
  | some j =>
    cases w with
    | none => exact (h2 j h1.1 h1.2.1).elim
    | some k =>
      have q1 : ¬ k < j := fun z => h1.2.2 k h2.1 z h2.2.1
      have q2 : ¬ j < k := fun z => h2.2.2 j h1.1 z h1.2.1
      rw [show j = k by omega]
theorem FH_period {a b m lo hi : Int} (hm : 0 < m) (h : ∀ k : Int, 0 ≤ k → k < m → ¬ Ht a b m lo hi k) : FH a b m lo hi none := by
  intro k k0 w
  have e := Int.emod_add_mul_ediv k m
  refine h (k % m) (Int.emod_nonneg k (by omega)) (Int.emod_lt_of_pos k hm) ?_
  rw [← e] at w
  exact Ht_period.mp w
instance {a b m lo hi k : Int} : Decidable (Ht a b m lo hi k) := by unfold Ht; exact inferInstance
def hts' (a b m lo hi : Int) (N : Nat) : List Nat := (List.range N).filter fun i => decide (Ht a b m lo hi (i : Int))
theorem hts_cn {a b m lo hi : Int} (hm : 0 < m) (l0 : 0 ≤ lo) (lh : lo ≤ hi) (hh : hi ≤ m) : ∀ n : Nat, ((hts' a b m lo hi n).length : Int) = cn n a b m lo hi
  | 0 => by rw [cn_zero]; rfl
  | n + 1 => by
    have ih := hts_cn (a := a) (b := b) hm l0 lh hh n
    unfold hts' at ih ⊢
    rw [List.range_succ, List.filter_append, List.length_append, Int.natCast_add, ih]
    obtain ⟨s1, s2⟩ := cn_step n (a := a) (b := b) hm l0 lh hh
    by_cases h : Ht a b m lo hi n
    · rw [s1 h]
      simp [h]
    · rw [s2 h]
      simp [h]
theorem hts_at {a b m lo hi : Int} (hm : 0 < m) (l0 : 0 ≤ lo) (lh : lo ≤ hi) (hh : hi ≤ m) {N h : Nat} (w : Ht a b m lo hi h) (l : cn h a b m lo hi < (hts' a b m lo hi N).length) : (hts' a b m lo hi N)[(cn h a b m lo hi).toNat]? = some h := by
  rw [hts_cn hm l0 lh hh] at l
  have hN : h < N := by
    refine Nat.lt_of_not_le fun z => ?_
    have := cn_mono (a := a) (b := b) hm l0 lh hh N (h - N)
    rw [show N + (h - N) = h by omega] at this
    omega
  obtain ⟨r, hr⟩ : ∃ r, List.range N = List.range h ++ h :: r := by
    refine ⟨(List.range (N - (h + 1))).map (h + 1 + ·), ?_⟩
    rw [show N = (h + 1) + (N - (h + 1)) by omega, List.range_add, List.range_succ]
    simp
  have hl : ((hts' a b m lo hi h).length) = (cn h a b m lo hi).toNat := by
    have := hts_cn (a := a) (b := b) hm l0 lh hh h
    omega
  have e : hts' a b m lo hi N = hts' a b m lo hi h ++ h :: (r.filter fun i => decide (Ht a b m lo hi (i : Int))) := by
    unfold hts'
    rw [hr, List.filter_append, List.filter_cons_of_pos (by simp [w])]
  rw [e, List.getElem?_append_right (by omega), hl, Nat.sub_self]
  rfl
theorem hts_nil {a b m lo hi : Int} (hm : 0 < m) {N : Nat} (hN : m ≤ N) (e : hts' a b m lo hi N = []) (k : Int) : ¬ Ht a b m lo hi k := by
  refine FH_all hm (FH_period hm fun j j0 jm w => ?_) k
  have : j.toNat ∈ hts' a b m lo hi N := by
    unfold hts'
    rw [List.mem_filter]
    exact ⟨List.mem_range.mpr (by omega), decide_eq_true (by rw [show ((j.toNat : Nat) : Int) = j by omega]; exact w)⟩
  rw [e] at this
  cases this
theorem hts_no {a b m lo hi : Int} {N : Nat} (h : ∀ k : Int, ¬ Ht a b m lo hi k) : hts' a b m lo hi N = [] := by
  unfold hts'
  rw [List.filter_eq_nil_iff]
  intro x _
  simp [h]
theorem cn_no {a b m lo hi : Int} (hm : 0 < m) (l0 : 0 ≤ lo) (lh : lo ≤ hi) (hh : hi ≤ m) (e : cn m.toNat a b m lo hi = 0) (k : Int) : ¬ Ht a b m lo hi k := by
  refine FH_all hm (FH_period hm fun j j0 jm w => ?_) k
  have := cn_some hm l0 lh hh j0 w (n := m.toNat) (by omega)
  omega

--@ needs W42
--@ needs HitL
/-- a walker's deed -/
inductive DD where
  | go (n : Int)
  | find (lo hi : Int)
  | back
def DD.v : DD → List V
  | .go n => [.str "go", .int n]
  | .find lo hi => [.str "find", .int lo, .int hi]
  | .back => [.str "back"]
/-- what is told of a deed, and where it leaves the walker -/
inductive Out (a b m k : Int) (fo : List Int) : DD → List Fd → Int → List Int → Prop where
  | go {n : Int} (h0 : 0 ≤ n) (h1 : n < 1000000000000000000000000000000) : Out a b m k fo (.go n) [.i (fs n.toNat a (a * k + b) m), .s ""] (k + n) (fo ++ [k])
  | goX {n : Int} (h : n < 0 ∨ 1000000000000000000000000000000 ≤ n) : Out a b m k fo (.go n) [.s "none", .s "NoCount+"] k fo
  | no {lo hi : Int} (h : 0 ≤ lo ∧ lo ≤ hi ∧ hi ≤ m) (f : FH a (a * k + b) m lo hi none) : Out a b m k fo (.find lo hi) [.n, .s ""] k fo
  | find {lo hi y : Int} (h : 0 ≤ lo ∧ lo ≤ hi ∧ hi ≤ m) (f : FH a (a * k + b) m lo hi (some y)) : Out a b m k fo (.find lo hi) [.i y, .s ""] (k + y) (fo ++ [k])
  | findX {lo hi : Int} (h : ¬ (0 ≤ lo ∧ lo ≤ hi ∧ hi ≤ m)) : Out a b m k fo (.find lo hi) [.s "none", .s "NoBounds+"] k fo
  | back {fo' : List Int} {k0 : Int} (e : fo = fo' ++ [k0]) : Out a b m k fo .back [.n, .s ""] k0 fo'
  | backX (e : fo = []) : Out a b m k fo .back [.s "none", .s "NothingLeft+"] k fo
theorem snoc_inj {α : Type} {xs ys : List α} {x y : α} (h : xs ++ [x] = ys ++ [y]) : xs = ys ∧ x = y := by
  have h1 := congrArg List.reverse h
  simp at h1
  exact ⟨h1.2, h1.1⟩
theorem Out.uniq {a b m k : Int} {fo : List Int} {d : DD} {r r' : List Fd} {k1 k2 : Int} {f1 f2 : List Int} (o : Out a b m k fo d r k1 f1) (o' : Out a b m k fo d r' k2 f2) : r = r' ∧ k1 = k2 ∧ f1 = f2 := by
  cases o with
  | go h0 h1 =>
    cases o' with
    | go _ _ => exact ⟨rfl, rfl, rfl⟩
    | goX h => omega
  | goX h =>
    cases o' with
    | go _ _ => omega
    | goX h => exact ⟨rfl, rfl, rfl⟩
  | no h f =>
    cases o' with
    | no _ _ => exact ⟨rfl, rfl, rfl⟩
    | find _ f' => cases FH_uniq f f'
    | findX h' => exact (h' h).elim
  | find h f =>
    cases o' with
    | no _ f' => cases FH_uniq f f'
    | find _ f' =>
      cases FH_uniq f f'
      exact ⟨rfl, rfl, rfl⟩
    | findX h' => exact (h' h).elim
  | findX h =>
    cases o' with
    | no h' _ => exact (h h').elim
    | find h' _ => exact (h h').elim
    | findX _ => exact ⟨rfl, rfl, rfl⟩
  | back e =>
    cases o' with
    | back e' =>
      obtain ⟨e1, e2⟩ := snoc_inj (e.symm.trans e')
      exact ⟨rfl, e2, e1⟩
    | backX e' =>
      rw [e'] at e
      simp at e
  | backX e =>
    cases o' with
    | back e' =>
      rw [e] at e'
      simp at e'
    | backX _ => exact ⟨rfl, rfl, rfl⟩
theorem Out.ok {a b m k : Int} {fo : List Int} {d : DD} {r : List Fd} {k1 : Int} {f1 : List Int} (o : Out a b m k fo d r k1 f1) : r.all Fd.ok = true := by
  cases o with
  | go _ _ => exact ok_iS
  | goX _ => exact ok_SS
  | no _ _ => exact ok_nS
  | find _ _ => exact ok_iS
  | findX _ => exact ok_SS
  | back _ => exact ok_nS
  | backX _ => exact ok_SS

def sp_law_deed (_ : PySem.W.Frag) : Sp := fun vs H Q _ => ∃ (s d : Addr) (a b m : Int), vs = [.ref s, .ref d] ∧ H s = some (.tup [.int a, .int b, .int m]) ∧ 0 < m ∧ m ≤ 60 ∧ Sz 600 a ∧ Dr H d ∧
  ∀ t dd H', Kp d H H' → Dr H' d → H' t = some (.tup (DD.v dd)) → (∀ n, dd = .go n → n ≤ 90 ∨ 1000000000000000000000000000000 ≤ n) → Q (.ref t) H'
theorem use_law_deed {K : PySem.W.Frag} {H : Hp} {Q : VK} {E : XK} {s d : Addr} {a b m : Int} (hs : H s = some (.tup [.int a, .int b, .int m])) (m0 : 0 < m) (m1 : m ≤ 60) (za : Sz 600 a) (D : Dr H d)
  (q : ∀ t dd H', Kp d H H' → Dr H' d → H' t = some (.tup (DD.v dd)) → (∀ n, dd = .go n → n ≤ 90 ∨ 1000000000000000000000000000000 ≤ n) → Q (.ref t) H') : sp_law_deed K [.ref s, .ref d] H Q E := ⟨s, d, a, b, m, rfl, hs, m0, m1, za, D, q⟩
abbrev s_law_deed : Stmt := topS 55
abbrev nm_law_deed : List Str := ["stair", "draws", "way", "some", "low", "high"]
theorem sc_law_deed : FnScope nm_law_deed ["stair", "draws"] (defScope s_law_deed) := ⟨rfl, rfl, rfl, by decide +kernel, rfl, by decide +kernel, by decide +kernel⟩
theorem st_law_deed {v0 v1 : V} : start nm_law_deed [v0, v1] = [some v0, some v1, none, none, none, none] := rfl
section
variable {P : Program} {w : World} {K : PySem.W.Frag} {mg : Str → Option Value} {base : Heap} {c : Cl}
theorem ok_law_deed (D : DefAt K mg "_law_deed" s_law_deed ["stair", "draws"]) (B_max : mg "max" = none) (G__law_draw : Has P w K mg base CX0 2 "_law_draw" ["draws", "many"] (sp_law_draw K)) (G__law_some_bounds : Has P w K mg base CX0 3 "_law_some_bounds" ["stair", "draws"] (sp_law_some_bounds K)) : Has P w K mg base CX0 4 "_law_deed" ["stair", "draws"] (sp_law_deed K) := by
  refine D.ok sc_law_deed (by rintro _ _ _ _ ⟨_, _, _, _, _, rfl, _⟩; rfl) (fun f cdv A outer s H vs Q E hr h => ?_)
  obtain ⟨s, d, a, b, m, rfl, hs, m0, m1, za, D, q⟩ := h
  have zm : Sz 200 m := Sz.small (by omega)
  refine ⟨_, (pss_cons (ps_set (i := 2) sc_law_deed.nd rfl (Or.inl rfl) (pcall G__law_draw (hr.mono (by decide)) (pa_cons (pv 1) (pa_cons pe_int pa_nil))))
      (pss_cons (ps_if (pt_cmpR op_lt (pv 2) pe_int (nomark _)) (pss_cons (ps_set (i := 3) sc_law_deed.nd rfl (Or.inl rfl) (pe_lst (pa_cons (pcall G__law_draw (hr.mono (by decide)) (pa_cons (pv 1) (pa_cons pe_int pa_nil))) (pa_cons (pcall G__law_draw (hr.mono (by decide)) (pa_cons (pv 1) (pa_cons pe_int pa_nil))) (pa_cons (pe_un un_neg pe_int) (pa_cons (pe_op op_pow pe_int pe_int) pa_nil))))))
        (pss_one (ps_ret (pe_tup (pa_cons pe_str (pa_cons (pe_ix ix_list (pv 3) (pe_ix ix_list (pe_lst (pa_cons pe_int (pa_cons pe_int (pa_cons pe_int (pa_cons pe_int (pa_cons pe_int (pa_cons pe_int (pa_cons pe_int (pa_cons pe_int pa_nil))))))))) (pcall G__law_draw (hr.mono (by decide)) (pa_cons (pv 1) (pa_cons pe_int pa_nil))) (fun _ _ => rfl)) (fun _ _ => rfl)) pa_nil)))))) pss_nil)
      (pss_cons (ps_if (pt_cmpR op_lt (pv 2) pe_int (nomark _)) (pss_cons (ps_asg (pcall G__law_some_bounds (hr.mono (by decide)) (pa_cons (pv 0) (pa_cons (pv 1) pa_nil))) (pg_tup (by rfl) (pgs_cons (pg_name (i := 4) sc_law_deed.nd rfl (Or.inl rfl)) (pgs_cons (pg_name (i := 5) sc_law_deed.nd rfl (Or.inl rfl)) pgs_nil))))
        (pss_cons (ps_set (i := 3) sc_law_deed.nd rfl (Or.inl rfl) (pe_lst (pa_cons (pe_tup (pa_cons (pv 4) (pa_cons (pv 5) pa_nil))) (pa_cons (pe_tup (pa_cons (pv 4) (pa_cons (pv 5) pa_nil))) (pa_cons (pe_tup (pa_cons (pe_un un_neg pe_int) (pa_cons (pv 5) pa_nil))) (pa_cons (pe_tup (pa_cons (pv 4) (pa_cons (pe_op op_add (pe_ix ix_tup (pv 0) pe_int (fun _ _ => rfl)) pe_int) pa_nil))) (pa_cons (pe_tup (pa_cons (pe_op op_add (pv 5) pe_int) (pa_cons (pv 5) pa_nil))) pa_nil)))))))
        (pss_one (ps_ret (pe_op op_catA (pe_tup (pa_cons pe_str pa_nil)) (pe_ix ix_list (pv 3) (pe_callB (cl_max2 rfl) (by rfl) B_max (by decide +kernel) (pa_cons pe_int (pa_cons (pe_op op_sub (pcall G__law_draw (hr.mono (by decide)) (pa_cons (pv 1) (pa_cons pe_int pa_nil))) pe_int) pa_nil))) (fun _ _ => rfl))))))) pss_nil)
      (pss_one (ps_ret (pe_tup (pa_cons pe_str pa_nil))))))), ?_⟩
  rw [st_law_deed]
  try dsimp only [Cx.nox, Cx.wish, Cx.blk, cx_K, cxH_K]
  walk_at "go"
  refine use_law_draw D (by decide) (by walk_at "szm") fun way H1 v0 v1 k1 D1 => ?_
  have hs1 := k1.tup D hs
  walk_at "go"
  refine if_2 (fun hx => ?_) (fun hx => ?_)
  · walk_at "go"
    refine use_law_draw D1 (by decide) (by walk_at "szm") fun u1 H2 u10 u11 k2 D2 => ?_
    walk_at "go"
    refine use_law_draw D2 (by decide) (by walk_at "szm") fun u2 H3 u20 u21 k3 D3 => ?_
    walk_at "go"
    rename_i l4 H4 n4 e4 h4 l5 H5 n5 e5 h5
    refine use_law_draw ((D3.up e4).up e5) (by decide) (by walk_at "szm") fun u6 H6 u60 u61 k6 D6 => ?_
    have h46 := k6 _ _ (D3.free n4) (e5.at h4)
    have h56 := k6 _ _ ((D3.up e4).free n5) h5
    walk_at "go"
    obtain ⟨y, hy, y0, y1⟩ : ∃ y : Int, atI [V.int 0, .int 0, .int 0, .int 1, .int 1, .int 1, .int 2, .int 3] u6 = some (.int y) ∧ 0 ≤ y ∧ y < 4 := by
      obtain rfl | rfl | rfl | rfl | rfl | rfl | rfl | rfl : u6 = 0 ∨ u6 = 1 ∨ u6 = 2 ∨ u6 = 3 ∨ u6 = 4 ∨ u6 = 5 ∨ u6 = 6 ∨ u6 = 7 := by omega
      all_goals exact ⟨_, rfl, by decide, by decide⟩
    refine r_ixL (SqL.of h56) hy ?_
    walk_at "go"
    obtain ⟨n, hn, nb⟩ : ∃ n : Int, atI [V.int u1, .int u2, .int (-1), .int 1000000000000000000000000000000] y = some (.int n) ∧ (n ≤ 90 ∨ 1000000000000000000000000000000 ≤ n) := by
      obtain rfl | rfl | rfl | rfl : y = 0 ∨ y = 1 ∨ y = 2 ∨ y = 3 := by omega
      · exact ⟨_, rfl, by omega⟩
      · exact ⟨_, rfl, by omega⟩
      · exact ⟨_, rfl, by omega⟩
      · exact ⟨_, rfl, by omega⟩
    refine r_ixL (SqL.of h46) hn ?_
    walk_at "go"
    rename_i t7 H7 n7 e7 h7
    refine q t7 (.go n) H7 ((((k1.trans k2).trans k3).trans (e4.trans e5).kp).trans (k6.trans e7.kp)) (D6.up e7) h7 fun n' e => ?_
    cases e
    exact nb
  · walk_at "go"
    refine if_2 (fun hy => ?_) (fun hy => ?_)
    · walk_at "go"
      refine use_law_some_bounds hs1 m0 (za.mono (by decide)) zm D1 fun t lo hi H2 lo0 lh hm k2 D2 h2 => ?_
      have hs2 := k2.tup D1 hs1
      walk_at "go"
      rename_i t1 G1 r1 x1 y1 t2 G2 r2 x2 y2 t3 G3 r3 x3 y3 t4 G4 r4 x4 y4 t5 G5 r5 x5 y5 l6 G6 r6 x6 y6 f7 G7 r7 x7 y7
      have u6 := x6.trans x7
      have u5 := x5.trans u6
      have u4 := x4.trans u5
      have u3 := x3.trans u4
      have u2 := x2.trans u3
      have D6 := D2.up (x1.trans u2)
      refine use_law_draw D6 (by decide) (by walk_at "szm") fun w H8' w0 w1 k7 D7 => ?_
      have h67 := k7 _ _ ((D2.up ((x1.trans x2).trans ((x3.trans x4).trans x5))).free r6) (x7.at y6)
      have hf7 := k7.tup D6 y7
      walk_at "go"
      obtain ⟨tt, A, B, hA, hB⟩ : ∃ (tt : Addr) (A B : Int), atI [V.ref t1, .ref t2, .ref t3, .ref t4, .ref t5] (max 0 (w - 4)) = some (.ref tt) ∧ H8' tt = some (.tup [.int A, .int B]) := by
        obtain h | h | h | h | h : max 0 (w - 4) = 0 ∨ max 0 (w - 4) = 1 ∨ max 0 (w - 4) = 2 ∨ max 0 (w - 4) = 3 ∨ max 0 (w - 4) = 4 := by omega
        all_goals rw [h]
        · exact ⟨t1, _, _, rfl, k7.tup D6 (u2.at y1)⟩
        · exact ⟨t2, _, _, rfl, k7.tup D6 (u3.at y2)⟩
        · exact ⟨t3, _, _, rfl, k7.tup D6 (u4.at y3)⟩
        · exact ⟨t4, _, _, rfl, k7.tup D6 (u5.at y4)⟩
        · exact ⟨t5, _, _, rfl, k7.tup D6 (u6.at y5)⟩
      refine r_ixL (SqL.of h67) hA ?_
      walk_at "go"
      refine r_catT (SqT.of hf7) (SqT.of hB) (show 3 ≤ sizeLine by decide) fun t8 H8 n8 e8 h8 => ?_
      walk_at "go"
      refine q t8 (.find A B) H8 (((k1.trans k2).trans (x1.trans u2).kp).trans (k7.trans e8.kp)) (D7.up e8) h8 fun n' e => by cases e
    · walk_at "go"
      rename_i t7 H7 n7 e7 h7
      exact q t7 .back H7 (k1.trans e7.kp) (D1.up e7) h7 fun n' e => by cases e

end
abbrev COUNTS_BELOW_val : Int := 1000000000000000000000000000000
def sp_need_count (_ : PySem.W.Frag) : Sp := fun vs H Q _ => ∃ (n : Int), vs = [.int n] ∧ 0 ≤ n ∧ n < 1000000000000000000000000000000 ∧ Q .non H
theorem use_need_count {K : PySem.W.Frag} {H : Hp} {Q : VK} {E : XK} {n : Int} (h0 : 0 ≤ n) (h1 : n < 1000000000000000000000000000000) (q : Q .non H) : sp_need_count K [.int n] H Q E := ⟨n, rfl, h0, h1, q⟩
abbrev s_need_count : Stmt := topS 28
abbrev nm_need_count : List Str := ["n"]
theorem sc_need_count : FnScope nm_need_count ["n"] (defScope s_need_count) := ⟨rfl, rfl, rfl, by decide +kernel, rfl, by decide +kernel, by decide +kernel⟩
theorem st_need_count {v0 : V} : start nm_need_count [v0] = [some v0] := rfl
section
variable {P : Program} {w : World} {K : PySem.W.Frag} {mg : Str → Option Value} {base : Heap} {c : Cl}
theorem ok_need_count (D : DefAt K mg "need_count" s_need_count ["n"]) (T_COUNTS_BELOW : ∃ t, mg "COUNTS_BELOW" = some (.int COUNTS_BELOW_val t)) : Has P w K mg base CX0 2 "need_count" ["n"] (sp_need_count K) := by
  refine D.ok sc_need_count (by rintro _ _ _ _ ⟨_, rfl, _⟩; rfl) (fun f cdv A outer s H vs Q E hr h => ?_)
  obtain ⟨_, T_COUNTS_BELOW⟩ := T_COUNTS_BELOW
  obtain ⟨n, rfl, h0, h1, q⟩ := h
  refine ⟨_, (pss_one (ps_if (PW.pt (pw_or (pt_cmpR op_lt (pv 0) pe_int (nomark _)) (pw_or1 (pt_cmpR op_ge (pv 0) (pe_glob (v := .int (1000000000000000000000000000000)) rfl T_COUNTS_BELOW ⟨_, rfl⟩) (nomark _))))) (pss_one ps_never) pss_nil)), ?_⟩
  rw [st_need_count]
  try dsimp only [Cx.nox, Cx.wish, Cx.blk, cx_K, cxH_K]
  walk_at "go"
  exact q

end
def sp_summed (_ : PySem.W.Frag) : Sp := fun vs H Q _ => ∃ (n a b m : Int), vs = [.int n, .int a, .int b, .int m] ∧ 0 < m ∧ Sz 4000 n ∧ Sz 4000 a ∧ Sz 4000 b ∧ Sz 4000 m ∧ Q (.int (fs n.toNat a b m)) H
theorem use_summed {K : PySem.W.Frag} {H : Hp} {Q : VK} {E : XK} {n a b m : Int} (hm : 0 < m) (zn : Sz 4000 n) (za : Sz 4000 a) (zb : Sz 4000 b) (zm : Sz 4000 m) (q : Q (.int (fs n.toNat a b m)) H) : sp_summed K [.int n, .int a, .int b, .int m] H Q E := ⟨n, a, b, m, rfl, hm, zn, za, zb, zm, q⟩
theorem summed_n {n r s m : Int} (hn : 0 ≤ n) (r0 : 0 ≤ r) (r1 : r < m) (s1 : s < m) : (r * n + s) / m ≤ n := by
  have h : (r * n + s) / m < n + 1 := by
    refine (Int.ediv_lt_iff_lt_mul (by omega)).mpr ?_
    have h1 : r * n ≤ (m - 1) * n := Int.mul_le_mul_of_nonneg_right (by omega) hn
    rw [Int.sub_mul, Int.one_mul] at h1
    rw [Int.add_mul, Int.one_mul, Int.mul_comm n m]
    omega
  omega
abbrev s_summed : Stmt := topS 29
abbrev nm_summed : List Str := ["n", "a", "b", "m", "total", "top"]
theorem sc_summed : FnScope nm_summed ["n", "a", "b", "m"] (defScope s_summed) := ⟨rfl, rfl, rfl, by decide +kernel, rfl, by decide +kernel, by decide +kernel⟩
theorem st_summed {v0 v1 v2 v3 : V} : start nm_summed [v0, v1, v2, v3] = [some v0, some v1, some v2, some v3, none, none] := rfl
section
variable {P : Program} {w : World} {K : PySem.W.Frag} {mg : Str → Option Value} {base : Heap} {c : Cl}
theorem ok_summed (D : DefAt K mg "summed" s_summed ["n", "a", "b", "m"]) : Has P w K mg base CX0 2 "summed" ["n", "a", "b", "m"] (sp_summed K) := by
  refine D.ok sc_summed (by rintro _ _ _ _ ⟨_, _, _, _, rfl, _⟩; rfl) (fun f cdv A outer s H vs Q E hr h => ?_)
  obtain ⟨n, a, b, m, rfl, hm, zn, za, zb, zm, q⟩ := h
  refine ⟨_, (pss_cons (ps_set (i := 4) sc_summed.nd rfl (Or.inl rfl) pe_int)
      (pss_cons (ps_while PassesOwn.never (pt_cmpR op_gt (pv 0) pe_int (nomark _)) (pss_cons (ps_aug (i := 4) sc_summed.nd rfl (Or.inl rfl) (pe_op op_add (pe_op op_mulX (pe_op op_fdivW (pv 1) (pv 3)) (pe_op op_fdivW (pe_op op_mulX (pv 0) (pe_op op_sub (pv 0) pe_int)) pe_int)) (pe_op op_mulX (pe_op op_fdivW (pv 2) (pv 3)) (pv 0))) ip_add)
        (pss_cons (ps_set (i := 1) sc_summed.nd rfl (Or.inl rfl) (pe_op op_mod (pv 1) (pv 3)))
        (pss_cons (ps_set (i := 5) sc_summed.nd rfl (Or.inl rfl) (pe_op op_add (pe_op op_mulX (pv 1) (pv 0)) (pe_op op_mod (pv 2) (pv 3))))
        (pss_cons (ps_par (i := 0) (j := 2) (by rfl) sc_summed.nd rfl rfl (by decide) rfl rfl (pa_cons (pe_op op_fdivW (pv 5) (pv 3)) (pa_cons (pe_op op_mod (pv 5) (pv 3)) pa_nil)) (by rfl))
        (pss_one (ps_par (i := 1) (j := 3) (by rfl) sc_summed.nd rfl rfl (by decide) rfl rfl (pa_cons (pv 3) (pa_cons (pv 1) pa_nil)) (by rfl))))))))
      (pss_one (ps_ret (pv 4))))), ?_⟩
  rw [st_summed]
  try dsimp only [Cx.nox, Cx.wish, Cx.blk, cx_K, cxH_K]
  walk_at "go"
  refine while_m (fun μ σ H' => H' = H ∧ ∃ (n' a' b' m' t : Int) (o : Option V), σ = [some (.int n'), some (.int a'), some (.int b'), some (.int m'), some (.int t), o] ∧ μ = m'.toNat ∧ 0 ≤ m' ∧ (0 < n' → 0 < m') ∧ Sz 4000 n' ∧ Sz 4000 a' ∧ Sz 4000 b' ∧ Sz 4000 m' ∧ t + fs n'.toNat a' b' m' = fs n.toNat a b m)
    m.toNat ⟨rfl, n, a, b, m, 0, none, rfl, rfl, by omega, fun _ => hm, zn, za, zb, zm, by omega⟩ ?_
  rintro μ σ H1 ⟨eH, n', a', b', m', t, o, rfl, rfl, m0, hnm, zn', za', zb', zm', e⟩
  walk_at "go"
  refine if_2 (fun hx => ?_) (fun hx => ?_)
  · have hx := of_decide_eq_true hx
    have mp := hnm hx
    refine r_body (fun σ H' => ∃ (n1 a1 b1 m1 t1 : Int) (o : Option V), σ = [some (.int n1), some (.int a1), some (.int b1), some (.int m1), some (.int t1), o] ∧ H' = H ∧ m1.toNat < m'.toNat ∧ 0 ≤ m1 ∧ (0 < n1 → 0 < m1) ∧ Sz 4000 n1 ∧ Sz 4000 a1 ∧ Sz 4000 b1 ∧ Sz 4000 m1 ∧ t1 + fs n1.toNat a1 b1 m1 = fs n.toNat a b m) ?_ ?_
    · rintro σ H2 ⟨n1, a1, b1, m1, t1, o, rfl, e2, lt, r⟩
      exact ⟨_, lt, e2, n1, a1, b1, m1, t1, o, rfl, rfl, r⟩
    walk_at "go"
    have r0 := Int.emod_nonneg a' (show m' ≠ 0 by omega)
    have r1 := Int.emod_lt_of_pos a' mp
    have s0 := Int.emod_nonneg b' (show m' ≠ 0 by omega)
    have s1 := Int.emod_lt_of_pos b' mp
    have hN : ((n'.toNat : Nat) : Int) = n' := by omega
    have rn : 0 ≤ a' % m' * n' := Int.mul_nonneg r0 (by omega)
    have y0 : 0 ≤ (a' % m' * n' + b' % m') / m' := Int.ediv_nonneg (by omega) (by omega)
    have y1 := summed_n (n := n') (by omega) r0 r1 s1
    refine ⟨_, _, _, _, _, _, rfl, eH, by omega, r0, fun yp => ?_, zn'.le (by omega) (by omega), zm', Sz.mod zm' mp, Sz.mod zm' mp, ?_⟩
    · by_cases z : a' % m' = 0
      · rw [z, Int.zero_mul, Int.zero_add, Int.ediv_eq_zero_of_lt s0 s1] at yp
        omega
      · omega
    · rw [← e, fs_loop n'.toNat a' b' mp, hN]
      omega
  · have hx := of_decide_eq_false hx
    walk_at "go"
    have e0 : n'.toNat = 0 := by omega
    rw [e0, fs_zero] at e
    rw [show t = fs n.toNat a b m by omega, eH]
    exact q

end
def sp_summed_from (_ : PySem.W.Frag) : Sp := fun vs H Q _ => ∃ (p : Addr) (a b m k n : Int), vs = [.ref p, .int k, .int n] ∧ H p = some (.tup [.int a, .int b, .int m]) ∧ 0 < m ∧ Sz 1300 a ∧ Sz 1300 b ∧ Sz 4000 m ∧ Sz 1300 k ∧ Sz 4000 n ∧ Q (.int (fs n.toNat a (a * k + b) m)) H
theorem use_summed_from {K : PySem.W.Frag} {H : Hp} {Q : VK} {E : XK} {p : Addr} {a b m k n : Int} (h : H p = some (.tup [.int a, .int b, .int m])) (hm : 0 < m) (za : Sz 1300 a) (zb : Sz 1300 b) (zm : Sz 4000 m) (zk : Sz 1300 k) (zn : Sz 4000 n) (q : Q (.int (fs n.toNat a (a * k + b) m)) H) : sp_summed_from K [.ref p, .int k, .int n] H Q E :=
  ⟨p, a, b, m, k, n, rfl, h, hm, za, zb, zm, zk, zn, q⟩
abbrev s_summed_from : Stmt := topS 30
abbrev nm_summed_from : List Str := ["stair", "k", "n", "a", "b", "m"]
theorem sc_summed_from : FnScope nm_summed_from ["stair", "k", "n"] (defScope s_summed_from) := ⟨rfl, rfl, rfl, by decide +kernel, rfl, by decide +kernel, by decide +kernel⟩
theorem st_summed_from {v0 v1 v2 : V} : start nm_summed_from [v0, v1, v2] = [some v0, some v1, some v2, none, none, none] := rfl
section
variable {P : Program} {w : World} {K : PySem.W.Frag} {mg : Str → Option Value} {base : Heap} {c : Cl}
theorem ok_summed_from (D : DefAt K mg "summed_from" s_summed_from ["stair", "k", "n"]) (G_summed : Has P w K mg base CX0 2 "summed" ["n", "a", "b", "m"] (sp_summed K)) : Has P w K mg base CX0 3 "summed_from" ["stair", "k", "n"] (sp_summed_from K) := by
  refine D.ok sc_summed_from (by rintro _ _ _ _ ⟨_, _, _, _, _, _, rfl, _⟩; rfl) (fun f cdv A outer s H vs Q E hr h => ?_)
  obtain ⟨p, a, b, m, k, n, rfl, hp, hm, za, zb, zm, zk, zn, q⟩ := h
  refine ⟨_, (pss_cons (ps_asg (pv 0) (pg_tup (by rfl) (pgs_cons (pg_name (i := 3) sc_summed_from.nd rfl (Or.inl rfl)) (pgs_cons (pg_name (i := 4) sc_summed_from.nd rfl (Or.inl rfl)) (pgs_cons (pg_name (i := 5) sc_summed_from.nd rfl (Or.inl rfl)) pgs_nil)))))
      (pss_one (ps_ret (pcall G_summed (hr.mono (by decide)) (pa_cons (pv 2) (pa_cons (pv 3) (pa_cons (pe_op op_add (pe_op op_mulX (pv 3) (pv 1)) (pv 4)) (pa_cons (pv 5) pa_nil)))))))), ?_⟩
  rw [st_summed_from]
  try dsimp only [Cx.nox, Cx.wish, Cx.blk, cx_K, cxH_K]
  walk_at "go"
  have zb' : Sz 3901 (a * k + b) := (za.mul zk).add zb
  refine use_summed hm zn (za.mono (by decide)) (zb'.mono (by decide)) zm ?_
  exact q

end
def sp_Walker_moved (_ : PySem.W.Frag) (C : Addr) : Sp := fun vs H Q _ => ∃ (p s l : Addr) (a b m k n : Int) (fo : List Int), vs = [.ref p, .int n] ∧ WkAt C H p s l a b m k fo ∧ WkZ a b m k ∧ fo.length ≤ 50000 ∧ Sz 900 n ∧
  ∀ H', Kq [p, l] H H' → WkAt C H' p s l a b m (k + n) (fo ++ [k]) → Q (.int (fs n.toNat a (a * k + b) m)) H'
theorem use_Walker_moved {K : PySem.W.Frag} {C : Addr} {H : Hp} {Q : VK} {E : XK} {p s l : Addr} {a b m k n : Int} {fo : List Int} (W : WkAt C H p s l a b m k fo) (Z : WkZ a b m k) (lf : fo.length ≤ 50000) (zn : Sz 900 n)
    (q : ∀ H', Kq [p, l] H H' → WkAt C H' p s l a b m (k + n) (fo ++ [k]) → Q (.int (fs n.toNat a (a * k + b) m)) H') : sp_Walker_moved K C [.ref p, .int n] H Q E := ⟨p, s, l, a, b, m, k, n, fo, rfl, W, Z, lf, zn, q⟩
abbrev s_Walker_moved : Stmt := inClass (topS 40) 1
abbrev nm_Walker_moved : List Str := ["self", "n", "told"]
theorem sc_Walker_moved : FnScope nm_Walker_moved ["self", "n"] (defScope s_Walker_moved) := ⟨rfl, rfl, rfl, by decide +kernel, rfl, by decide +kernel, by decide +kernel⟩
theorem st_Walker_moved {v0 v1 : V} : start nm_Walker_moved [v0, v1] = [some v0, some v1, none] := rfl
section
variable {P : Program} {w : World} {K : PySem.W.Frag} {mg : Str → Option Value} {base : Heap} {c : Cl}
theorem ok_Walker_moved {C_Walker : Addr} (D : MetAt K C_Walker "moved" "Walker.moved" s_Walker_moved ["self", "n"]) (U_Walker : TxC K mg "Walker" C_Walker ["stair", "at", "former"]) (G_summed_from : Has P w K mg base CX0 3 "summed_from" ["stair", "k", "n"] (sp_summed_from K)) : HasM P w K mg base CX0 4 C_Walker "moved" ["self", "n"] (sp_Walker_moved K C_Walker) := by
  refine D.ok sc_Walker_moved (by rintro _ _ _ _ ⟨_, _, _, _, _, _, _, _, _, rfl, _⟩; rfl) (fun f cdv A outer s H vs Q E hr h => ?_)
  obtain ⟨cl_Walker, mg_Walker, n_Walker_stair, n_Walker_at, n_Walker_former, _⟩ := U_Walker
  obtain ⟨p, s, l, a, b, m, k, n, fo, rfl, ⟨⟨dx, hp⟩, hs, hl⟩, Z, lf, zn, q⟩ := h
  refine ⟨_, (pss_cons (ps_set (i := 2) sc_Walker_moved.nd rfl (Or.inl rfl) (pcall G_summed_from (hr.mono (by decide)) (pa_cons (pe_fld (pv 0) rfl) (pa_cons (pe_fld (pv 0) rfl) (pa_cons (pv 1) pa_nil)))))
      (pss_cons (ps_expr (pe_bm PySem.F.plainAttrs_list PySem.F.slot_list_append PySem.F.type_list_append mt_append (pe_fld (pv 0) rfl) (pa_cons (pe_fld (pv 0) rfl) pa_nil)))
      (pss_cons (ps_fldaug (pv 0) (pv 1) in_add)
      (pss_one (ps_ret (pv 2)))))), ?_⟩
  rw [st_Walker_moved]
  try dsimp only [Cx.nox, Cx.wish, Cx.blk, cx_K, cxH_K]
  walk_at "go"
  refine use_summed_from hs Z.m0 (Z.za.mono (by decide)) (Z.zb.mono (by decide)) (Z.zm.mono (by decide)) (Z.zk.mono (by decide)) (zn.mono (by decide)) ?_
  walk_at "go"
  refine r_app hl (by rw [List.length_map]; omega) fun H1 k1 h1 => ?_
  have pl : p ≠ l := ne_of hp hl (by intro z; cases z)
  have hp1 := k1 _ _ pl hp
  walk_at "go"
  refine r_fldA2 hp1 ln_Walker pf_Walker_at fun H2 k2 h2 => ?_
  walk_at "go"
  refine q H2 ((k1.kq (by simp)).trans (k2.kq (by simp))) ⟨⟨dx, h2⟩, k2 _ _ (ne_of hs hp (by intro z; cases z)) (k1.tupL hl hs), ?_⟩
  rw [k2 _ _ pl.symm h1, List.map_append]
  rfl

end
def sp_Walker_go (_ : PySem.W.Frag) (C : Addr) : Sp := fun vs H Q _ => ∃ (p s l : Addr) (a b m k n : Int) (fo : List Int), vs = [.ref p, .int n] ∧ WkAt C H p s l a b m k fo ∧ WkZ a b m k ∧ fo.length ≤ 50000 ∧ 0 ≤ n ∧ n < 1000000000000000000000000000000 ∧
  ∀ H', Kq [p, l] H H' → WkAt C H' p s l a b m (k + n) (fo ++ [k]) → Q (.int (fs n.toNat a (a * k + b) m)) H'
theorem use_Walker_go {K : PySem.W.Frag} {C : Addr} {H : Hp} {Q : VK} {E : XK} {p s l : Addr} {a b m k n : Int} {fo : List Int} (W : WkAt C H p s l a b m k fo) (Z : WkZ a b m k) (lf : fo.length ≤ 50000) (n0 : 0 ≤ n) (n1 : n < 1000000000000000000000000000000)
    (q : ∀ H', Kq [p, l] H H' → WkAt C H' p s l a b m (k + n) (fo ++ [k]) → Q (.int (fs n.toNat a (a * k + b) m)) H') : sp_Walker_go K C [.ref p, .int n] H Q E := ⟨p, s, l, a, b, m, k, n, fo, rfl, W, Z, lf, n0, n1, q⟩
abbrev s_Walker_go : Stmt := inClass (topS 40) 2
abbrev nm_Walker_go : List Str := ["self", "n"]
theorem sc_Walker_go : FnScope nm_Walker_go ["self", "n"] (defScope s_Walker_go) := ⟨rfl, rfl, rfl, by decide +kernel, rfl, by decide +kernel, by decide +kernel⟩
theorem st_Walker_go {v0 v1 : V} : start nm_Walker_go [v0, v1] = [some v0, some v1] := rfl
section
variable {P : Program} {w : World} {K : PySem.W.Frag} {mg : Str → Option Value} {base : Heap} {c : Cl}
theorem ok_Walker_go {C_Walker : Addr} (D : MetAt K C_Walker "go" "Walker.go" s_Walker_go ["self", "n"]) (U_Walker : TxC K mg "Walker" C_Walker ["stair", "at", "former"]) (G_need_count : Has P w K mg base CX0 2 "need_count" ["n"] (sp_need_count K)) (G_Walker_moved : HasM P w K mg base CX0 4 C_Walker "moved" ["self", "n"] (sp_Walker_moved K C_Walker)) : HasM P w K mg base CX0 5 C_Walker "go" ["self", "n"] (sp_Walker_go K C_Walker) := by
  refine D.ok sc_Walker_go (by rintro _ _ _ _ ⟨_, _, _, _, _, _, _, _, _, rfl, _⟩; rfl) (fun f cdv A outer s H vs Q E hr h => ?_)
  obtain ⟨cl_Walker, mg_Walker, n_Walker_stair, n_Walker_at, n_Walker_former, _⟩ := U_Walker
  obtain ⟨p, s, l, a, b, m, k, n, fo, rfl, W, Z, lf, n0, n1, q⟩ := h
  have hp := W.ob
  obtain ⟨dx, hp⟩ := hp
  refine ⟨_, (pss_cons (ps_expr (pcall G_need_count (hr.mono (by decide)) (pa_cons (pv 1) pa_nil)))
      (pss_one (ps_ret (pmeth cl_Walker G_Walker_moved (hr.mono (by decide)) (pv 0) (pa_cons (pv 1) pa_nil))))), ?_⟩
  rw [st_Walker_go]
  try dsimp only [Cx.nox, Cx.wish, Cx.blk, cx_K, cxH_K]
  walk_at "go"
  refine use_need_count n0 n1 ?_
  walk_at "go"
  exact use_Walker_moved W Z lf ((sz_n n0 n1).mono (by decide)) q

end
def spR_need_count (_ : PySem.W.Frag) (c : Cl) : Sp := fun vs H _ E => ∃ n : Int, vs = [.int n] ∧ (n < 0 ∨ 1000000000000000000000000000000 ≤ n) ∧ E (.ref c.NoCount) none H
theorem useR_need_count {K : PySem.W.Frag} {c : Cl} {H : Hp} {Q : VK} {E : XK} {n : Int} (h : n < 0 ∨ 1000000000000000000000000000000 ≤ n) (e : E (.ref c.NoCount) none H) : spR_need_count K c [.int n] H Q E := ⟨n, rfl, h, e⟩
section
variable {P : Program} {w : World} {K : PySem.W.Frag} {mg : Str → Option Value} {base : Heap} {c : Cl}
theorem okR_need_count (D : DefAt K mg "need_count" s_need_count ["n"]) (T_COUNTS_BELOW : ∃ t, mg "COUNTS_BELOW" = some (.int COUNTS_BELOW_val t)) (XT0 : XT K mg c) (Y_NoCount : XD K c.NoCount) : Has P w K mg base (L2N.CX P w) 2 "need_count" ["n"] (spR_need_count K c) := by
  refine D.okR sc_need_count (by rintro _ _ _ _ ⟨_, rfl, _⟩; rfl) (fun f cdv A outer s H vs Q E hr h => ?_)
  obtain ⟨_, T_COUNTS_BELOW⟩ := T_COUNTS_BELOW
  obtain ⟨n, rfl, h, e⟩ := h
  refine ⟨_, (pss_one (ps_if (PW.pt (pw_or (pt_cmpR op_lt (pv 0) pe_int (nomark _)) (pw_or1 (pt_cmpR op_ge (pv 0) (pe_glob (v := .int (1000000000000000000000000000000)) rfl T_COUNTS_BELOW ⟨_, rfl⟩) (nomark _))))) (pss_one (ps_raiseX rfl (L2N.takes_of rfl rfl rfl rfl) (XT0.xr XT0.g_NoCount XT0.t_NoCount Y_NoCount) (by rfl))) pss_nil)), ?_⟩
  rw [st_need_count]
  try dsimp only [Cx.nox, Cx.wish, Cx.blk, cx_K, cxH_K]
  walk_at "go"
  refine if_2 (fun hx => ?_) (fun hx => ?_)
  · walk_at "go"
    exact e
  · walk_at "go"
    have hx := of_decide_eq_false hx
    refine if_T (decide_eq_true (by omega)) ?_
    walk_at "go"
    exact e

end
def spR_Walker_go (_ : PySem.W.Frag) (c : Cl) (C : Addr) : Sp := fun vs H _ E => ∃ (p : Addr) (n : Int), vs = [.ref p, .int n] ∧ (n < 0 ∨ 1000000000000000000000000000000 ≤ n) ∧ ∀ H', Ex H H' → E (.ref c.NoCount) none H'
section
variable {P : Program} {w : World} {K : PySem.W.Frag} {mg : Str → Option Value} {base : Heap} {c : Cl}
theorem okR_Walker_go {C_Walker : Addr} (D : MetAt K C_Walker "go" "Walker.go" s_Walker_go ["self", "n"]) (U_Walker : TxC K mg "Walker" C_Walker ["stair", "at", "former"]) (G_need_count : Has P w K mg base CX0 2 "need_count" ["n"] (sp_need_count K)) (R_need_count : Has P w K mg base (L2N.CX P w) 2 "need_count" ["n"] (spR_need_count K c)) (G_Walker_moved : HasM P w K mg base CX0 4 C_Walker "moved" ["self", "n"] (sp_Walker_moved K C_Walker)) : HasM P w K mg base (L2N.CX P w) 5 C_Walker "go" ["self", "n"] (spR_Walker_go K c C_Walker) := by
  refine D.okR sc_Walker_go (by rintro _ _ _ _ ⟨_, _, rfl, _⟩; rfl) (fun f cdv A outer s H vs Q E hr h => ?_)
  obtain ⟨cl_Walker, mg_Walker, n_Walker_stair, n_Walker_at, n_Walker_former, _⟩ := U_Walker
  obtain ⟨p, n, rfl, hn, e⟩ := h
  refine ⟨_, (pss_cons (ps_expr (pe_ei (pcall G_need_count (hr.mono (by decide)) (pa_cons (pv 1) pa_nil)) (pcallR R_need_count (hr.mono (by decide)) (L2N.takes_of rfl rfl rfl rfl) (pa_cons (pv 1) pa_nil))))
      (pss_one (ps_ret (pmeth cl_Walker G_Walker_moved (hr.mono (by decide)) (pv 0) (pa_cons (pv 1) pa_nil))))), ?_⟩
  rw [st_Walker_go]
  try dsimp only [Cx.nox, Cx.wish, Cx.blk, cx_K, cxH_K]
  walk_at "go"
  refine r_eiR ?_
  walk_at "go"
  exact useR_need_count hn (e _ Ex.refl)

end
def sp_need_bounds (_ : PySem.W.Frag) : Sp := fun vs H Q _ => ∃ (p : Addr) (a b m lo hi : Int), vs = [.ref p, .int lo, .int hi] ∧ H p = some (.tup [.int a, .int b, .int m]) ∧ 0 ≤ lo ∧ lo ≤ hi ∧ hi ≤ m ∧ Q .non H
theorem use_need_bounds {K : PySem.W.Frag} {H : Hp} {Q : VK} {E : XK} {p : Addr} {a b m lo hi : Int} (h : H p = some (.tup [.int a, .int b, .int m])) (h0 : 0 ≤ lo) (h1 : lo ≤ hi) (h2 : hi ≤ m) (q : Q .non H) : sp_need_bounds K [.ref p, .int lo, .int hi] H Q E := ⟨p, a, b, m, lo, hi, rfl, h, h0, h1, h2, q⟩
abbrev s_need_bounds : Stmt := topS 32
abbrev nm_need_bounds : List Str := ["stair", "low", "high"]
theorem sc_need_bounds : FnScope nm_need_bounds ["stair", "low", "high"] (defScope s_need_bounds) := ⟨rfl, rfl, rfl, by decide +kernel, rfl, by decide +kernel, by decide +kernel⟩
theorem st_need_bounds {v0 v1 v2 : V} : start nm_need_bounds [v0, v1, v2] = [some v0, some v1, some v2] := rfl
section
variable {P : Program} {w : World} {K : PySem.W.Frag} {mg : Str → Option Value} {base : Heap} {c : Cl}
theorem ok_need_bounds (D : DefAt K mg "need_bounds" s_need_bounds ["stair", "low", "high"]) : Has P w K mg base CX0 2 "need_bounds" ["stair", "low", "high"] (sp_need_bounds K) := by
  refine D.ok sc_need_bounds (by rintro _ _ _ _ ⟨_, _, _, _, _, _, rfl, _⟩; rfl) (fun f cdv A outer s H vs Q E hr h => ?_)
  obtain ⟨p, a, b, m, lo, hi, rfl, hp, h0, h1, h2, q⟩ := h
  refine ⟨_, (pss_one (ps_if (pt_not (pt_chain3 op_le op_le op_le pe_int (pv 1) (pv 2) (pe_ix ix_tup (pv 0) pe_int (fun _ _ => rfl)))) (pss_one ps_never) pss_nil)), ?_⟩
  rw [st_need_bounds]
  try dsimp only [Cx.nox, Cx.wish, Cx.blk, cx_K, cxH_K]
  walk_at "go"
  exact q

end
def sp_over_up (_ : PySem.W.Frag) : Sp := fun vs H Q _ => ∃ (t b : Int), vs = [.int t, .int b] ∧ 0 < b ∧ Sz 3000 b ∧ Q (.int (cup t b)) H
theorem use_over_up {K : PySem.W.Frag} {H : Hp} {Q : VK} {E : XK} {t b : Int} (hb : 0 < b) (zb : Sz 3000 b) (q : Q (.int (cup t b)) H) : sp_over_up K [.int t, .int b] H Q E := ⟨t, b, rfl, hb, zb, q⟩
abbrev s_over_up : Stmt := topS 35
abbrev nm_over_up : List Str := ["top", "bottom"]
theorem sc_over_up : FnScope nm_over_up ["top", "bottom"] (defScope s_over_up) := ⟨rfl, rfl, rfl, by decide +kernel, rfl, by decide +kernel, by decide +kernel⟩
theorem st_over_up {v0 v1 : V} : start nm_over_up [v0, v1] = [some v0, some v1] := rfl
section
variable {P : Program} {w : World} {K : PySem.W.Frag} {mg : Str → Option Value} {base : Heap} {c : Cl}
theorem ok_over_up (D : DefAt K mg "over_up" s_over_up ["top", "bottom"]) : Has P w K mg base CX0 2 "over_up" ["top", "bottom"] (sp_over_up K) := by
  refine D.ok sc_over_up (by rintro _ _ _ _ ⟨_, _, rfl, _⟩; rfl) (fun f cdv A outer s H vs Q E hr h => ?_)
  obtain ⟨t, b, rfl, hb, zb, q⟩ := h
  refine ⟨_, (pss_one (ps_ret (pe_op op_sub pe_int (pe_op op_fdivW (pe_op op_sub pe_int (pv 0)) (pv 1))))), ?_⟩
  rw [st_over_up]
  try dsimp only [Cx.nox, Cx.wish, Cx.blk, cx_K, cxH_K]
  walk_at "go"
  exact q

end
def spF_first_rest (_ : PySem.W.Frag) (j : Nat) : Sp := fun vs H Q _ => ∃ (a m lo hi : Int), vs = [.int a, .int m, .int lo, .int hi] ∧ 0 < m ∧ Sz 2000 m ∧ 0 ≤ lo ∧ lo ≤ hi ∧ hi < m ∧ Trn j a m ∧ ∀ v, FR a m lo hi v → Q (vO v) H
abbrev sp_first_rest (K : PySem.W.Frag) : Sp := spF_first_rest K 290
theorem fb_290 : 1606938044258990275541962092341162602522202993782792835301376 ≤ fb 291 := by
  have h : ∀ k j : Nat, (fun x => x) (fb (j + k)) = fb (j + k) := fun _ _ => rfl
  have e : ∀ k x y : Nat, ∀ j, fb j = x → fb (j + 1) = y → fb (j + k) = (Nat.rec (motive := fun _ => Nat → Nat → Nat) (fun x _ => x) (fun _ ih x y => ih y (x + y)) k : Nat → Nat → Nat) x y := by
    intro k
    induction k with
    | zero => intro x y j h1 _; exact h1
    | succ k ih =>
      intro x y j h1 h2
      have := ih y (x + y) (j + 1) h2 (by
        show fb (j + 1) + fb j = x + y
        omega)
      rw [show j + (k + 1) = j + 1 + k by omega]
      exact this
  have e2 := e 291 0 1 0 rfl rfl
  rw [Nat.zero_add] at e2
  rw [e2]
  decide +kernel
theorem trn_290 {a m : Int} (z : Sz 200 m) : Trn 290 a m := by
  refine .inl ?_
  have h : m.natAbs < 2 ^ 200 := z
  have := fb_290
  show m < ((fb 291 : Nat) : Int)
  omega
theorem use_first_rest {K : PySem.W.Frag} {H : Hp} {Q : VK} {E : XK} {a m lo hi : Int} (hm : 0 < m) (zm : Sz 200 m) (l0 : 0 ≤ lo) (lh : lo ≤ hi) (hh : hi < m) (q : ∀ v, FR a m lo hi v → Q (vO v) H) : sp_first_rest K [.int a, .int m, .int lo, .int hi] H Q E :=
  ⟨a, m, lo, hi, rfl, hm, zm.mono (by decide), l0, lh, hh, trn_290 zm, q⟩
abbrev s_first_rest : Stmt := topS 36
abbrev nm_first_rest : List Str := ["a", "m", "low", "high", "k", "y"]
theorem sc_first_rest : FnScope nm_first_rest ["a", "m", "low", "high"] (defScope s_first_rest) := ⟨rfl, rfl, rfl, by decide +kernel, rfl, by decide +kernel, by decide +kernel⟩
theorem st_first_rest {v0 v1 v2 v3 : V} : start nm_first_rest [v0, v1, v2, v3] = [some v0, some v1, some v2, some v3, none, none] := rfl
section
variable {P : Program} {w : World} {K : PySem.W.Frag} {mg : Str → Option Value} {base : Heap} {c : Cl}
theorem step_first_rest {j : Nat} (D : DefAt K mg "first_rest" s_first_rest ["a", "m", "low", "high"]) (G_over_up : Has P w K mg base CX0 2 "over_up" ["top", "bottom"] (sp_over_up K)) (G_self : HasD P w K mg base j "first_rest" ["a", "m", "low", "high"] (spF_first_rest K j)) : HasD P w K mg base (j + 1) "first_rest" ["a", "m", "low", "high"] (spF_first_rest K (j + 1)) := by
  refine D.okD sc_first_rest (by rintro _ _ _ _ ⟨_, _, _, _, rfl, _⟩; rfl) (fun f cdv A outer s H vs Q E hD h => ?_)
  have hr := hD.room
  obtain ⟨a, m, lo, hi, rfl, hm, zm, l0, lh, hh, tr, q⟩ := h
  refine ⟨_, (pss_cons (ps_if (pt_cmpR op_eq (pv 2) pe_int (nomark _)) (pss_one (ps_ret pe_int)) pss_nil)
      (pss_cons (ps_set (i := 0) sc_first_rest.nd rfl (Or.inl rfl) (pe_op op_mod (pv 0) (pv 1)))
      (pss_cons (ps_if (pt_cmpR op_eq (pv 0) pe_int (nomark _)) (pss_one (ps_ret pe_non)) pss_nil)
      (pss_cons (ps_set (i := 4) sc_first_rest.nd rfl (Or.inl rfl) (pcall G_over_up (hr.mono (by decide)) (pa_cons (pv 2) (pa_cons (pv 0) pa_nil))))
      (pss_cons (ps_if (pt_cmpR op_le (pe_op op_mulX (pv 4) (pv 0)) (pv 3) (nomark _)) (pss_one (ps_ret (pv 4))) pss_nil)
      (pss_cons (ps_set (i := 5) sc_first_rest.nd rfl (Or.inl rfl) (pcallD G_self hD (pa_cons (pv 1) (pa_cons (pv 0) (pa_cons (pe_op op_mod (pe_op op_sub pe_int (pv 3)) (pv 0)) (pa_cons (pe_op op_mod (pe_op op_sub pe_int (pv 2)) (pv 0)) pa_nil))))))
      (pss_cons (ps_if (pt_cmpR op_isNn (pv 5) pe_non (nomark _)) (pss_one (ps_ret pe_non)) pss_nil)
      (pss_one (ps_ret (pcall G_over_up (hr.mono (by decide)) (pa_cons (pe_op op_add (pv 2) (pe_op op_mulX (pv 1) (pv 5))) (pa_cons (pv 0) pa_nil)))))))))))), ?_⟩
  rw [st_first_rest]
  try dsimp only [Cx.nox, Cx.wish, Cx.blk, cx_K, cxH_K]
  walk_at "go"
  have zlo : Sz 2000 lo := zm.le (by omega) (by omega)
  refine if_2 (fun h0 => ?_) (fun h0 => ?_)
  · have h0 := of_decide_eq_true h0
    subst h0
    walk_at "go"
    exact q _ (FR_0 (by omega))
  · have h0 := of_decide_eq_false h0
    walk_at "go"
    have r0 := Int.emod_nonneg a (show m ≠ 0 by omega)
    have r1 := Int.emod_lt_of_pos a hm
    refine if_2 (fun h1 => ?_) (fun h1 => ?_)
    · have h1 := of_decide_eq_true h1
      walk_at "go"
      have f := FR_no (m := m) (lo := lo) (hi := hi) (by omega)
      rw [← h1] at f
      exact q _ (FR_mod f)
    · have h1 := of_decide_eq_false h1
      have nx := Trn_next hm tr h1
      generalize hA : a % m = A at *
      have A0 : 0 < A := by omega
      have zA : Sz 2000 A := zm.lt (by omega) r1
      have q' : ∀ v, FR A m lo hi v → Q (vO v) H := fun v f => q v (FR_mod (by rw [hA]; exact f))
      clear q hA tr
      walk_at "go"
      refine use_over_up A0 (zA.mono (by decide)) ?_
      obtain ⟨c0, c1⟩ := cup_b A0 (show 0 < lo by omega)
      have zc : Sz 2000 (cup lo A) := zlo.le (by omega) (by omega)
      walk_at "go"
      refine if_2 (fun h2 => ?_) (fun h2 => ?_)
      · have h2 := of_decide_eq_true h2
        walk_at "go"
        exact q' _ (FR_one A0 (by omega) hh h2)
      · have h2 := of_decide_eq_false h2
        walk_at "go"
        have b0 := Int.emod_nonneg (0 - hi) (show A ≠ 0 by omega)
        have b1 := Int.emod_lt_of_pos (0 - lo) A0
        have bb := turn_bounds A0 (show 0 < lo by omega) lh (show hi < cup lo A * A by omega)
        refine ⟨m, A, _, _, rfl, A0, zA, b0, bb, b1, nx, fun v f => ?_⟩
        have f' := FR_turn A0 hm (show 0 < lo by omega) lh hh (by omega) f
        cases v with
        | none =>
          dsimp only [vO]
          walk_at "go"
          exact q' _ f'
        | some y =>
          have yl := FR_lt A0 f
          have y0 := f.1
          have zy : Sz 2000 y := zA.lt y0 yl
          dsimp only [vO]
          walk_at "go"
          refine use_over_up A0 (zA.mono (by decide)) ?_
          walk_at "go"
          exact q' _ f'

theorem ok_first_rest (D : DefAt K mg "first_rest" s_first_rest ["a", "m", "low", "high"]) (G_over_up : Has P w K mg base CX0 2 "over_up" ["top", "bottom"] (sp_over_up K)) : Has P w K mg base CX0 111 "first_rest" ["a", "m", "low", "high"] (sp_first_rest K) := by
  have all : ∀ j, HasD P w K mg base j "first_rest" ["a", "m", "low", "high"] (spF_first_rest K j) := by
    intro j
    induction j with
    | zero => exact D.none (by
        rintro _ _ _ _ ⟨a, m, lo, hi, _, hm, _, _, _, _, t, _⟩
        exact Trn_0 hm t)
    | succ j ih => exact step_first_rest D G_over_up ih
  exact (all 290).has (by decide)
end
def sp_first_of (_ : PySem.W.Frag) : Sp := fun vs H Q _ => ∃ (p : Addr) (a b m lo hi : Int), vs = [.ref p, .int lo, .int hi] ∧ H p = some (.tup [.int a, .int b, .int m]) ∧ 0 < m ∧ Sz 200 m ∧ 0 ≤ lo ∧ lo ≤ hi ∧ hi ≤ m ∧ ∀ v, FH a b m lo hi v → Q (vO v) H
theorem use_first_of {K : PySem.W.Frag} {H : Hp} {Q : VK} {E : XK} {p : Addr} {a b m lo hi : Int} (hp : H p = some (.tup [.int a, .int b, .int m])) (hm : 0 < m) (zm : Sz 200 m) (l0 : 0 ≤ lo) (lh : lo ≤ hi) (hh : hi ≤ m) (q : ∀ v, FH a b m lo hi v → Q (vO v) H) : sp_first_of K [.ref p, .int lo, .int hi] H Q E :=
  ⟨p, a, b, m, lo, hi, rfl, hp, hm, zm, l0, lh, hh, q⟩
abbrev s_first_of : Stmt := topS 37
abbrev nm_first_of : List Str := ["stair", "low", "high", "a", "b", "m"]
theorem sc_first_of : FnScope nm_first_of ["stair", "low", "high"] (defScope s_first_of) := ⟨rfl, rfl, rfl, by decide +kernel, rfl, by decide +kernel, by decide +kernel⟩
theorem st_first_of {v0 v1 v2 : V} : start nm_first_of [v0, v1, v2] = [some v0, some v1, some v2, none, none, none] := rfl
section
variable {P : Program} {w : World} {K : PySem.W.Frag} {mg : Str → Option Value} {base : Heap} {c : Cl}
theorem ok_first_of (D : DefAt K mg "first_of" s_first_of ["stair", "low", "high"]) (G_first_rest : Has P w K mg base CX0 111 "first_rest" ["a", "m", "low", "high"] (sp_first_rest K)) : Has P w K mg base CX0 112 "first_of" ["stair", "low", "high"] (sp_first_of K) := by
  refine D.ok sc_first_of (by rintro _ _ _ _ ⟨_, _, _, _, _, _, rfl, _⟩; rfl) (fun f cdv A outer s H vs Q E hr h => ?_)
  obtain ⟨p, a, b, m, lo, hi, rfl, hp, hm, zm, l0, lh, hh, q⟩ := h
  refine ⟨_, (pss_cons (ps_asg (pv 0) (pg_tup (by rfl) (pgs_cons (pg_name (i := 3) sc_first_of.nd rfl (Or.inl rfl)) (pgs_cons (pg_name (i := 4) sc_first_of.nd rfl (Or.inl rfl)) (pgs_cons (pg_name (i := 5) sc_first_of.nd rfl (Or.inl rfl)) pgs_nil)))))
      (pss_cons (ps_if (pt_cmpR op_eq (pv 1) (pv 2) (nomark _)) (pss_one (ps_ret pe_non)) pss_nil)
      (pss_cons (ps_if (pt_chain op_le op_lt (pv 1) (pe_op op_mod (pv 4) (pv 5)) (pv 2)) (pss_one (ps_ret pe_int)) pss_nil)
      (pss_one (ps_ret (pcall G_first_rest (hr.mono (by decide)) (pa_cons (pv 3) (pa_cons (pv 5) (pa_cons (pe_op op_mod (pe_op op_sub (pv 1) (pv 4)) (pv 5)) (pa_cons (pe_op op_mod (pe_op op_sub (pe_op op_sub (pv 2) pe_int) (pv 4)) (pv 5)) pa_nil)))))))))), ?_⟩
  rw [st_first_of]
  try dsimp only [Cx.nox, Cx.wish, Cx.blk, cx_K, cxH_K]
  walk_at "go"
  refine if_2 (fun h0 => ?_) (fun h0 => ?_)
  · have h0 := of_decide_eq_true h0
    subst h0
    walk_at "go"
    exact q none (FH_same a b m lo)
  · have h0 := of_decide_eq_false h0
    walk_at "go"
    by_cases hin : lo ≤ b % m ∧ b % m < hi
    · rw [decide_eq_true hin.1]
      refine if_T rfl ?_
      walk_at "go"
      exact q (some 0) (FH_0 hin.1 hin.2)
    · have tail : ∀ v, FR a m ((lo - b) % m) ((hi - 1 - b) % m) v → Q (vO v) H := fun v f => q v (FH_of hm l0 (by omega) hh hin f)
      obtain ⟨g1, g2, g3⟩ := rest_bounds hm l0 (show lo < hi by omega) hh hin
      refine if_2 (fun h1 => ?_) (fun h1 => ?_)
      · have h1 := of_decide_eq_true h1
        walk_at "go"
        refine use_first_rest hm zm (by omega) g2 g3 fun v f => ?_
        exact tail v f
      · walk_at "go"
        refine use_first_rest hm zm (by omega) g2 g3 fun v f => ?_
        exact tail v f

end
def sp_next_of (_ : PySem.W.Frag) : Sp := fun vs H Q _ => ∃ (p : Addr) (a b m lo hi k : Int), vs = [.ref p, .int lo, .int hi, .int k] ∧ H p = some (.tup [.int a, .int b, .int m]) ∧ 0 < m ∧ Sz 3000 a ∧ Sz 3000 k ∧ Sz 200 m ∧ 0 ≤ lo ∧ lo ≤ hi ∧ hi ≤ m ∧ ∀ v H', Ex H H' → FH a (a * k + b) m lo hi v → Q (vO (v.map (k + ·))) H'
theorem use_next_of {K : PySem.W.Frag} {H : Hp} {Q : VK} {E : XK} {p : Addr} {a b m lo hi k : Int} (hp : H p = some (.tup [.int a, .int b, .int m])) (hm : 0 < m) (za : Sz 3000 a) (zk : Sz 3000 k) (zm : Sz 200 m) (l0 : 0 ≤ lo) (lh : lo ≤ hi) (hh : hi ≤ m) (q : ∀ v H', Ex H H' → FH a (a * k + b) m lo hi v → Q (vO (v.map (k + ·))) H') : sp_next_of K [.ref p, .int lo, .int hi, .int k] H Q E :=
  ⟨p, a, b, m, lo, hi, k, rfl, hp, hm, za, zk, zm, l0, lh, hh, q⟩
abbrev s_next_of : Stmt := topS 38
abbrev nm_next_of : List Str := ["stair", "low", "high", "k", "a", "b", "m", "found"]
theorem sc_next_of : FnScope nm_next_of ["stair", "low", "high", "k"] (defScope s_next_of) := ⟨rfl, rfl, rfl, by decide +kernel, rfl, by decide +kernel, by decide +kernel⟩
theorem st_next_of {v0 v1 v2 v3 : V} : start nm_next_of [v0, v1, v2, v3] = [some v0, some v1, some v2, some v3, none, none, none, none] := rfl
section
variable {P : Program} {w : World} {K : PySem.W.Frag} {mg : Str → Option Value} {base : Heap} {c : Cl}
theorem ok_next_of (D : DefAt K mg "next_of" s_next_of ["stair", "low", "high", "k"]) (G_first_of : Has P w K mg base CX0 112 "first_of" ["stair", "low", "high"] (sp_first_of K)) : Has P w K mg base CX0 113 "next_of" ["stair", "low", "high", "k"] (sp_next_of K) := by
  refine D.ok sc_next_of (by rintro _ _ _ _ ⟨_, _, _, _, _, _, _, rfl, _⟩; rfl) (fun f cdv A outer s H vs Q E hr h => ?_)
  obtain ⟨p, a, b, m, lo, hi, k, rfl, hp, hm, za, zk, zm, l0, lh, hh, q⟩ := h
  refine ⟨_, (pss_cons (ps_asg (pv 0) (pg_tup (by rfl) (pgs_cons (pg_name (i := 4) sc_next_of.nd rfl (Or.inl rfl)) (pgs_cons (pg_name (i := 5) sc_next_of.nd rfl (Or.inl rfl)) (pgs_cons (pg_name (i := 6) sc_next_of.nd rfl (Or.inl rfl)) pgs_nil)))))
      (pss_cons (ps_set (i := 7) sc_next_of.nd rfl (Or.inl rfl) (pcall G_first_of (hr.mono (by decide)) (pa_cons (pe_tup (pa_cons (pv 4) (pa_cons (pe_op op_add (pe_op op_mulX (pv 4) (pv 3)) (pv 5)) (pa_cons (pv 6) pa_nil)))) (pa_cons (pv 1) (pa_cons (pv 2) pa_nil)))))
      (pss_cons (ps_if (pt_cmpR op_isNn (pv 7) pe_non (nomark _)) (pss_one (ps_ret pe_non)) pss_nil)
      (pss_one (ps_ret (pe_op op_add (pv 3) (pv 7))))))), ?_⟩
  rw [st_next_of]
  try dsimp only [Cx.nox, Cx.wish, Cx.blk, cx_K, cxH_K]
  walk_at "go"
  rename_i t1 H1 n1 e1 h1
  refine use_first_of h1 hm zm l0 lh hh fun v f => ?_
  have q' := q v H1 e1 f
  cases v with
  | none =>
    dsimp only [vO]
    walk_at "go"
    exact q'
  | some y =>
    dsimp only [vO]
    walk_at "go"
    exact q'

end
def sp_Walker_find (_ : PySem.W.Frag) (C : Addr) : Sp := fun vs H Q _ => ∃ (p s l : Addr) (a b m k lo hi : Int) (fo : List Int), vs = [.ref p, .int lo, .int hi] ∧ WkAt C H p s l a b m k fo ∧ WkZ a b m k ∧ fo.length ≤ 50000 ∧ 0 ≤ lo ∧ lo ≤ hi ∧ hi ≤ m ∧
  (∀ H', Ex H H' → FH a (a * k + b) m lo hi none → Q .non H') ∧ (∀ n H', Kq [p, l] H H' → FH a (a * k + b) m lo hi (some n) → Sz 900 n → WkAt C H' p s l a b m (k + n) (fo ++ [k]) → Q (.int n) H')
theorem use_Walker_find {K : PySem.W.Frag} {C : Addr} {H : Hp} {Q : VK} {E : XK} {p s l : Addr} {a b m k lo hi : Int} {fo : List Int} (W : WkAt C H p s l a b m k fo) (Z : WkZ a b m k) (lf : fo.length ≤ 50000) (h0 : 0 ≤ lo) (h1 : lo ≤ hi) (h2 : hi ≤ m)
    (q : ∀ H', Ex H H' → FH a (a * k + b) m lo hi none → Q .non H') (q2 : ∀ n H', Kq [p, l] H H' → FH a (a * k + b) m lo hi (some n) → Sz 900 n → WkAt C H' p s l a b m (k + n) (fo ++ [k]) → Q (.int n) H') : sp_Walker_find K C [.ref p, .int lo, .int hi] H Q E :=
  ⟨p, s, l, a, b, m, k, lo, hi, fo, rfl, W, Z, lf, h0, h1, h2, q, q2⟩
abbrev s_Walker_find : Stmt := inClass (topS 40) 3
abbrev nm_Walker_find : List Str := ["self", "low", "high", "there", "on"]
theorem sc_Walker_find : FnScope nm_Walker_find ["self", "low", "high"] (defScope s_Walker_find) := ⟨rfl, rfl, rfl, by decide +kernel, rfl, by decide +kernel, by decide +kernel⟩
theorem st_Walker_find {v0 v1 v2 : V} : start nm_Walker_find [v0, v1, v2] = [some v0, some v1, some v2, none, none] := rfl
section
variable {P : Program} {w : World} {K : PySem.W.Frag} {mg : Str → Option Value} {base : Heap} {c : Cl}
theorem ok_Walker_find {C_Walker : Addr} (D : MetAt K C_Walker "find" "Walker.find" s_Walker_find ["self", "low", "high"]) (U_Walker : TxC K mg "Walker" C_Walker ["stair", "at", "former"]) (G_need_bounds : Has P w K mg base CX0 2 "need_bounds" ["stair", "low", "high"] (sp_need_bounds K)) (G_next_of : Has P w K mg base CX0 113 "next_of" ["stair", "low", "high", "k"] (sp_next_of K)) (G_Walker_moved : HasM P w K mg base CX0 4 C_Walker "moved" ["self", "n"] (sp_Walker_moved K C_Walker)) : HasM P w K mg base CX0 114 C_Walker "find" ["self", "low", "high"] (sp_Walker_find K C_Walker) := by
  refine D.ok sc_Walker_find (by rintro _ _ _ _ ⟨_, _, _, _, _, _, _, _, _, _, rfl, _⟩; rfl) (fun f cdv A outer s H vs Q E hr h => ?_)
  obtain ⟨cl_Walker, mg_Walker, n_Walker_stair, n_Walker_at, n_Walker_former, _⟩ := U_Walker
  obtain ⟨p, s, l, a, b, m, k, lo, hi, fo, rfl, W, Z, lf, h0, h1, h2, q, q2⟩ := h
  obtain ⟨⟨dx, hp⟩, hs, hl⟩ := id W
  have m0 := Z.m0
  refine ⟨_, (pss_cons (ps_expr (pcall G_need_bounds (hr.mono (by decide)) (pa_cons (pe_fld (pv 0) rfl) (pa_cons (pv 1) (pa_cons (pv 2) pa_nil)))))
      (pss_cons (ps_set (i := 3) sc_Walker_find.nd rfl (Or.inl rfl) (pcall G_next_of (hr.mono (by decide)) (pa_cons (pe_fld (pv 0) rfl) (pa_cons (pv 1) (pa_cons (pv 2) (pa_cons (pe_fld (pv 0) rfl) pa_nil))))))
      (pss_cons (ps_if (pt_cmpR op_isNn (pv 3) pe_non (nomark _)) (pss_one (ps_ret pe_non)) pss_nil)
      (pss_cons (ps_set (i := 4) sc_Walker_find.nd rfl (Or.inl rfl) (pe_op op_sub (pv 3) (pe_fld (pv 0) rfl)))
      (pss_cons (ps_expr (pmeth cl_Walker G_Walker_moved (hr.mono (by decide)) (pv 0) (pa_cons (pv 4) pa_nil)))
      (pss_one (ps_ret (pv 4)))))))), ?_⟩
  rw [st_Walker_find]
  try dsimp only [Cx.nox, Cx.wish, Cx.blk, cx_K, cxH_K]
  walk_at "go"
  refine use_need_bounds hs h0 h1 h2 ?_
  walk_at "go"
  refine use_next_of hs Z.m0 (Z.za.mono (by decide)) (Z.zk.mono (by decide)) Z.zm h0 h1 h2 fun v H1 e1 f => ?_
  cases v with
  | none =>
    dsimp only [vO, Option.map]
    walk_at "go"
    exact q _ e1 f
  | some y =>
    dsimp only [vO, Option.map]
    walk_at "go"
    have ey : k + y - k = y := by omega
    rw [ey]
    have zy : Sz 900 y := (Z.zm.lt f.1 (FH_lt m0 f)).mono (by decide)
    refine use_Walker_moved (W.ex e1) Z lf zy fun H2 k2 W2 => ?_
    walk_at "go"
    exact q2 y H2 (e1.kq.trans k2) f zy W2

end
def spR_need_bounds (_ : PySem.W.Frag) (c : Cl) : Sp := fun vs H _ E => ∃ (p : Addr) (a b m lo hi : Int), vs = [.ref p, .int lo, .int hi] ∧ H p = some (.tup [.int a, .int b, .int m]) ∧ ¬ (0 ≤ lo ∧ lo ≤ hi ∧ hi ≤ m) ∧ E (.ref c.NoBounds) none H
theorem useR_need_bounds {K : PySem.W.Frag} {c : Cl} {H : Hp} {Q : VK} {E : XK} {p : Addr} {a b m lo hi : Int} (h : H p = some (.tup [.int a, .int b, .int m])) (n : ¬ (0 ≤ lo ∧ lo ≤ hi ∧ hi ≤ m)) (e : E (.ref c.NoBounds) none H) : spR_need_bounds K c [.ref p, .int lo, .int hi] H Q E := ⟨p, a, b, m, lo, hi, rfl, h, n, e⟩
section
variable {P : Program} {w : World} {K : PySem.W.Frag} {mg : Str → Option Value} {base : Heap} {c : Cl}
theorem okR_need_bounds (D : DefAt K mg "need_bounds" s_need_bounds ["stair", "low", "high"]) (XT0 : XT K mg c) (Y_NoBounds : XD K c.NoBounds) : Has P w K mg base (L2N.CX P w) 2 "need_bounds" ["stair", "low", "high"] (spR_need_bounds K c) := by
  refine D.okR sc_need_bounds (by rintro _ _ _ _ ⟨_, _, _, _, _, _, rfl, _⟩; rfl) (fun f cdv A outer s H vs Q E hr h => ?_)
  obtain ⟨p, a, b, m, lo, hi, rfl, hp, n, e⟩ := h
  refine ⟨_, (pss_one (ps_if (pt_not (pt_chain3 op_le op_le op_le pe_int (pv 1) (pv 2) (pe_ix ix_tup (pv 0) pe_int (fun _ _ => rfl)))) (pss_one (ps_raiseX rfl (L2N.takes_of rfl rfl rfl rfl) (XT0.xr XT0.g_NoBounds XT0.t_NoBounds Y_NoBounds) (by rfl))) pss_nil)), ?_⟩
  rw [st_need_bounds]
  try dsimp only [Cx.nox, Cx.wish, Cx.blk, cx_K, cxH_K]
  walk_at "go"
  refine if_2 (fun hx => ?_) (fun hx => ?_)
  · have hx := of_decide_eq_true hx
    walk_at "go"
    refine if_2 (fun hy => ?_) (fun hy => ?_)
    · have hy := of_decide_eq_true hy
      walk_at "go"
      exact e
    · walk_at "go"
      exact e
  · walk_at "go"
    exact e

end
def spR_Walker_find (_ : PySem.W.Frag) (c : Cl) (C : Addr) : Sp := fun vs H _ E => ∃ (p s l : Addr) (a b m k lo hi : Int) (fo : List Int), vs = [.ref p, .int lo, .int hi] ∧ WkAt C H p s l a b m k fo ∧ ¬ (0 ≤ lo ∧ lo ≤ hi ∧ hi ≤ m) ∧ ∀ H', Ex H H' → E (.ref c.NoBounds) none H'
section
variable {P : Program} {w : World} {K : PySem.W.Frag} {mg : Str → Option Value} {base : Heap} {c : Cl}
theorem okR_Walker_find {C_Walker : Addr} (D : MetAt K C_Walker "find" "Walker.find" s_Walker_find ["self", "low", "high"]) (U_Walker : TxC K mg "Walker" C_Walker ["stair", "at", "former"]) (G_need_bounds : Has P w K mg base CX0 2 "need_bounds" ["stair", "low", "high"] (sp_need_bounds K)) (R_need_bounds : Has P w K mg base (L2N.CX P w) 2 "need_bounds" ["stair", "low", "high"] (spR_need_bounds K c)) (G_next_of : Has P w K mg base CX0 113 "next_of" ["stair", "low", "high", "k"] (sp_next_of K)) (G_Walker_moved : HasM P w K mg base CX0 4 C_Walker "moved" ["self", "n"] (sp_Walker_moved K C_Walker)) : HasM P w K mg base (L2N.CX P w) 114 C_Walker "find" ["self", "low", "high"] (spR_Walker_find K c C_Walker) := by
  refine D.okR sc_Walker_find (by rintro _ _ _ _ ⟨_, _, _, _, _, _, _, _, _, _, rfl, _⟩; rfl) (fun f cdv A outer s H vs Q E hr h => ?_)
  obtain ⟨cl_Walker, mg_Walker, n_Walker_stair, n_Walker_at, n_Walker_former, _⟩ := U_Walker
  obtain ⟨p, s, l, a, b, m, k, lo, hi, fo, rfl, ⟨⟨dx, hp⟩, hs, hl⟩, bad, e⟩ := h
  refine ⟨_, (pss_cons (ps_expr (pe_ei (pcall G_need_bounds (hr.mono (by decide)) (pa_cons (pe_fld (pv 0) rfl) (pa_cons (pv 1) (pa_cons (pv 2) pa_nil)))) (pcallR R_need_bounds (hr.mono (by decide)) (L2N.takes_of rfl rfl rfl rfl) (pa_cons (pe_fld (pv 0) rfl) (pa_cons (pv 1) (pa_cons (pv 2) pa_nil))))))
      (pss_cons (ps_set (i := 3) sc_Walker_find.nd rfl (Or.inl rfl) (pcall G_next_of (hr.mono (by decide)) (pa_cons (pe_fld (pv 0) rfl) (pa_cons (pv 1) (pa_cons (pv 2) (pa_cons (pe_fld (pv 0) rfl) pa_nil))))))
      (pss_cons (ps_if (pt_cmpR op_isNn (pv 3) pe_non (nomark _)) (pss_one (ps_ret pe_non)) pss_nil)
      (pss_cons (ps_set (i := 4) sc_Walker_find.nd rfl (Or.inl rfl) (pe_op op_sub (pv 3) (pe_fld (pv 0) rfl)))
      (pss_cons (ps_expr (pmeth cl_Walker G_Walker_moved (hr.mono (by decide)) (pv 0) (pa_cons (pv 4) pa_nil)))
      (pss_one (ps_ret (pv 4)))))))), ?_⟩
  rw [st_Walker_find]
  try dsimp only [Cx.nox, Cx.wish, Cx.blk, cx_K, cxH_K]
  walk_at "go"
  refine r_eiR ?_
  walk_at "go"
  exact useR_need_bounds hs bad (e _ Ex.refl)

end
def sp_Walker_back (_ : PySem.W.Frag) (C : Addr) : Sp := fun vs H Q _ => ∃ (p s l : Addr) (a b m k k0 : Int) (fo : List Int), vs = [.ref p] ∧ WkAt C H p s l a b m k (fo ++ [k0]) ∧
  ∀ H', Kq [p, l] H H' → WkAt C H' p s l a b m k0 fo → Q .non H'
theorem use_Walker_back {K : PySem.W.Frag} {C : Addr} {H : Hp} {Q : VK} {E : XK} {p s l : Addr} {a b m k k0 : Int} {fo : List Int} (W : WkAt C H p s l a b m k (fo ++ [k0])) (q : ∀ H', Kq [p, l] H H' → WkAt C H' p s l a b m k0 fo → Q .non H') : sp_Walker_back K C [.ref p] H Q E :=
  ⟨p, s, l, a, b, m, k, k0, fo, rfl, W, q⟩
abbrev s_Walker_back : Stmt := inClass (topS 40) 4
abbrev nm_Walker_back : List Str := ["self"]
theorem sc_Walker_back : FnScope nm_Walker_back ["self"] (defScope s_Walker_back) := ⟨rfl, rfl, rfl, by decide +kernel, rfl, by decide +kernel, by decide +kernel⟩
theorem st_Walker_back {v0 : V} : start nm_Walker_back [v0] = [some v0] := rfl
section
variable {P : Program} {w : World} {K : PySem.W.Frag} {mg : Str → Option Value} {base : Heap} {c : Cl}
theorem ok_Walker_back {C_Walker : Addr} (D : MetAt K C_Walker "back" "Walker.back" s_Walker_back ["self"]) (U_Walker : TxC K mg "Walker" C_Walker ["stair", "at", "former"]) : HasM P w K mg base CX0 2 C_Walker "back" ["self"] (sp_Walker_back K C_Walker) := by
  refine D.ok sc_Walker_back (by rintro _ _ _ _ ⟨_, _, _, _, _, _, _, _, _, rfl, _⟩; rfl) (fun f cdv A outer s H vs Q E hr h => ?_)
  obtain ⟨cl_Walker, mg_Walker, n_Walker_stair, n_Walker_at, n_Walker_former, _⟩ := U_Walker
  obtain ⟨p, s, l, a, b, m, k, k0, fo, rfl, ⟨⟨dx, hp⟩, hs, hl⟩, q⟩ := h
  refine ⟨_, (pss_cons (ps_if (pt_cmpR (op_eqD hr.units) (pe_fld (pv 0) rfl) (pe_lst pa_nil) (nomark _)) (pss_one ps_never) pss_nil)
      (pss_one (ps_fld (pv 0) (pe_bm0 PySem.F.plainAttrs_list PySem.F.slot_list_pop PySem.F.type_list_pop mt_pop (pe_fld (pv 0) rfl)) rfl))), ?_⟩
  rw [st_Walker_back]
  try dsimp only [Cx.nox, Cx.wish, Cx.blk, cx_K, cxH_K]
  walk_at "go"
  rename_i l2 H1 n1 e1 h1
  refine r_eqL (ys := []) (SqL.of (e1.at hl)) (SqL.of h1) ?_
  rw [decide_eq_false (by simp)]
  walk_at "go"
  have hp1 := e1.at hp
  have hl1 := e1.at hl
  have pl : p ≠ l := ne_of hp hl (by intro z; cases z)
  refine rPop_is (y := .int k0) hl1 (by simp) fun H2 k2 h2 => ?_
  walk_at "go"
  refine r_fldW (k2 _ _ pl hp1) cl_Walker n_Walker_at ln_Walker pf_Walker_at fun H3 k3 h3 => ?_
  walk_at "go"
  refine q H3 ((e1.kq.trans (k2.kq (by simp))).trans (k3.kq (by simp))) ⟨⟨dx, h3⟩, k3 _ _ (ne_of hs hp (by intro z; cases z)) (k2.tupL hl1 (e1.at hs)), ?_⟩
  rw [k3 _ _ pl.symm h2]
  simp

end
def spR_Walker_back (_ : PySem.W.Frag) (c : Cl) (C : Addr) : Sp := fun vs H _ E => ∃ (p s l : Addr) (a b m k : Int), vs = [.ref p] ∧ WkAt C H p s l a b m k [] ∧ ∀ H', Ex H H' → E (.ref c.NothingLeft) none H'
section
variable {P : Program} {w : World} {K : PySem.W.Frag} {mg : Str → Option Value} {base : Heap} {c : Cl}
theorem okR_Walker_back {C_Walker : Addr} (D : MetAt K C_Walker "back" "Walker.back" s_Walker_back ["self"]) (U_Walker : TxC K mg "Walker" C_Walker ["stair", "at", "former"]) (XT0 : XT K mg c) (Y_NothingLeft : XD K c.NothingLeft) : HasM P w K mg base (L2N.CX P w) 2 C_Walker "back" ["self"] (spR_Walker_back K c C_Walker) := by
  refine D.okR sc_Walker_back (by rintro _ _ _ _ ⟨_, _, _, _, _, _, _, rfl, _⟩; rfl) (fun f cdv A outer s H vs Q E hr h => ?_)
  obtain ⟨cl_Walker, mg_Walker, n_Walker_stair, n_Walker_at, n_Walker_former, _⟩ := U_Walker
  obtain ⟨p, s, l, a, b, m, k, rfl, ⟨⟨dx, hp⟩, hs, hl⟩, e⟩ := h
  refine ⟨_, (pss_cons (ps_if (pt_cmpR (op_eqD hr.units) (pe_fld (pv 0) rfl) (pe_lst pa_nil) (nomark _)) (pss_one (ps_raiseX rfl (L2N.takes_of rfl rfl rfl rfl) (XT0.xr XT0.g_NothingLeft XT0.t_NothingLeft Y_NothingLeft) (by rfl))) pss_nil)
      (pss_one (ps_fld (pv 0) (pe_bm0 PySem.F.plainAttrs_list PySem.F.slot_list_pop PySem.F.type_list_pop mt_pop (pe_fld (pv 0) rfl)) rfl))), ?_⟩
  rw [st_Walker_back]
  try dsimp only [Cx.nox, Cx.wish, Cx.blk, cx_K, cxH_K]
  walk_at "go"
  rename_i l2 H1 n1 e1 h1
  refine r_eqL (xs := []) (ys := []) (SqL.of (e1.at hl)) (SqL.of h1) ?_
  rw [decide_eq_true rfl]
  walk_at "go"
  exact e _ e1

end

abbrev s_law_kind_of : Stmt := topS 48
abbrev nm_law_kind_of : List Str := ["e", "some", "words", "one", "word"]
theorem sc_law_kind_of : FnScope nm_law_kind_of ["e"] (defScope s_law_kind_of) := ⟨rfl, rfl, rfl, by decide +kernel, rfl, by decide +kernel, by decide +kernel⟩
theorem st_law_kind_of {v0 : V} : start nm_law_kind_of [v0] = [some v0, none, none, none, none] := rfl
section
variable {P : Program} {w : World} {K : PySem.W.Frag} {mg : Str → Option Value} {base : Heap} {c : Cl}
theorem ok_law_kind_of (D : DefAt K mg "_law_kind_of" s_law_kind_of ["e"]) (B_isinstance : mg "isinstance" = none) (B_ValueError : mg "ValueError" = none) (B_zip : mg "zip" = none) (XT0 : XT K mg c) : HasE P w K mg base 2 "_law_kind_of" ["e"] (KdK K c) := by
  refine D.okE sc_law_kind_of rfl (fun cls z kd f cdv A outer s H Q E p hot zc hr q => ?_)
  obtain ⟨i, D0, nth, rfl, rfl, xd⟩ := kd
  obtain ⟨hi, cT, k0, k1, k2, k3, k4, k5, k6, k7, k8, k9, k10, k11, k12, k13, k14, k15⟩ := XT0.kit nth
  have eC := XT0.exc cT xd
  have ef : ∃ vs, p.2.data = .fields vs := hot.2.imp fun _ h => h.1
  refine ⟨_, (pss_cons (ps_set (i := 1) sc_law_kind_of.nd rfl (Or.inl rfl) (pe_lst (pa_cons (pe_callB (call_isH (p := p) List.mem_cons_self eC zc ef) (by rfl) B_isinstance (by decide +kernel) (pa_cons (pv 0) (pa_cons (pe_glob (v := .ref c.NoBounds) rfl XT0.g_NoBounds rfl) pa_nil))) (pa_cons (pe_callB (call_isH (p := p) List.mem_cons_self eC zc ef) (by rfl) B_isinstance (by decide +kernel) (pa_cons (pv 0) (pa_cons (pe_glob (v := .ref c.NoCoins) rfl XT0.g_NoCoins rfl) pa_nil))) (pa_cons (pe_callB (call_isH (p := p) List.mem_cons_self eC zc ef) (by rfl) B_isinstance (by decide +kernel) (pa_cons (pv 0) (pa_cons (pe_glob (v := .ref c.NoCount) rfl XT0.g_NoCount rfl) pa_nil))) (pa_cons (pe_callB (call_isH (p := p) List.mem_cons_self eC zc ef) (by rfl) B_isinstance (by decide +kernel) (pa_cons (pv 0) (pa_cons (pe_glob (v := .ref c.NoEntry) rfl XT0.g_NoEntry rfl) pa_nil))) pa_nil))))))
      (pss_cons (ps_set (i := 1) sc_law_kind_of.nd rfl (Or.inl rfl) (pe_op op_cat (pv 1) (pe_lst (pa_cons (pe_callB (call_isH (p := p) List.mem_cons_self eC zc ef) (by rfl) B_isinstance (by decide +kernel) (pa_cons (pv 0) (pa_cons (pe_glob (v := .ref c.NoName) rfl XT0.g_NoName rfl) pa_nil))) (pa_cons (pe_callB (call_isH (p := p) List.mem_cons_self eC zc ef) (by rfl) B_isinstance (by decide +kernel) (pa_cons (pv 0) (pa_cons (pe_glob (v := .ref c.NoPartner) rfl XT0.g_NoPartner rfl) pa_nil))) (pa_cons (pe_callB (call_isH (p := p) List.mem_cons_self eC zc ef) (by rfl) B_isinstance (by decide +kernel) (pa_cons (pv 0) (pa_cons (pe_glob (v := .ref c.NoPower) rfl XT0.g_NoPower rfl) pa_nil))) (pa_cons (pe_callB (call_isH (p := p) List.mem_cons_self eC zc ef) (by rfl) B_isinstance (by decide +kernel) (pa_cons (pv 0) (pa_cons (pe_glob (v := .ref c.NoRing) rfl XT0.g_NoRing rfl) pa_nil))) pa_nil)))))))
      (pss_cons (ps_set (i := 1) sc_law_kind_of.nd rfl (Or.inl rfl) (pe_op op_cat (pv 1) (pe_lst (pa_cons (pe_callB (call_isH (p := p) List.mem_cons_self eC zc ef) (by rfl) B_isinstance (by decide +kernel) (pa_cons (pv 0) (pa_cons (pe_glob (v := .ref c.NoRise) rfl XT0.g_NoRise rfl) pa_nil))) (pa_cons (pe_callB (call_isH (p := p) List.mem_cons_self eC zc ef) (by rfl) B_isinstance (by decide +kernel) (pa_cons (pv 0) (pa_cons (pe_glob (v := .ref c.NoRow) rfl XT0.g_NoRow rfl) pa_nil))) (pa_cons (pe_callB (call_isH (p := p) List.mem_cons_self eC zc ef) (by rfl) B_isinstance (by decide +kernel) (pa_cons (pv 0) (pa_cons (pe_glob (v := .ref c.NoStair) rfl XT0.g_NoStair rfl) pa_nil))) (pa_cons (pe_callB (call_isH (p := p) List.mem_cons_self eC zc ef) (by rfl) B_isinstance (by decide +kernel) (pa_cons (pv 0) (pa_cons (pe_glob (v := .ref c.NoSteps) rfl XT0.g_NoSteps rfl) pa_nil))) pa_nil)))))))
      (pss_cons (ps_set (i := 1) sc_law_kind_of.nd rfl (Or.inl rfl) (pe_op op_cat (pv 1) (pe_lst (pa_cons (pe_callB (call_isH (p := p) List.mem_cons_self eC zc ef) (by rfl) B_isinstance (by decide +kernel) (pa_cons (pv 0) (pa_cons (pe_glob (v := .ref c.NoText) rfl XT0.g_NoText rfl) pa_nil))) (pa_cons (pe_callB (call_isH (p := p) List.mem_cons_self eC zc ef) (by rfl) B_isinstance (by decide +kernel) (pa_cons (pv 0) (pa_cons (pe_glob (v := .ref c.NoWalker) rfl XT0.g_NoWalker rfl) pa_nil))) (pa_cons (pe_callB (call_isH (p := p) List.mem_cons_self eC zc ef) (by rfl) B_isinstance (by decide +kernel) (pa_cons (pv 0) (pa_cons (pe_glob (v := .ref c.NothingLeft) rfl XT0.g_NothingLeft rfl) pa_nil))) (pa_cons (pe_callB (call_isH (p := p) List.mem_cons_self eC zc ef) (by rfl) B_isinstance (by decide +kernel) (pa_cons (pv 0) (pa_cons (pe_glob (v := .ref c.TooMany) rfl XT0.g_TooMany rfl) pa_nil))) pa_nil)))))))
      (pss_cons (ps_expr (pe_bm PySem.F.plainAttrs_list PySem.F.slot_list_append PySem.F.type_list_append mt_append (pv 1) (pa_cons (pe_callB (call_isH (p := p) List.mem_cons_self eC zc ef) (by rfl) B_isinstance (by decide +kernel) (pa_cons (pv 0) (pa_cons (pe_bltn (v := .ty "ValueError") (by rfl) B_ValueError (by decide +kernel) rfl) pa_nil))) pa_nil)))
      (pss_cons (ps_set (i := 2) sc_law_kind_of.nd rfl (Or.inl rfl) (pe_lst (pa_cons pe_str (pa_cons pe_str (pa_cons pe_str (pa_cons pe_str (pa_cons pe_str (pa_cons pe_str (pa_cons pe_str (pa_cons pe_str (pa_cons pe_str pa_nil)))))))))))
      (pss_cons (ps_set (i := 2) sc_law_kind_of.nd rfl (Or.inl rfl) (pe_op op_cat (pv 2) (pe_lst (pa_cons pe_str (pa_cons pe_str (pa_cons pe_str (pa_cons pe_str (pa_cons pe_str (pa_cons pe_str (pa_cons pe_str (pa_cons pe_str pa_nil)))))))))))
      (pss_one (ps_ret (pe_bm PySem.F.plainAttrs_str PySem.F.slot_str_join PySem.F.type_str_join mt_joinR pe_str (pa_cons (pe_lcH (hotc_of hot (by rfl) (by exact List.mem_cons_self)) sc_law_kind_of.nd (pi_zipH (by rfl) B_zip (pa_cons (pv 2) (pa_cons (pv 1) pa_nil))) (blkOk_by (own := [("word", 4), ("one", 3)]) (N := nm_law_kind_of) (sc := defScope s_law_kind_of) (by decide +kernel)) (fun _ _ _ _ _ => (pg_tupHK (K := K) (n := 2) (hotc_of hot (by rfl) (by exact List.mem_cons_self)) (pgs_cons (pg_name (i := 4) sc_law_kind_of.nd rfl (Or.inl rfl)) (pgs_cons (pg_name (i := 3) sc_law_kind_of.nd rfl (Or.inl rfl)) pgs_nil)))) (fun _ _ _ _ _ => pts_one (pt_val (pv 3))) (fun _ _ _ _ _ => (pv 4))) pa_nil))))))))))), ?_⟩
  rw [st_law_kind_of]
  try dsimp only [Cx.nox, Cx.wish, Cx.blk, cx_K, cxH_K]
  walk_at "go"
  rename_i l1 H1 f1 e1 a1 l2 H2 f2 e2 a2 l3 H3 f3 e3 a3 l4 H4 f4 e4 a4 l5 H5 f5 e5 a5 l6 H6 f6 e6 a6 l7 H7 f7 e7 a7
  refine r_app a7 (Nat.le_of_ble_eq_true rfl) fun H8 k8' a8 => ?_
  have e8 : Ex H H8 := ((((((e1.trans e2).trans e3).trans e4).trans e5).trans e6)).kpd (free_back ((((((e1.trans e2).trans e3).trans e4).trans e5).trans e6)) f7) (e7.kp.trans k8')
  walk_at "go"
  rename_i m1 H9 g1 o1 b1 m2 H10 g2 o2 b2 m3 H11 g3 o3 b3
  have z8 := ((o1.trans o2).trans o3).at a8
  refine ⟨m3, l7, _, _, rfl, SqL.of b3, SqL.of z8, ?_⟩
  refine lc_zipF (ws := kindW) (bs := kindB i) (SqL.of b3) (SqL.of z8) rfl (by decide) (by intros; rfl) ?_ ?_ ?_
  · intro w f H' e' Q' q'
    walk_at "go"
    exact q' _ Ex.refl
  · intro w f H' e' Q' q'
    walk_at "go"
    exact q' _ Ex.refl
  · intro r H12 f12 e12 h12
    walk_at "go"
    refine r_join (SqL.of h12) (kind_len i hi) ?_
    rw [kind_txt i hi]
    walk_at "go"
    exact q _ (e8.trans (((o1.trans o2).trans o3).trans e12))

end
def sp_law_walk_told (_ : PySem.W.Frag) (C : Addr) : Sp := fun vs H Q _ => ∃ (p s l t : Addr) (a b m k : Int) (fo : List Int), vs = [.ref p, .ref t] ∧ WkAt C H p s l a b m k fo ∧ WkZ a b m k ∧ fo.length ≤ 50000 ∧
  ((∃ n, H t = some (.tup [.str "go", .int n]) ∧ ((0 ≤ n ∧ n < 1000000000000000000000000000000 ∧ ∀ r H', Kq [p, l] H H' → WkAt C H' p s l a b m (k + n) (fo ++ [k]) → H' r = some (.tup [.int (fs n.toNat a (a * k + b) m), .str ""]) → Q (.ref r) H') ∨ ((n < 0 ∨ 1000000000000000000000000000000 ≤ n) ∧ ∀ r H', Ex H H' → H' r = some (.tup [.str "none", .str "NoCount+"]) → Q (.ref r) H'))) ∨
   (∃ lo hi, H t = some (.tup [.str "find", .int lo, .int hi]) ∧ ((0 ≤ lo ∧ lo ≤ hi ∧ hi ≤ m ∧ (∀ r H', Ex H H' → FH a (a * k + b) m lo hi none → H' r = some (.tup [.non, .str ""]) → Q (.ref r) H') ∧ (∀ n r H', Kq [p, l] H H' → FH a (a * k + b) m lo hi (some n) → Sz 900 n → WkAt C H' p s l a b m (k + n) (fo ++ [k]) → H' r = some (.tup [.int n, .str ""]) → Q (.ref r) H')) ∨ (¬ (0 ≤ lo ∧ lo ≤ hi ∧ hi ≤ m) ∧ ∀ r H', Ex H H' → H' r = some (.tup [.str "none", .str "NoBounds+"]) → Q (.ref r) H'))) ∨
   (H t = some (.tup [.str "back"]) ∧ ((∃ fo' k0, fo = fo' ++ [k0] ∧ ∀ r H', Kq [p, l] H H' → WkAt C H' p s l a b m k0 fo' → H' r = some (.tup [.non, .str ""]) → Q (.ref r) H') ∨ (fo = [] ∧ ∀ r H', Ex H H' → H' r = some (.tup [.str "none", .str "NothingLeft+"]) → Q (.ref r) H'))))
section
variable {K : PySem.W.Frag} {C : Addr} {H : Hp} {Q : VK} {E : XK} {p s l t : Addr} {a b m k : Int} {fo : List Int} (W : WkAt C H p s l a b m k fo) (Z : WkZ a b m k) (lf : fo.length ≤ 50000)
include W Z lf
theorem use_told_go {n : Int} (ht : H t = some (.tup [.str "go", .int n])) (n0 : 0 ≤ n) (n1 : n < 1000000000000000000000000000000) (q : ∀ r H', Kq [p, l] H H' → WkAt C H' p s l a b m (k + n) (fo ++ [k]) → H' r = some (.tup [.int (fs n.toNat a (a * k + b) m), .str ""]) → Q (.ref r) H') : sp_law_walk_told K C [.ref p, .ref t] H Q E :=
  ⟨p, s, l, t, a, b, m, k, fo, rfl, W, Z, lf, .inl ⟨n, ht, .inl ⟨n0, n1, q⟩⟩⟩
theorem use_told_goX {n : Int} (ht : H t = some (.tup [.str "go", .int n])) (bad : n < 0 ∨ 1000000000000000000000000000000 ≤ n) (q : ∀ r H', Ex H H' → H' r = some (.tup [.str "none", .str "NoCount+"]) → Q (.ref r) H') : sp_law_walk_told K C [.ref p, .ref t] H Q E :=
  ⟨p, s, l, t, a, b, m, k, fo, rfl, W, Z, lf, .inl ⟨n, ht, .inr ⟨bad, q⟩⟩⟩
theorem use_told_find {lo hi : Int} (ht : H t = some (.tup [.str "find", .int lo, .int hi])) (h0 : 0 ≤ lo) (h1 : lo ≤ hi) (h2 : hi ≤ m) (q : ∀ r H', Ex H H' → FH a (a * k + b) m lo hi none → H' r = some (.tup [.non, .str ""]) → Q (.ref r) H')
    (q2 : ∀ n r H', Kq [p, l] H H' → FH a (a * k + b) m lo hi (some n) → Sz 900 n → WkAt C H' p s l a b m (k + n) (fo ++ [k]) → H' r = some (.tup [.int n, .str ""]) → Q (.ref r) H') : sp_law_walk_told K C [.ref p, .ref t] H Q E :=
  ⟨p, s, l, t, a, b, m, k, fo, rfl, W, Z, lf, .inr (.inl ⟨lo, hi, ht, .inl ⟨h0, h1, h2, q, q2⟩⟩)⟩
theorem use_told_findX {lo hi : Int} (ht : H t = some (.tup [.str "find", .int lo, .int hi])) (bad : ¬ (0 ≤ lo ∧ lo ≤ hi ∧ hi ≤ m)) (q : ∀ r H', Ex H H' → H' r = some (.tup [.str "none", .str "NoBounds+"]) → Q (.ref r) H') : sp_law_walk_told K C [.ref p, .ref t] H Q E :=
  ⟨p, s, l, t, a, b, m, k, fo, rfl, W, Z, lf, .inr (.inl ⟨lo, hi, ht, .inr ⟨bad, q⟩⟩)⟩
theorem use_told_back {fo' : List Int} {k0 : Int} (ht : H t = some (.tup [.str "back"])) (e : fo = fo' ++ [k0]) (q : ∀ r H', Kq [p, l] H H' → WkAt C H' p s l a b m k0 fo' → H' r = some (.tup [.non, .str ""]) → Q (.ref r) H') : sp_law_walk_told K C [.ref p, .ref t] H Q E :=
  ⟨p, s, l, t, a, b, m, k, fo, rfl, W, Z, lf, .inr (.inr ⟨ht, .inl ⟨fo', k0, e, q⟩⟩)⟩
theorem use_told_backX (ht : H t = some (.tup [.str "back"])) (e : fo = []) (q : ∀ r H', Ex H H' → H' r = some (.tup [.str "none", .str "NothingLeft+"]) → Q (.ref r) H') : sp_law_walk_told K C [.ref p, .ref t] H Q E :=
  ⟨p, s, l, t, a, b, m, k, fo, rfl, W, Z, lf, .inr (.inr ⟨ht, .inr ⟨e, q⟩⟩)⟩
end
abbrev s_law_walk_told : Stmt := topS 49
abbrev nm_law_walk_told : List Str := ["walker", "deed", "found", "kind", "e"]
theorem sc_law_walk_told : FnScope nm_law_walk_told ["walker", "deed"] (defScope s_law_walk_told) := ⟨rfl, rfl, rfl, by decide +kernel, rfl, by decide +kernel, by decide +kernel⟩
theorem st_law_walk_told {v0 v1 : V} : start nm_law_walk_told [v0, v1] = [some v0, some v1, none, none, none] := rfl
section
variable {P : Program} {w : World} {K : PySem.W.Frag} {mg : Str → Option Value} {base : Heap} {c : Cl}
theorem ok_law_walk_told {C_Walker : Addr} (D : DefAt K mg "_law_walk_told" s_law_walk_told ["walker", "deed"]) (U_Walker : TxC K mg "Walker" C_Walker ["stair", "at", "former"]) (XT0 : XT K mg c) (Y_NoCount : XD K c.NoCount) (Y_NoBounds : XD K c.NoBounds) (Y_NothingLeft : XD K c.NothingLeft) (G_Walker_go : HasM P w K mg base CX0 5 C_Walker "go" ["self", "n"] (sp_Walker_go K C_Walker)) (R_Walker_go : HasM P w K mg base (L2N.CX P w) 5 C_Walker "go" ["self", "n"] (spR_Walker_go K c C_Walker)) (G_Walker_find : HasM P w K mg base CX0 114 C_Walker "find" ["self", "low", "high"] (sp_Walker_find K C_Walker)) (R_Walker_find : HasM P w K mg base (L2N.CX P w) 114 C_Walker "find" ["self", "low", "high"] (spR_Walker_find K c C_Walker)) (G_Walker_back : HasM P w K mg base CX0 2 C_Walker "back" ["self"] (sp_Walker_back K C_Walker)) (R_Walker_back : HasM P w K mg base (L2N.CX P w) 2 C_Walker "back" ["self"] (spR_Walker_back K c C_Walker)) (E__law_kind_of : HasE P w K mg base 2 "_law_kind_of" ["e"] (KdK K c)) : Has P w K mg base CX0 115 "_law_walk_told" ["walker", "deed"] (sp_law_walk_told K C_Walker) := by
  refine D.ok sc_law_walk_told (by rintro _ _ _ _ ⟨_, _, _, _, _, _, _, _, _, rfl, _⟩; rfl) (fun f cdv A outer s H vs Q E hr h => ?_)
  obtain ⟨cl_Walker, mg_Walker, n_Walker_stair, n_Walker_at, n_Walker_former, _⟩ := U_Walker
  obtain ⟨p, s, l, t, a, b, m, k, fo, rfl, W, Z, lf, h⟩ := h
  obtain ⟨⟨dx, hp⟩, hs, hl⟩ := id W
  refine ⟨_, (pss_cons (ps_set (i := 2) sc_law_walk_told.nd rfl (Or.inl rfl) pe_str)
      (pss_cons (ps_set (i := 3) sc_law_walk_told.nd rfl (Or.inl rfl) pe_str)
      (pss_cons (ps_tryX (i := 4) rfl rfl sc_law_walk_told.nd rfl rfl (by rfl) (by decide) XT0.gS (fun W pn xe tk => (pss_one (ps_if (pt_cmpR op_eq (pe_ix (ix_tupK (K := K)) (pv 1) pe_int (fun _ _ => rfl)) pe_str (nomark _)) (pss_one (ps_set (i := 2) sc_law_walk_told.nd rfl (Or.inl rfl) (pe_ei (pmeth cl_Walker G_Walker_go (hr.mono (by decide)) (pv 0) (pa_cons (pe_ix (ix_tupK (K := K)) (pv 1) pe_int (fun _ _ => rfl)) pa_nil)) (pmethR cl_Walker R_Walker_go (hr.mono (by decide)) tk (pv 0) (pa_cons (pe_ix (ix_tupK (K := K)) (pv 1) pe_int (fun _ _ => rfl)) pa_nil))))) (pss_one (ps_if (pt_cmpR op_eq (pe_ix (ix_tupK (K := K)) (pv 1) pe_int (fun _ _ => rfl)) pe_str (nomark _)) (pss_one (ps_set (i := 2) sc_law_walk_told.nd rfl (Or.inl rfl) (pe_ei (pmeth cl_Walker G_Walker_find (hr.mono (by decide)) (pv 0) (pa_cons (pe_ix (ix_tupK (K := K)) (pv 1) pe_int (fun _ _ => rfl)) (pa_cons (pe_ix (ix_tupK (K := K)) (pv 1) pe_int (fun _ _ => rfl)) pa_nil))) (pmethR cl_Walker R_Walker_find (hr.mono (by decide)) tk (pv 0) (pa_cons (pe_ix (ix_tupK (K := K)) (pv 1) pe_int (fun _ _ => rfl)) (pa_cons (pe_ix (ix_tupK (K := K)) (pv 1) pe_int (fun _ _ => rfl)) pa_nil)))))) (pss_one (ps_set (i := 2) sc_law_walk_told.nd rfl (Or.inl rfl) (pe_ei (pmeth0 cl_Walker G_Walker_back (hr.mono (by decide)) (pv 0)) (pmethR0 cl_Walker R_Walker_back (hr.mono (by decide)) tk (pv 0)))))))))) (fun a oe cls d pn hz hf => (pss_one (ps_set (i := 3) sc_law_walk_told.nd rfl (Or.inl rfl) (pcallE E__law_kind_of (hr.mono (by decide)) hz hf (pa_cons (pv 4) pa_nil))))))
      (pss_one (ps_ret (pe_tup (pa_cons (pv 2) (pa_cons (pv 3) pa_nil)))))))), ?_⟩
  rw [st_law_walk_told]
  try dsimp only [Cx.nox, Cx.wish, Cx.blk, cx_K, cxH_K]
  rcases h with ⟨n, ht, h⟩ | ⟨lo, hi, ht, h⟩ | ⟨ht, h⟩
  · walk_at "go"
    rcases h with ⟨n0, n1, q⟩ | ⟨bad, q⟩
    · refine r_eiL ?_
      walk_at "go"
      refine use_Walker_go W Z lf n0 n1 fun H1 k1 W1 => ?_
      walk_at "go"
      rename_i r H2 n2 e2 h2
      exact q r H2 (k1.trans e2.kq) (W1.ex e2) h2
    · refine r_eiR ?_
      walk_at "go"
      refine ⟨p, n, rfl, bad, fun H1 e1 => w_as (XT0.xr XT0.g_NoCount XT0.t_NoCount Y_NoCount).em fun x hx => ?_⟩
      walk_at "go"
      refine ⟨rfl, rfl, _, kd_mk 2 Y_NoCount rfl, fun H2 e2 => ?_⟩
      walk_at "go"
      rename_i r H3 n3 e3 h3
      exact q r H3 ((e1.trans e2).trans e3) h3
  · walk_at "go"
    rcases h with ⟨h0, h1, h2, q, q2⟩ | ⟨bad, q⟩
    · refine r_eiL ?_
      walk_at "go"
      refine use_Walker_find W Z lf h0 h1 h2 (fun H1 e1 f => ?_) (fun n H1 k1 f zn W1 => ?_)
      · walk_at "go"
        rename_i r H2 n2 e2 h2
        exact q r H2 (e1.trans e2) f h2
      · walk_at "go"
        rename_i r H2 n2 e2 h2
        exact q2 n r H2 (k1.trans e2.kq) f zn (W1.ex e2) h2
    · refine r_eiR ?_
      walk_at "go"
      refine ⟨p, s, l, a, b, m, k, lo, hi, fo, rfl, W, bad, fun H1 e1 => w_as (XT0.xr XT0.g_NoBounds XT0.t_NoBounds Y_NoBounds).em fun x hx => ?_⟩
      walk_at "go"
      refine ⟨rfl, rfl, _, kd_mk 0 Y_NoBounds rfl, fun H2 e2 => ?_⟩
      walk_at "go"
      rename_i r H3 n3 e3 h3
      exact q r H3 ((e1.trans e2).trans e3) h3
  · walk_at "go"
    rcases h with ⟨fo', k0, rfl, q⟩ | ⟨rfl, q⟩
    · refine r_eiL ?_
      walk_at "go"
      refine use_Walker_back W fun H1 k1 W1 => ?_
      walk_at "go"
      rename_i r H2 n2 e2 h2
      exact q r H2 (k1.trans e2.kq) (W1.ex e2) h2
    · refine r_eiR ?_
      walk_at "go"
      refine ⟨p, s, l, a, b, m, k, rfl, W, fun H1 e1 => w_as (XT0.xr XT0.g_NothingLeft XT0.t_NothingLeft Y_NothingLeft).em fun x hx => ?_⟩
      walk_at "go"
      refine ⟨rfl, rfl, _, kd_mk 14 Y_NothingLeft rfl, fun H2 e2 => ?_⟩
      walk_at "go"
      rename_i r H3 n3 e3 h3
      exact q r H3 ((e1.trans e2).trans e3) h3

end
--@ needs Sum
/-- so many heights from a place on -/
def hts (a b m k : Int) (n : Nat) : List Int := (List.range n).map fun (i : Nat) => (a * (k + (i : Int)) + b) / m
theorem hts_sum (a b m : Int) : ∀ n : Nat, (hts a b m 0 n).sum = fs n a b m
  | 0 => by rw [fs_zero]; rfl
  | n + 1 => by
    have h := hts_sum a b m n
    unfold hts at h ⊢
    rw [List.range_succ, List.map_append, List.sum_append, h, fs_succ]
    simp
theorem hts_len (a b m k : Int) (n : Nat) : (hts a b m k n).length = n := by
  unfold hts
  rw [List.length_map, List.length_range]

def sp_law_heights (_ : PySem.W.Frag) : Sp := fun vs H Q _ => ∃ (p : Addr) (a b m k n : Int), vs = [.ref p, .int k, .int n] ∧ H p = some (.tup [.int a, .int b, .int m]) ∧ 0 < m ∧ Sz 2000 a ∧ Sz 2000 m ∧ Sz 2000 k ∧ 0 ≤ n ∧ n ≤ 50000 ∧ ∀ l H', H l = none → Ex H H' → H' l = some (.lst ((hts a b m k n.toNat).map V.int)) → Q (.ref l) H'
theorem use_law_heightsB {K : PySem.W.Frag} {H : Hp} {Q : VK} {E : XK} {p : Addr} {a b m k n : Int} (h : H p = some (.tup [.int a, .int b, .int m])) (hm : 0 < m) (za : Sz 2000 a) (zm : Sz 2000 m) (zk : Sz 2000 k) (n0 : 0 ≤ n) (n1 : n ≤ 50000)
    (q : ∀ l H', H l = none → Ex H H' → H' l = some (.lst ((hts a b m k n.toNat).map V.int)) → Q (.ref l) H') : sp_law_heights K [.ref p, .int k, .int n] H Q E := ⟨p, a, b, m, k, n, rfl, h, hm, za, zm, zk, n0, n1, q⟩
theorem use_law_heights {K : PySem.W.Frag} {H : Hp} {Q : VK} {E : XK} {p : Addr} {a b m k n : Int} (h : H p = some (.tup [.int a, .int b, .int m])) (hm : 0 < m) (za : Sz 2000 a) (zm : Sz 2000 m) (k0 : -(2 ^ 60) ≤ k) (k1 : k < 2 ^ 60) (n0 : 0 ≤ n) (n1 : n ≤ 50000)
    (q : ∀ l H', H l = none → Ex H H' → H' l = some (.lst ((hts a b m k n.toNat).map V.int)) → Q (.ref l) H') : sp_law_heights K [.ref p, .int k, .int n] H Q E := use_law_heightsB h hm za zm (show k.natAbs < 2 ^ 2000 from Nat.lt_of_lt_of_le (show k.natAbs < 2 ^ 61 by omega) (Nat.pow_le_pow_right (by decide) (by decide))) n0 n1 q
abbrev s_law_heights : Stmt := topS 42
abbrev nm_law_heights : List Str := ["stair", "k", "n", "a", "b", "m", "place"]
theorem sc_law_heights : FnScope nm_law_heights ["stair", "k", "n"] (defScope s_law_heights) := ⟨rfl, rfl, rfl, by decide +kernel, rfl, by decide +kernel, by decide +kernel⟩
theorem st_law_heights {v0 v1 v2 : V} : start nm_law_heights [v0, v1, v2] = [some v0, some v1, some v2, none, none, none, none] := rfl
section
variable {P : Program} {w : World} {K : PySem.W.Frag} {mg : Str → Option Value} {base : Heap} {c : Cl}
theorem ok_law_heights (D : DefAt K mg "_law_heights" s_law_heights ["stair", "k", "n"]) (B_range : mg "range" = none) : Has P w K mg base CX0 2 "_law_heights" ["stair", "k", "n"] (sp_law_heights K) := by
  refine D.ok sc_law_heights (by rintro _ _ _ _ ⟨_, _, _, _, _, _, rfl, _⟩; rfl) (fun f cdv A outer s H vs Q E hr h => ?_)
  obtain ⟨p, a, b, m, k, n, rfl, hp, hm, za, zm, zk, n0, n1, q⟩ := h
  refine ⟨_, (pss_cons (ps_asg (pv 0) (pg_tup (by rfl) (pgs_cons (pg_name (i := 3) sc_law_heights.nd rfl (Or.inr rfl)) (pgs_cons (pg_name (i := 4) sc_law_heights.nd rfl (Or.inr rfl)) (pgs_cons (pg_name (i := 5) sc_law_heights.nd rfl (Or.inr rfl)) pgs_nil)))))
      (pss_one (ps_ret (pe_lc rfl sc_law_heights.nd (pi_rng2 rfl B_range (pa_cons (pv 1) (pa_cons (pe_op op_add (pv 1) (pv 2)) pa_nil))) (blkOk_by (own := [("place", 6)]) (N := nm_law_heights) (sc := defScope s_law_heights) (by decide +kernel)) (fun _ _ _ _ _ => (pg_name (i := 6) sc_law_heights.nd rfl (Or.inl rfl))) (fun _ _ _ _ _ => pts_nil) (fun _ _ _ _ _ => (pe_op op_fdivW (pe_op op_add (pe_op op_mulX (pv 3) (pv 6)) (pv 4)) (pv 5))))))), ?_⟩
  rw [st_law_heights]
  try dsimp only [Cx.nox, Cx.wish, Cx.blk, cx_K, cxH_K]
  walk_at "go"
  refine r_rngL ?_
  have en : (k + n - k).toNat = n.toNat := by omega
  rw [en]
  refine lc_rngP (fun i => .int ((a * (k + i) + b) / m)) (by omega) (fun _ => rfl) (fun i hi H1 e1 QE kE => ?_) (fun l H1 nl e1 hl => ?_)
  · have zi : Sz 200 (i : Int) := Sz.small (by omega)
    try dsimp only [wipe, List.set_cons_succ, List.set_cons_zero]
    walk_at "go"
    exact kE _ Ex.refl
  · walk_at "go"
    refine q _ _ nl e1 ?_
    rw [hl]
    unfold hts
    rw [List.map_map]
    rfl

end
def sp_law_is_within (_ : PySem.W.Frag) : Sp := fun vs H Q _ => ∃ (p : Addr) (a b m k lo hi : Int), vs = [.ref p, .int k, .int lo, .int hi] ∧ H p = some (.tup [.int a, .int b, .int m]) ∧ 0 < m ∧ Sz 2900 a ∧ Sz 2900 k ∧ Q (.bl (decide (Ht a b m lo hi k))) H
theorem use_law_is_within {K : PySem.W.Frag} {H : Hp} {Q : VK} {E : XK} {p : Addr} {a b m k lo hi : Int} (hp : H p = some (.tup [.int a, .int b, .int m])) (hm : 0 < m) (za : Sz 2900 a) (zk : Sz 2900 k) (q : Q (.bl (decide (Ht a b m lo hi k))) H) : sp_law_is_within K [.ref p, .int k, .int lo, .int hi] H Q E :=
  ⟨p, a, b, m, k, lo, hi, rfl, hp, hm, za, zk, q⟩
abbrev s_law_is_within : Stmt := topS 43
abbrev nm_law_is_within : List Str := ["stair", "k", "low", "high", "a", "b", "m", "left"]
theorem sc_law_is_within : FnScope nm_law_is_within ["stair", "k", "low", "high"] (defScope s_law_is_within) := ⟨rfl, rfl, rfl, by decide +kernel, rfl, by decide +kernel, by decide +kernel⟩
theorem st_law_is_within {v0 v1 v2 v3 : V} : start nm_law_is_within [v0, v1, v2, v3] = [some v0, some v1, some v2, some v3, none, none, none, none] := rfl
section
variable {P : Program} {w : World} {K : PySem.W.Frag} {mg : Str → Option Value} {base : Heap} {c : Cl}
theorem ok_law_is_within (D : DefAt K mg "_law_is_within" s_law_is_within ["stair", "k", "low", "high"]) : Has P w K mg base CX0 2 "_law_is_within" ["stair", "k", "low", "high"] (sp_law_is_within K) := by
  refine D.ok sc_law_is_within (by rintro _ _ _ _ ⟨_, _, _, _, _, _, _, rfl, _⟩; rfl) (fun f cdv A outer s H vs Q E hr h => ?_)
  obtain ⟨p, a, b, m, k, lo, hi, rfl, hp, hm, za, zk, q⟩ := h
  refine ⟨_, (pss_cons (ps_asg (pv 0) (pg_tup (by rfl) (pgs_cons (pg_name (i := 4) sc_law_is_within.nd rfl (Or.inl rfl)) (pgs_cons (pg_name (i := 5) sc_law_is_within.nd rfl (Or.inl rfl)) (pgs_cons (pg_name (i := 6) sc_law_is_within.nd rfl (Or.inl rfl)) pgs_nil)))))
      (pss_cons (ps_set (i := 7) sc_law_is_within.nd rfl (Or.inl rfl) (pe_op op_mod (pe_op op_add (pe_op op_mulX (pv 4) (pv 1)) (pv 5)) (pv 6)))
      (pss_one (ps_ret (pe_and (pe_cmpR op_le (pv 2) (pv 7) (nomark _)) (pe_one (pe_cmpR op_lt (pv 7) (pv 3) (nomark _)))))))), ?_⟩
  rw [st_law_is_within]
  try dsimp only [Cx.nox, Cx.wish, Cx.blk, cx_K, cxH_K]
  walk_at "go"
  refine if_2 (fun h1 => ?_) (fun h1 => ?_)
  · have h1 := of_decide_eq_true h1
    walk_at "go"
    have e : decide ((a * k + b) % m < hi) = decide (Ht a b m lo hi k) := by
      unfold Ht
      simp [h1]
    rw [e]
    exact q
  · have h1 := of_decide_eq_false h1
    have e : decide (Ht a b m lo hi k) = false := decide_eq_false fun z => h1 z.1
    rw [e] at q
    exact q

end
def sp_law_due (_ : PySem.W.Frag) : Sp := fun vs H Q _ => ∃ (s lp t : Addr) (a b m k : Int) (fo : List Int) (dd : DD), vs = [.ref s, .ref lp, .ref t] ∧ H s = some (.tup [.int a, .int b, .int m]) ∧ H lp = some (.lst ((fo ++ [k]).map V.int)) ∧ H t = some (.tup dd.v) ∧ 0 < m ∧ m ≤ 60 ∧ Sz 600 a ∧ Sz 600 k ∧ fo.length ≤ 50000 ∧
  (∀ n, dd = .go n → n ≤ 90 ∨ 1000000000000000000000000000000 ≤ n) ∧ ∀ r res k' fo' H', Out a b m k fo dd res k' fo' → Kp lp H H' → H' lp = some (.lst ((fo' ++ [k']).map V.int)) → H' r = some (.tup (res.map Fd.v)) → Q (.ref r) H'
theorem use_law_due {K : PySem.W.Frag} {H : Hp} {Q : VK} {E : XK} {s lp t : Addr} {a b m k : Int} {fo : List Int} {dd : DD} (hs : H s = some (.tup [.int a, .int b, .int m])) (hl : H lp = some (.lst ((fo ++ [k]).map V.int))) (ht : H t = some (.tup dd.v)) (m0 : 0 < m) (m1 : m ≤ 60) (za : Sz 600 a) (zk : Sz 600 k) (lf : fo.length ≤ 50000)
  (dn : ∀ n, dd = .go n → n ≤ 90 ∨ 1000000000000000000000000000000 ≤ n) (q : ∀ r res k' fo' H', Out a b m k fo dd res k' fo' → Kp lp H H' → H' lp = some (.lst ((fo' ++ [k']).map V.int)) → H' r = some (.tup (res.map Fd.v)) → Q (.ref r) H') : sp_law_due K [.ref s, .ref lp, .ref t] H Q E :=
  ⟨s, lp, t, a, b, m, k, fo, dd, rfl, hs, hl, ht, m0, m1, za, zk, lf, dn, q⟩
/-- the first place of a filtered range -/
theorem filt_first {c : Nat → Bool} : ∀ {n : Nat}, ((List.range n).filter c = [] ∧ ∀ i, i < n → c i = false) ∨ ∃ y r, (List.range n).filter c = y :: r ∧ y < n ∧ c y = true ∧ ∀ i, i < y → c i = false
  | 0 => .inl ⟨rfl, fun i h => by omega⟩
  | n + 1 => by
    rw [List.range_succ, List.filter_append]
    rcases filt_first (c := c) (n := n) with ⟨e, h⟩ | ⟨y, r, e, l, t, h⟩
    · rw [e]
      cases hc : c n with
      | true => exact .inr ⟨n, [], by simp [hc], by omega, hc, h⟩
      | false =>
        refine .inl ⟨by simp [hc], fun i hi => ?_⟩
        by_cases z : i = n
        · rw [z]; exact hc
        · exact h i (by omega)
    · rw [e]
      exact .inr ⟨y, _, rfl, by omega, t, h⟩
abbrev s_law_due : Stmt := topS 54
abbrev nm_law_due : List Str := ["stair", "past", "deed", "at", "some", "k"]
theorem sc_law_due : FnScope nm_law_due ["stair", "past", "deed"] (defScope s_law_due) := ⟨rfl, rfl, rfl, by decide +kernel, rfl, by decide +kernel, by decide +kernel⟩
theorem st_law_due {v0 v1 v2 : V} : start nm_law_due [v0, v1, v2] = [some v0, some v1, some v2, none, none, none] := rfl
section
variable {P : Program} {w : World} {K : PySem.W.Frag} {mg : Str → Option Value} {base : Heap} {c : Cl}
theorem ok_law_due (D : DefAt K mg "_law_due" s_law_due ["stair", "past", "deed"]) (B_len : mg "len" = none) (B_sum : mg "sum" = none) (B_range : mg "range" = none) (G__law_heights : Has P w K mg base CX0 2 "_law_heights" ["stair", "k", "n"] (sp_law_heights K)) (G__law_is_within : Has P w K mg base CX0 2 "_law_is_within" ["stair", "k", "low", "high"] (sp_law_is_within K)) : Has P w K mg base CX0 3 "_law_due" ["stair", "past", "deed"] (sp_law_due K) := by
  refine D.ok sc_law_due (by rintro _ _ _ _ ⟨_, _, _, _, _, _, _, _, _, rfl, _⟩; rfl) (fun f cdv A outer s H vs Q E hr h => ?_)
  obtain ⟨s, lp, t, a, b, m, k, fo, dd, rfl, hs, hl, ht, m0, m1, za, zk, lf, dn, q⟩ := h
  have zm : Sz 200 m := Sz.small (by omega)
  refine ⟨_, (pss_cons (ps_set (i := 3) sc_law_due.nd rfl (Or.inr rfl) (pe_ix ix_list (pv 1) (pe_un un_neg pe_int) (fun _ _ => rfl)))
      (pss_cons (ps_if (pt_cmpR op_eq (pe_ix ix_tup (pv 2) pe_int (fun _ _ => rfl)) pe_str (nomark _)) (pss_cons (ps_if (pt_cmpR op_eq (pe_callB cl_len (by rfl) B_len (by decide +kernel) (pa_cons (pv 1) pa_nil)) pe_int (nomark _)) (pss_one (ps_ret (pe_tup (pa_cons pe_str (pa_cons pe_str pa_nil))))) pss_nil)
        (pss_cons (ps_expr (pe_bm0 PySem.F.plainAttrs_list PySem.F.slot_list_pop PySem.F.type_list_pop mt_pop (pv 1)))
        (pss_one (ps_ret (pe_tup (pa_cons pe_non (pa_cons pe_str pa_nil))))))) pss_nil)
      (pss_cons (ps_if (pt_cmpR op_eq (pe_ix ix_tup (pv 2) pe_int (fun _ _ => rfl)) pe_str (nomark _)) (pss_cons (ps_if (PW.pt (pw_or (pt_cmpR op_lt (pe_ix ix_tup (pv 2) pe_int (fun _ _ => rfl)) pe_int (nomark _)) (pw_or1 (pt_cmpR op_ge (pe_ix ix_tup (pv 2) pe_int (fun _ _ => rfl)) (pe_op op_pow pe_int pe_int) (nomark _))))) (pss_one (ps_ret (pe_tup (pa_cons pe_str (pa_cons pe_str pa_nil))))) pss_nil)
        (pss_cons (ps_expr (pe_bm PySem.F.plainAttrs_list PySem.F.slot_list_append PySem.F.type_list_append mt_append (pv 1) (pa_cons (pe_op op_add (pv 3) (pe_ix ix_tup (pv 2) pe_int (fun _ _ => rfl))) pa_nil)))
        (pss_one (ps_ret (pe_tup (pa_cons (pe_callB (cr_sum rfl) (by rfl) B_sum (by decide +kernel) (pa_cons (pcall G__law_heights (hr.mono (by decide)) (pa_cons (pv 0) (pa_cons (pv 3) (pa_cons (pe_ix ix_tup (pv 2) pe_int (fun _ _ => rfl)) pa_nil)))) pa_nil)) (pa_cons pe_str pa_nil))))))) pss_nil)
      (pss_cons (ps_if (pt_not (pt_chain3 op_le op_le op_le pe_int (pe_ix ix_tup (pv 2) pe_int (fun _ _ => rfl)) (pe_ix ix_tup (pv 2) pe_int (fun _ _ => rfl)) (pe_ix ix_tup (pv 0) pe_int (fun _ _ => rfl)))) (pss_one (ps_ret (pe_tup (pa_cons pe_str (pa_cons pe_str pa_nil))))) pss_nil)
      (pss_cons (ps_setLc (i := 4) rfl sc_law_due.nd rfl rfl (sw_true rfl rfl rfl (by decide +kernel)) (pi_range1 rfl B_range (pa_cons (pe_ix ix_tup (pv 0) pe_int (fun _ _ => rfl)) pa_nil)) (blkOk_by (own := [("k", 5)]) (N := nm_law_due) (sc := defScope s_law_due) (by decide +kernel)) (fun _ _ _ _ _ => (pg_name (i := 5) sc_law_due.nd rfl (Or.inl rfl))) (fun _ _ _ _ _ => pts_one (pt_val (pcall G__law_is_within (hr.mono (by decide)) (pa_cons (pv 0) (pa_cons (pe_op op_add (pv 3) (pv 5)) (pa_cons (pe_ix (ix_tupK (K := K)) (pv 2) pe_int (fun _ _ => rfl)) (pa_cons (pe_ix (ix_tupK (K := K)) (pv 2) pe_int (fun _ _ => rfl)) pa_nil))))))) (fun _ _ _ _ _ => (pv 5)))
      (pss_cons (ps_if (pt_cmpR (op_eqD hr.units) (pv 4) (pe_lst pa_nil) (nomark _)) (pss_one (ps_ret (pe_tup (pa_cons pe_non (pa_cons pe_str pa_nil))))) pss_nil)
      (pss_cons (ps_expr (pe_bm PySem.F.plainAttrs_list PySem.F.slot_list_append PySem.F.type_list_append mt_append (pv 1) (pa_cons (pe_op op_add (pv 3) (pe_ix ix_list (pv 4) pe_int (fun _ _ => rfl))) pa_nil)))
      (pss_one (ps_ret (pe_tup (pa_cons (pe_ix ix_list (pv 4) pe_int (fun _ _ => rfl)) (pa_cons pe_str pa_nil)))))))))))), ?_⟩
  rw [st_law_due]
  try dsimp only [Cx.nox, Cx.wish, Cx.blk, cx_K, cxH_K]
  walk_at "go"
  refine r_ixL (SqL.of hl) (at_lastI fo k) ?_
  cases dd with
  | back =>
    have ht : H t = some (.tup [.str "back"]) := ht
    walk_at "go"
    refine if_2 (fun hx => ?_) (fun hx => ?_)
    · have hx := of_decide_eq_true hx
      obtain rfl : fo = [] := by
        cases fo with
        | nil => rfl
        | cons y ys =>
          simp at hx
          omega
      walk_at "go"
      rename_i r H1 n1 e1 h1
      exact q r _ _ _ H1 (.backX rfl) e1.kp (e1.at hl) h1
    · have hx := of_decide_eq_false hx
      obtain ⟨fo', k0', rfl⟩ : ∃ fo' k0', fo = fo' ++ [k0'] := by
        rcases List.eq_nil_or_concat fo with rfl | ⟨L, b, rfl⟩
        · simp at hx
        · exact ⟨L, b, by rw [List.concat_eq_append]⟩
      walk_at "go"
      refine rPop_I hl fun H1 k1 h1 => ?_
      walk_at "go"
      rename_i r H2 n2 e2 h2
      exact q r _ _ _ H2 (.back rfl) (k1.trans e2.kp) (e2.at h1) h2
  | go n =>
    have ht : H t = some (.tup [.str "go", .int n]) := ht
    walk_at "go"
    refine if_2 (fun hx => ?_) (fun hx => ?_)
    · have hx := of_decide_eq_true hx
      walk_at "go"
      rename_i r H1 n1 e1 h1
      exact q r _ _ _ H1 (.goX (.inl hx)) e1.kp (e1.at hl) h1
    · have hx := of_decide_eq_false hx
      walk_at "go"
      refine if_2 (fun hy => ?_) (fun hy => ?_)
      · have hy := of_decide_eq_true hy
        walk_at "go"
        rename_i r H1 n1 e1 h1
        exact q r _ _ _ H1 (.goX (.inr hy)) e1.kp (e1.at hl) h1
      · have hy := of_decide_eq_false hy
        have n90 : n ≤ 90 := by
          have := dn n rfl
          omega
        walk_at "go"
        refine r_app hl (by simp; omega) fun H1 k1 h1 => ?_
        have hs1 := k1.tupL hl hs
        have ht1 := k1.tupL hl ht
        walk_at "go"
        refine use_law_heightsB hs1 m0 (za.mono (by decide)) (zm.mono (by decide)) (zk.mono (by decide)) (by omega) (by omega) fun l2 H2 nl2 e2 h2 => ?_
        walk_at "go"
        refine r_sum (SqL.of h2) ?_
        walk_at "go"
        rename_i r H3 n3 e3 h3
        have es : (hts a b m k n.toNat).sum = fs n.toNat a (a * k + b) m := by
          rw [← hts_sum a (a * k + b) m n.toNat]
          unfold hts
          congr 1
          refine List.map_congr_left fun i _ => ?_
          rw [show a * (k + (i : Int)) + b = a * (0 + (i : Int)) + (a * k + b) by grind]
        rw [es] at h3
        exact q r _ _ _ H3 (.go (by omega) (by omega)) (k1.trans (e2.trans e3).kp) (by rw [(e2.trans e3).at h1]; simp) h3
  | find lo hi =>
    have ht : H t = some (.tup [.str "find", .int lo, .int hi]) := ht
    walk_at "go"
    by_cases ok : 0 ≤ lo ∧ lo ≤ hi ∧ hi ≤ m
    · obtain ⟨l0, lh, hm⟩ := id ok
      walk_at "go"
      refine r_rng1 (by omega) (by omega) ?_
      refine lc_rngF (fun (i : Nat) => decide (Ht a b m lo hi (k + (i : Int)))) (fun (i : Nat) => .int (i : Int)) (by omega) (fun _ => rfl) (fun i hi' G eG QT kT => ?_) (fun i hi' hc G eG QE kE => ?_) (fun l1 H1 nl1 e1 h1 => ?_)
      · have zi : Sz 200 (0 + (i : Int)) := Sz.small (by omega)
        have hsG := eG.at hs
        have htG := eG.at ht
        walk_at "go"
        refine use_law_is_within hsG m0 (za.mono (by decide)) (by walk_at "szm") ?_
        rw [show k + (0 + (i : Int)) = k + (i : Int) by omega]
        walk_at "go"
        exact kT _ Ex.refl
      · walk_at "go"
        rw [show 0 + (i : Int) = (i : Int) by omega]
        exact kE _ Ex.refl
      · have hl1 := e1.at hl
        rcases filt_first (c := fun (i : Nat) => decide (Ht a b m lo hi (k + (i : Int)))) (n := m.toNat) with ⟨e, no⟩ | ⟨y, rr, e, yl, yt, no⟩
        · rw [e] at h1
          have h1 : H1 l1 = some (.lst []) := h1
          walk_at "go"
          rename_i l2 H2 n2 e2 h2
          refine r_eqL (xs := []) (ys := []) (SqL.of (e2.at h1)) (SqL.of h2) ?_
          rw [decide_eq_true rfl]
          walk_at "go"
          rename_i r H3 n3 e3 h3
          refine q r _ _ _ H3 (.no ok (FH_period m0 fun j j0 jm w => ?_)) ((e1.trans e2).trans e3).kp ((e2.trans e3).at hl1) h3
          have := of_decide_eq_false (no j.toNat (by omega))
          rw [show ((j.toNat : Nat) : Int) = j by omega] at this
          exact this (Ht_move.mp w)
        · rw [e] at h1
          have h1' : H1 l1 = some (.lst (((y : Int) :: rr.map fun (i : Nat) => (i : Int)).map V.int)) := by
            rw [h1]
            simp
          clear h1
          walk_at "go"
          rename_i l2 H2 n2 e2 h2
          refine r_eqL (ys := []) (SqL.of (e2.at h1')) (SqL.of h2) ?_
          rw [decide_eq_false (by simp)]
          have h12 : SqL K H2 l1 (V.int y :: (rr.map fun (i : Nat) => (i : Int)).map V.int) := SqL.of (e2.at h1')
          have hl2 := e2.at hl1
          walk_at "go"
          refine r_ixL (v := .int y) h12 at_0 ?_
          walk_at "go"
          refine r_app hl2 (by simp; omega) fun H3 k3 h3 => ?_
          have ne : l1 ≠ lp := (ne_of_none hl nl1).symm
          have h13 : SqL K H3 l1 (V.int y :: (rr.map fun (i : Nat) => (i : Int)).map V.int) := SqL.of (k3 _ _ ne (e2.at h1'))
          walk_at "go"
          refine r_ixL (v := .int y) h13 at_0 ?_
          walk_at "go"
          rename_i r H4 n4 e4 h4
          refine q r _ _ _ H4 (.find ok ⟨by omega, Ht_move.mpr (of_decide_eq_true yt), fun j j0 jy w => ?_⟩) (((e1.trans e2).kp.trans k3).trans e4.kp) (by rw [e4.at h3]; simp) h4
          have := of_decide_eq_false (no j.toNat (by omega))
          rw [show ((j.toNat : Nat) : Int) = j by omega] at this
          exact this (Ht_move.mp w)
    · refine if_2 (fun h1 => ?_) (fun h1 => ?_)
      · have h1 := of_decide_eq_true h1
        walk_at "go"
        refine if_2 (fun h2 => ?_) (fun h2 => ?_)
        · have h2 := of_decide_eq_true h2
          walk_at "go"
          rename_i r H3 n3 e3 h3
          exact q r _ _ _ H3 (.findX ok) e3.kp (e3.at hl) h3
        · walk_at "go"
          rename_i r H3 n3 e3 h3
          exact q r _ _ _ H3 (.findX ok) e3.kp (e3.at hl) h3
      · walk_at "go"
        rename_i r H3 n3 e3 h3
        exact q r _ _ _ H3 (.findX ok) e3.kp (e3.at hl) h3

end
def sp_counted (_ : PySem.W.Frag) : Sp := fun vs H Q _ => ∃ (p : Addr) (a b m n lo hi : Int), vs = [.ref p, .int n, .int lo, .int hi] ∧ H p = some (.tup [.int a, .int b, .int m]) ∧ 0 < m ∧ Sz 3000 n ∧ Sz 3000 a ∧ Sz 3000 b ∧ Sz 900 m ∧ Sz 900 lo ∧ Sz 900 hi ∧ Q (.int (cn n.toNat a b m lo hi)) H
theorem use_counted {K : PySem.W.Frag} {H : Hp} {Q : VK} {E : XK} {p : Addr} {a b m n lo hi : Int} (h : H p = some (.tup [.int a, .int b, .int m])) (hm : 0 < m) (zn : Sz 3000 n) (za : Sz 3000 a) (zb : Sz 3000 b) (zm : Sz 900 m) (z0 : Sz 900 lo) (z1 : Sz 900 hi) (q : Q (.int (cn n.toNat a b m lo hi)) H) : sp_counted K [.ref p, .int n, .int lo, .int hi] H Q E :=
  ⟨p, a, b, m, n, lo, hi, rfl, h, hm, zn, za, zb, zm, z0, z1, q⟩
abbrev s_counted : Stmt := topS 33
abbrev nm_counted : List Str := ["stair", "n", "low", "high", "a", "b", "m"]
theorem sc_counted : FnScope nm_counted ["stair", "n", "low", "high"] (defScope s_counted) := ⟨rfl, rfl, rfl, by decide +kernel, rfl, by decide +kernel, by decide +kernel⟩
theorem st_counted {v0 v1 v2 v3 : V} : start nm_counted [v0, v1, v2, v3] = [some v0, some v1, some v2, some v3, none, none, none] := rfl
section
variable {P : Program} {w : World} {K : PySem.W.Frag} {mg : Str → Option Value} {base : Heap} {c : Cl}
theorem ok_counted (D : DefAt K mg "counted" s_counted ["stair", "n", "low", "high"]) (G_summed : Has P w K mg base CX0 2 "summed" ["n", "a", "b", "m"] (sp_summed K)) : Has P w K mg base CX0 3 "counted" ["stair", "n", "low", "high"] (sp_counted K) := by
  refine D.ok sc_counted (by rintro _ _ _ _ ⟨_, _, _, _, _, _, _, rfl, _⟩; rfl) (fun f cdv A outer s H vs Q E hr h => ?_)
  obtain ⟨p, a, b, m, n, lo, hi, rfl, hp, hm, zn, za, zb, zm, z0, z1, q⟩ := h
  refine ⟨_, (pss_cons (ps_asg (pv 0) (pg_tup (by rfl) (pgs_cons (pg_name (i := 4) sc_counted.nd rfl (Or.inl rfl)) (pgs_cons (pg_name (i := 5) sc_counted.nd rfl (Or.inl rfl)) (pgs_cons (pg_name (i := 6) sc_counted.nd rfl (Or.inl rfl)) pgs_nil)))))
      (pss_one (ps_ret (pe_op op_sub (pcall G_summed (hr.mono (by decide)) (pa_cons (pv 1) (pa_cons (pv 4) (pa_cons (pe_op op_sub (pv 5) (pv 2)) (pa_cons (pv 6) pa_nil))))) (pcall G_summed (hr.mono (by decide)) (pa_cons (pv 1) (pa_cons (pv 4) (pa_cons (pe_op op_sub (pv 5) (pv 3)) (pa_cons (pv 6) pa_nil))))))))), ?_⟩
  rw [st_counted]
  try dsimp only [Cx.nox, Cx.wish, Cx.blk, cx_K, cxH_K]
  walk_at "go"
  refine use_summed hm (zn.mono (by decide)) (za.mono (by decide)) (by walk_at "szm") (zm.mono (by decide)) ?_
  walk_at "go"
  refine use_summed hm (zn.mono (by decide)) (za.mono (by decide)) (by walk_at "szm") (zm.mono (by decide)) ?_
  walk_at "go"
  unfold cn at q
  exact q

end
def sp_Walker_often (_ : PySem.W.Frag) (C : Addr) : Sp := fun vs H Q _ => ∃ (p s l : Addr) (a b m k lo hi : Int) (fo : List Int), vs = [.ref p, .int lo, .int hi] ∧ WkAt C H p s l a b m k fo ∧ WkZ a b m k ∧ 0 ≤ lo ∧ lo ≤ hi ∧ hi ≤ m ∧ Q (.int (cn k.toNat a b m lo hi)) H
theorem use_Walker_often {K : PySem.W.Frag} {C : Addr} {H : Hp} {Q : VK} {E : XK} {p s l : Addr} {a b m k lo hi : Int} {fo : List Int} (W : WkAt C H p s l a b m k fo) (Z : WkZ a b m k) (h0 : 0 ≤ lo) (h1 : lo ≤ hi) (h2 : hi ≤ m) (q : Q (.int (cn k.toNat a b m lo hi)) H) : sp_Walker_often K C [.ref p, .int lo, .int hi] H Q E :=
  ⟨p, s, l, a, b, m, k, lo, hi, fo, rfl, W, Z, h0, h1, h2, q⟩
abbrev s_Walker_often : Stmt := inClass (topS 40) 9
abbrev nm_Walker_often : List Str := ["self", "low", "high"]
theorem sc_Walker_often : FnScope nm_Walker_often ["self", "low", "high"] (defScope s_Walker_often) := ⟨rfl, rfl, rfl, by decide +kernel, rfl, by decide +kernel, by decide +kernel⟩
theorem st_Walker_often {v0 v1 v2 : V} : start nm_Walker_often [v0, v1, v2] = [some v0, some v1, some v2] := rfl
section
variable {P : Program} {w : World} {K : PySem.W.Frag} {mg : Str → Option Value} {base : Heap} {c : Cl}
theorem ok_Walker_often {C_Walker : Addr} (D : MetAt K C_Walker "often" "Walker.often" s_Walker_often ["self", "low", "high"]) (U_Walker : TxC K mg "Walker" C_Walker ["stair", "at", "former"]) (G_need_bounds : Has P w K mg base CX0 2 "need_bounds" ["stair", "low", "high"] (sp_need_bounds K)) (G_counted : Has P w K mg base CX0 3 "counted" ["stair", "n", "low", "high"] (sp_counted K)) : HasM P w K mg base CX0 4 C_Walker "often" ["self", "low", "high"] (sp_Walker_often K C_Walker) := by
  refine D.ok sc_Walker_often (by rintro _ _ _ _ ⟨_, _, _, _, _, _, _, _, _, _, rfl, _⟩; rfl) (fun f cdv A outer s H vs Q E hr h => ?_)
  obtain ⟨cl_Walker, mg_Walker, n_Walker_stair, n_Walker_at, n_Walker_former, _⟩ := U_Walker
  obtain ⟨p, s, l, a, b, m, k, lo, hi, fo, rfl, ⟨⟨dx, hp⟩, hs, hl⟩, Z, h0, h1, h2, q⟩ := h
  have m0 := Z.m0
  refine ⟨_, (pss_cons (ps_expr (pcall G_need_bounds (hr.mono (by decide)) (pa_cons (pe_fld (pv 0) rfl) (pa_cons (pv 1) (pa_cons (pv 2) pa_nil)))))
      (pss_one (ps_ret (pcall G_counted (hr.mono (by decide)) (pa_cons (pe_fld (pv 0) rfl) (pa_cons (pe_fld (pv 0) rfl) (pa_cons (pv 1) (pa_cons (pv 2) pa_nil)))))))), ?_⟩
  rw [st_Walker_often]
  try dsimp only [Cx.nox, Cx.wish, Cx.blk, cx_K, cxH_K]
  walk_at "go"
  refine use_need_bounds hs h0 h1 h2 ?_
  walk_at "go"
  exact use_counted hs Z.m0 (Z.zk.mono (by decide)) (Z.za.mono (by decide)) (Z.zb.mono (by decide)) (Z.zm.mono (by decide)) ((Z.zm.le (by omega) (by omega)).mono (by decide)) ((Z.zm.le (by omega) (by omega)).mono (by decide)) q

end
def sp_Walker_total (_ : PySem.W.Frag) (C : Addr) : Sp := fun vs H Q _ => ∃ (p s l : Addr) (a b m k : Int) (fo : List Int), vs = [.ref p] ∧ WkAt C H p s l a b m k fo ∧ WkZ a b m k ∧ Q (.int (fs k.toNat a b m)) H
theorem use_Walker_total {K : PySem.W.Frag} {C : Addr} {H : Hp} {Q : VK} {E : XK} {p s l : Addr} {a b m k : Int} {fo : List Int} (W : WkAt C H p s l a b m k fo) (Z : WkZ a b m k) (q : Q (.int (fs k.toNat a b m)) H) : sp_Walker_total K C [.ref p] H Q E := ⟨p, s, l, a, b, m, k, fo, rfl, W, Z, q⟩
abbrev s_Walker_total : Stmt := inClass (topS 40) 8
abbrev nm_Walker_total : List Str := ["self", "a", "b", "m"]
theorem sc_Walker_total : FnScope nm_Walker_total ["self"] (defScope s_Walker_total) := ⟨rfl, rfl, rfl, by decide +kernel, rfl, by decide +kernel, by decide +kernel⟩
theorem st_Walker_total {v0 : V} : start nm_Walker_total [v0] = [some v0, none, none, none] := rfl
section
variable {P : Program} {w : World} {K : PySem.W.Frag} {mg : Str → Option Value} {base : Heap} {c : Cl}
theorem ok_Walker_total {C_Walker : Addr} (D : MetAt K C_Walker "total" "Walker.total" s_Walker_total ["self"]) (U_Walker : TxC K mg "Walker" C_Walker ["stair", "at", "former"]) (G_summed : Has P w K mg base CX0 2 "summed" ["n", "a", "b", "m"] (sp_summed K)) : HasM P w K mg base CX0 3 C_Walker "total" ["self"] (sp_Walker_total K C_Walker) := by
  refine D.ok sc_Walker_total (by rintro _ _ _ _ ⟨_, _, _, _, _, _, _, _, rfl, _⟩; rfl) (fun f cdv A outer s H vs Q E hr h => ?_)
  obtain ⟨cl_Walker, mg_Walker, n_Walker_stair, n_Walker_at, n_Walker_former, _⟩ := U_Walker
  obtain ⟨p, s, l, a, b, m, k, fo, rfl, ⟨⟨dx, hp⟩, hs, hl⟩, Z, q⟩ := h
  refine ⟨_, (pss_cons (ps_asg (pe_fld (pv 0) rfl) (pg_tup (by rfl) (pgs_cons (pg_name (i := 1) sc_Walker_total.nd rfl (Or.inl rfl)) (pgs_cons (pg_name (i := 2) sc_Walker_total.nd rfl (Or.inl rfl)) (pgs_cons (pg_name (i := 3) sc_Walker_total.nd rfl (Or.inl rfl)) pgs_nil)))))
      (pss_one (ps_ret (pcall G_summed (hr.mono (by decide)) (pa_cons (pe_fld (pv 0) rfl) (pa_cons (pv 1) (pa_cons (pv 2) (pa_cons (pv 3) pa_nil)))))))), ?_⟩
  rw [st_Walker_total]
  try dsimp only [Cx.nox, Cx.wish, Cx.blk, cx_K, cxH_K]
  walk_at "go"
  exact use_summed Z.m0 (Z.zk.mono (by decide)) (Z.za.mono (by decide)) (Z.zb.mono (by decide)) (Z.zm.mono (by decide)) q

end
def sp_rest (_ : PySem.W.Frag) : Sp := fun vs H Q _ => ∃ (p : Addr) (a b m k : Int), vs = [.ref p, .int k] ∧ H p = some (.tup [.int a, .int b, .int m]) ∧ 0 < m ∧ Sz 2000 a ∧ Sz 2000 k ∧ Sz 2000 m ∧ ∀ H', Ex H H' → Q (.int ((a * k + b) % m)) H'
theorem use_rest {K : PySem.W.Frag} {H : Hp} {Q : VK} {E : XK} {p : Addr} {a b m k : Int} (h : H p = some (.tup [.int a, .int b, .int m])) (hm : 0 < m) (za : Sz 2000 a) (zk : Sz 2000 k) (zm : Sz 2000 m)
    (q : ∀ H', Ex H H' → Q (.int ((a * k + b) % m)) H') : sp_rest K [.ref p, .int k] H Q E := ⟨p, a, b, m, k, rfl, h, hm, za, zk, zm, q⟩
abbrev s_rest : Stmt := topS 24
abbrev nm_rest : List Str := ["stair", "k", "a", "b", "m"]
theorem sc_rest : FnScope nm_rest ["stair", "k"] (defScope s_rest) := ⟨rfl, rfl, rfl, by decide +kernel, rfl, by decide +kernel, by decide +kernel⟩
theorem st_rest {v0 v1 : V} : start nm_rest [v0, v1] = [some v0, some v1, none, none, none] := rfl
section
variable {P : Program} {w : World} {K : PySem.W.Frag} {mg : Str → Option Value} {base : Heap} {c : Cl}
theorem ok_rest (D : DefAt K mg "rest" s_rest ["stair", "k"]) (G_need_stair : Has P w K mg base CX0 4 "need_stair" ["thing"] (sp_need_stair K)) : Has P w K mg base CX0 5 "rest" ["stair", "k"] (sp_rest K) := by
  refine D.ok sc_rest (by rintro _ _ _ _ ⟨_, _, _, _, _, rfl, _⟩; rfl) (fun f cdv A outer s H vs Q E hr h => ?_)
  obtain ⟨p, a, b, m, k, rfl, hp, hm, za, zk, zm, q⟩ := h
  refine ⟨_, (pss_cons (ps_expr (pcall G_need_stair (hr.mono (by decide)) (pa_cons (pv 0) pa_nil)))
      (pss_cons (ps_asg (pv 0) (pg_tup (by rfl) (pgs_cons (pg_name (i := 2) sc_rest.nd rfl (Or.inl rfl)) (pgs_cons (pg_name (i := 3) sc_rest.nd rfl (Or.inl rfl)) (pgs_cons (pg_name (i := 4) sc_rest.nd rfl (Or.inl rfl)) pgs_nil)))))
      (pss_one (ps_ret (pe_op op_mod (pe_op op_add (pe_op op_mulX (pv 2) (pv 1)) (pv 3)) (pv 4)))))), ?_⟩
  rw [st_rest]
  try dsimp only [Cx.nox, Cx.wish, Cx.blk, cx_K, cxH_K]
  walk_at "go"
  refine use_need_stair hp hm fun H1 e1 => ?_
  walk_at "go"
  exact q _ e1

end
def sp_Walker_rest (_ : PySem.W.Frag) (C : Addr) : Sp := fun vs H Q _ => ∃ (p s l : Addr) (a b m k : Int) (fo : List Int), vs = [.ref p] ∧ WkAt C H p s l a b m k fo ∧ WkZ a b m k ∧ ∀ H', Ex H H' → Q (.int ((a * k + b) % m)) H'
theorem use_Walker_rest {K : PySem.W.Frag} {C : Addr} {H : Hp} {Q : VK} {E : XK} {p s l : Addr} {a b m k : Int} {fo : List Int} (W : WkAt C H p s l a b m k fo) (Z : WkZ a b m k) (q : ∀ H', Ex H H' → Q (.int ((a * k + b) % m)) H') : sp_Walker_rest K C [.ref p] H Q E := ⟨p, s, l, a, b, m, k, fo, rfl, W, Z, q⟩
abbrev s_Walker_rest : Stmt := inClass (topS 40) 7
abbrev nm_Walker_rest : List Str := ["self"]
theorem sc_Walker_rest : FnScope nm_Walker_rest ["self"] (defScope s_Walker_rest) := ⟨rfl, rfl, rfl, by decide +kernel, rfl, by decide +kernel, by decide +kernel⟩
theorem st_Walker_rest {v0 : V} : start nm_Walker_rest [v0] = [some v0] := rfl
section
variable {P : Program} {w : World} {K : PySem.W.Frag} {mg : Str → Option Value} {base : Heap} {c : Cl}
theorem ok_Walker_rest {C_Walker : Addr} (D : MetAt K C_Walker "rest" "Walker.rest" s_Walker_rest ["self"]) (U_Walker : TxC K mg "Walker" C_Walker ["stair", "at", "former"]) (A_rest_stairs : mg "rest_stairs" = mg "rest") (G_rest : Has P w K mg base CX0 5 "rest" ["stair", "k"] (sp_rest K)) : HasM P w K mg base CX0 6 C_Walker "rest" ["self"] (sp_Walker_rest K C_Walker) := by
  refine D.ok sc_Walker_rest (by rintro _ _ _ _ ⟨_, _, _, _, _, _, _, _, rfl, _⟩; rfl) (fun f cdv A outer s H vs Q E hr h => ?_)
  obtain ⟨cl_Walker, mg_Walker, n_Walker_stair, n_Walker_at, n_Walker_former, _⟩ := U_Walker
  have G_rest_stairs := G_rest.alias A_rest_stairs
  obtain ⟨p, s, l, a, b, m, k, fo, rfl, ⟨⟨dx, hp⟩, hs, hl⟩, Z, q⟩ := h
  refine ⟨_, (pss_one (ps_ret (pcall G_rest_stairs (hr.mono (by decide)) (pa_cons (pe_fld (pv 0) rfl) (pa_cons (pe_fld (pv 0) rfl) pa_nil))))), ?_⟩
  rw [st_Walker_rest]
  try dsimp only [Cx.nox, Cx.wish, Cx.blk, cx_K, cxH_K]
  walk_at "go"
  exact use_rest hs Z.m0 (Z.za.mono (by decide)) (Z.zk.mono (by decide)) (Z.zm.mono (by decide)) q

end
def sp_height (_ : PySem.W.Frag) : Sp := fun vs H Q _ => ∃ (p : Addr) (a b m k : Int), vs = [.ref p, .int k] ∧ H p = some (.tup [.int a, .int b, .int m]) ∧ 0 < m ∧ Sz 2000 a ∧ Sz 2000 k ∧ Sz 2000 m ∧ ∀ H', Ex H H' → Q (.int ((a * k + b) / m)) H'
theorem use_height {K : PySem.W.Frag} {H : Hp} {Q : VK} {E : XK} {p : Addr} {a b m k : Int} (h : H p = some (.tup [.int a, .int b, .int m])) (hm : 0 < m) (za : Sz 2000 a) (zk : Sz 2000 k) (zm : Sz 2000 m)
    (q : ∀ H', Ex H H' → Q (.int ((a * k + b) / m)) H') : sp_height K [.ref p, .int k] H Q E := ⟨p, a, b, m, k, rfl, h, hm, za, zk, zm, q⟩
abbrev s_height : Stmt := topS 22
abbrev nm_height : List Str := ["stair", "k", "a", "b", "m"]
theorem sc_height : FnScope nm_height ["stair", "k"] (defScope s_height) := ⟨rfl, rfl, rfl, by decide +kernel, rfl, by decide +kernel, by decide +kernel⟩
theorem st_height {v0 v1 : V} : start nm_height [v0, v1] = [some v0, some v1, none, none, none] := rfl
section
variable {P : Program} {w : World} {K : PySem.W.Frag} {mg : Str → Option Value} {base : Heap} {c : Cl}
theorem ok_height (D : DefAt K mg "height" s_height ["stair", "k"]) (G_need_stair : Has P w K mg base CX0 4 "need_stair" ["thing"] (sp_need_stair K)) : Has P w K mg base CX0 5 "height" ["stair", "k"] (sp_height K) := by
  refine D.ok sc_height (by rintro _ _ _ _ ⟨_, _, _, _, _, rfl, _⟩; rfl) (fun f cdv A outer s H vs Q E hr h => ?_)
  obtain ⟨p, a, b, m, k, rfl, hp, hm, za, zk, zm, q⟩ := h
  refine ⟨_, (pss_cons (ps_expr (pcall G_need_stair (hr.mono (by decide)) (pa_cons (pv 0) pa_nil)))
      (pss_cons (ps_asg (pv 0) (pg_tup (by rfl) (pgs_cons (pg_name (i := 2) sc_height.nd rfl (Or.inl rfl)) (pgs_cons (pg_name (i := 3) sc_height.nd rfl (Or.inl rfl)) (pgs_cons (pg_name (i := 4) sc_height.nd rfl (Or.inl rfl)) pgs_nil)))))
      (pss_one (ps_ret (pe_op op_fdivW (pe_op op_add (pe_op op_mulX (pv 2) (pv 1)) (pv 3)) (pv 4)))))), ?_⟩
  rw [st_height]
  try dsimp only [Cx.nox, Cx.wish, Cx.blk, cx_K, cxH_K]
  walk_at "go"
  refine use_need_stair hp hm fun H1 e1 => ?_
  walk_at "go"
  exact q _ e1

end
def sp_Walker_height (_ : PySem.W.Frag) (C : Addr) : Sp := fun vs H Q _ => ∃ (p s l : Addr) (a b m k : Int) (fo : List Int), vs = [.ref p] ∧ WkAt C H p s l a b m k fo ∧ WkZ a b m k ∧ ∀ H', Ex H H' → Q (.int ((a * k + b) / m)) H'
theorem use_Walker_height {K : PySem.W.Frag} {C : Addr} {H : Hp} {Q : VK} {E : XK} {p s l : Addr} {a b m k : Int} {fo : List Int} (W : WkAt C H p s l a b m k fo) (Z : WkZ a b m k) (q : ∀ H', Ex H H' → Q (.int ((a * k + b) / m)) H') : sp_Walker_height K C [.ref p] H Q E := ⟨p, s, l, a, b, m, k, fo, rfl, W, Z, q⟩
abbrev s_Walker_height : Stmt := inClass (topS 40) 6
abbrev nm_Walker_height : List Str := ["self"]
theorem sc_Walker_height : FnScope nm_Walker_height ["self"] (defScope s_Walker_height) := ⟨rfl, rfl, rfl, by decide +kernel, rfl, by decide +kernel, by decide +kernel⟩
theorem st_Walker_height {v0 : V} : start nm_Walker_height [v0] = [some v0] := rfl
section
variable {P : Program} {w : World} {K : PySem.W.Frag} {mg : Str → Option Value} {base : Heap} {c : Cl}
theorem ok_Walker_height {C_Walker : Addr} (D : MetAt K C_Walker "height" "Walker.height" s_Walker_height ["self"]) (U_Walker : TxC K mg "Walker" C_Walker ["stair", "at", "former"]) (A_height_stairs : mg "height_stairs" = mg "height") (G_height : Has P w K mg base CX0 5 "height" ["stair", "k"] (sp_height K)) : HasM P w K mg base CX0 6 C_Walker "height" ["self"] (sp_Walker_height K C_Walker) := by
  refine D.ok sc_Walker_height (by rintro _ _ _ _ ⟨_, _, _, _, _, _, _, _, rfl, _⟩; rfl) (fun f cdv A outer s H vs Q E hr h => ?_)
  obtain ⟨cl_Walker, mg_Walker, n_Walker_stair, n_Walker_at, n_Walker_former, _⟩ := U_Walker
  have G_height_stairs := G_height.alias A_height_stairs
  obtain ⟨p, s, l, a, b, m, k, fo, rfl, ⟨⟨dx, hp⟩, hs, hl⟩, Z, q⟩ := h
  refine ⟨_, (pss_one (ps_ret (pcall G_height_stairs (hr.mono (by decide)) (pa_cons (pe_fld (pv 0) rfl) (pa_cons (pe_fld (pv 0) rfl) pa_nil))))), ?_⟩
  rw [st_Walker_height]
  try dsimp only [Cx.nox, Cx.wish, Cx.blk, cx_K, cxH_K]
  walk_at "go"
  exact use_height hs Z.m0 (Z.za.mono (by decide)) (Z.zk.mono (by decide)) (Z.zm.mono (by decide)) q

end
def sp_Walker_place (_ : PySem.W.Frag) (C : Addr) : Sp := fun vs H Q _ => ∃ (p s l : Addr) (a b m k : Int) (fo : List Int), vs = [.ref p] ∧ WkAt C H p s l a b m k fo ∧ Q (.int k) H
theorem use_Walker_place {K : PySem.W.Frag} {C : Addr} {H : Hp} {Q : VK} {E : XK} {p s l : Addr} {a b m k : Int} {fo : List Int} (W : WkAt C H p s l a b m k fo) (q : Q (.int k) H) : sp_Walker_place K C [.ref p] H Q E := ⟨p, s, l, a, b, m, k, fo, rfl, W, q⟩
abbrev s_Walker_place : Stmt := inClass (topS 40) 5
abbrev nm_Walker_place : List Str := ["self"]
theorem sc_Walker_place : FnScope nm_Walker_place ["self"] (defScope s_Walker_place) := ⟨rfl, rfl, rfl, by decide +kernel, rfl, by decide +kernel, by decide +kernel⟩
theorem st_Walker_place {v0 : V} : start nm_Walker_place [v0] = [some v0] := rfl
section
variable {P : Program} {w : World} {K : PySem.W.Frag} {mg : Str → Option Value} {base : Heap} {c : Cl}
theorem ok_Walker_place {C_Walker : Addr} (D : MetAt K C_Walker "place" "Walker.place" s_Walker_place ["self"]) (U_Walker : TxC K mg "Walker" C_Walker ["stair", "at", "former"]) : HasM P w K mg base CX0 2 C_Walker "place" ["self"] (sp_Walker_place K C_Walker) := by
  refine D.ok sc_Walker_place (by rintro _ _ _ _ ⟨_, _, _, _, _, _, _, _, rfl, _⟩; rfl) (fun f cdv A outer s H vs Q E hr h => ?_)
  obtain ⟨cl_Walker, mg_Walker, n_Walker_stair, n_Walker_at, n_Walker_former, _⟩ := U_Walker
  obtain ⟨p, s, l, a, b, m, k, fo, rfl, ⟨⟨dx, hp⟩, hs, hl⟩, q⟩ := h
  refine ⟨_, (pss_one (ps_ret (pe_fld (pv 0) rfl))), ?_⟩
  rw [st_Walker_place]
  try dsimp only [Cx.nox, Cx.wish, Cx.blk, cx_K, cxH_K]
  walk_at "go"
  exact q

end
def sp_law_whole (_ : PySem.W.Frag) : Sp := fun vs H Q _ => ∃ i : Int, vs = [.int i] ∧ Q (.bl true) H
theorem use_law_whole {K : PySem.W.Frag} {H : Hp} {Q : VK} {E : XK} {i : Int} (k : Q (.bl true) H) : sp_law_whole K [.int i] H Q E := ⟨i, rfl, k⟩
abbrev s_law_whole : Stmt := topS 50
abbrev nm_law_whole : List Str := ["thing"]
theorem sc_law_whole : FnScope nm_law_whole ["thing"] (defScope s_law_whole) := ⟨rfl, rfl, rfl, by decide +kernel, rfl, by decide +kernel, by decide +kernel⟩
theorem st_law_whole {v0 : V} : start nm_law_whole [v0] = [some v0] := rfl
section
variable {P : Program} {w : World} {K : PySem.W.Frag} {mg : Str → Option Value} {base : Heap} {c : Cl}
theorem ok_law_whole (D : DefAt K mg "_law_whole" s_law_whole ["thing"]) (B_isinstance : mg "isinstance" = none) (B_int : mg "int" = none) (B_bool : mg "bool" = none) : Has P w K mg base CX0 2 "_law_whole" ["thing"] (sp_law_whole K) := by
  refine D.ok sc_law_whole (by rintro _ _ _ _ ⟨_, rfl, _⟩; rfl) (fun f cdv A outer s H vs Q E hr h => ?_)
  obtain ⟨i, rfl, k⟩ := h
  refine ⟨_, (pss_one (ps_ret (pe_and (pe_callB call_isi (by rfl) B_isinstance (by decide +kernel) (pa_cons (pv 0) (pa_cons (pe_bltn (v := .ty "int") (by rfl) B_int (by decide +kernel) rfl) pa_nil))) (pe_one (pe_not (pe_callB call_isi (by rfl) B_isinstance (by decide +kernel) (pa_cons (pv 0) (pa_cons (pe_bltn (v := .ty "bool") (by rfl) B_bool (by decide +kernel) rfl) pa_nil)))))))), ?_⟩
  rw [st_law_whole]
  try dsimp only [Cx.nox, Cx.wish, Cx.blk, cx_K, cxH_K]
  walk_at "go"
  exact k

end
def sp_law_quick (_ : PySem.W.Frag) : Sp := fun vs H Q _ => ∃ (p : Addr) (a b m n : Int), vs = [.ref p, .int n] ∧ H p = some (.tup [.int a, .int b, .int m]) ∧ 0 < m ∧ Sz 3000 a ∧ Sz 3000 b ∧ Sz 3000 m ∧ Sz 3000 n ∧ 0 ≤ n ∧ ∀ H', Ex H H' → Q (.int (fs n.toNat a b m)) H'
theorem use_law_quick {K : PySem.W.Frag} {H : Hp} {Q : VK} {E : XK} {p : Addr} {a b m n : Int} (h : H p = some (.tup [.int a, .int b, .int m])) (hm : 0 < m) (za : Sz 3000 a) (zb : Sz 3000 b) (zm : Sz 3000 m) (zn : Sz 3000 n) (h0 : 0 ≤ n)
    (q : ∀ H', Ex H H' → Q (.int (fs n.toNat a b m)) H') : sp_law_quick K [.ref p, .int n] H Q E := ⟨p, a, b, m, n, rfl, h, hm, za, zb, zm, zn, h0, q⟩
/-- what is kept from turn to turn -/
theorem quick_turn {L a b m : Int} (hm : 0 < m) (h0 : 0 ≤ L) : fs (L + 1).toNat a b m = a / m * (L * (L + 1) / 2) + b / m * (L + 1) + (L * ((a % m * L + b % m) / m) - fs ((a % m * L + b % m) / m).toNat m (m - b % m - 1) (a % m)) := by
  obtain ⟨n, rfl⟩ : ∃ n : Nat, L = n := ⟨L.toNat, by omega⟩
  have e1 : ((n : Int) + 1).toNat = n + 1 := by omega
  rw [e1, fs_split (n + 1) a b hm, fs_quick (b % m) (Int.emod_nonneg a (show m ≠ 0 by omega)) (Int.emod_nonneg b (show m ≠ 0 by omega)) (Int.emod_lt_of_pos b hm) n]
  have e2 : (((n + 1 : Nat) : Int)) = (n : Int) + 1 := rfl
  rw [e2, show ((n : Int) + 1) * ((n : Int) + 1 - 1) = (n : Int) * ((n : Int) + 1) by rw [show (n : Int) + 1 - 1 = n by omega, Int.mul_comm]]
abbrev s_law_quick : Stmt := topS 51
abbrev nm_law_quick : List Str := ["stair", "n", "a", "b", "m", "last", "total", "sign", "square", "top"]
theorem sc_law_quick : FnScope nm_law_quick ["stair", "n"] (defScope s_law_quick) := ⟨rfl, rfl, rfl, by decide +kernel, rfl, by decide +kernel, by decide +kernel⟩
theorem st_law_quick {v0 v1 : V} : start nm_law_quick [v0, v1] = [some v0, some v1, none, none, none, none, none, none, none, none] := rfl
section
variable {P : Program} {w : World} {K : PySem.W.Frag} {mg : Str → Option Value} {base : Heap} {c : Cl}
theorem ok_law_quick (D : DefAt K mg "_law_quick" s_law_quick ["stair", "n"]) : Has P w K mg base CX0 2 "_law_quick" ["stair", "n"] (sp_law_quick K) := by
  refine D.ok sc_law_quick (by rintro _ _ _ _ ⟨_, _, _, _, _, rfl, _⟩; rfl) (fun f cdv A outer s H vs Q E hr h => ?_)
  obtain ⟨p, a, b, m, n, rfl, hp, hm, za, zb, zm, zn, h0, q⟩ := h
  refine ⟨_, (pss_cons (ps_asg (pv 0) (pg_tup (by rfl) (pgs_cons (pg_name (i := 2) sc_law_quick.nd rfl (Or.inl rfl)) (pgs_cons (pg_name (i := 3) sc_law_quick.nd rfl (Or.inl rfl)) (pgs_cons (pg_name (i := 4) sc_law_quick.nd rfl (Or.inl rfl)) pgs_nil)))))
      (pss_cons (ps_set (i := 5) sc_law_quick.nd rfl (Or.inl rfl) (pe_op op_sub (pv 1) pe_int))
      (pss_cons (ps_set (i := 6) sc_law_quick.nd rfl (Or.inl rfl) pe_int)
      (pss_cons (ps_set (i := 7) sc_law_quick.nd rfl (Or.inl rfl) pe_int)
      (pss_cons (ps_while PassesOwn.never (pt_cmpR op_ge (pv 5) pe_int (nomark _)) (pss_cons (ps_set (i := 8) sc_law_quick.nd rfl (Or.inl rfl) (pe_op op_fdivW (pe_op op_mulX (pv 5) (pe_op op_add (pv 5) pe_int)) pe_int))
        (pss_cons (ps_set (i := 6) sc_law_quick.nd rfl (Or.inl rfl) (pe_op op_add (pv 6) (pe_op op_mulX (pv 7) (pe_op op_add (pe_op op_mulX (pe_op op_fdivW (pv 2) (pv 4)) (pv 8)) (pe_op op_mulX (pe_op op_fdivW (pv 3) (pv 4)) (pe_op op_add (pv 5) pe_int))))))
        (pss_cons (ps_set (i := 2) sc_law_quick.nd rfl (Or.inl rfl) (pe_op op_mod (pv 2) (pv 4)))
        (pss_cons (ps_set (i := 3) sc_law_quick.nd rfl (Or.inl rfl) (pe_op op_mod (pv 3) (pv 4)))
        (pss_cons (ps_set (i := 9) sc_law_quick.nd rfl (Or.inl rfl) (pe_op op_fdivW (pe_op op_add (pe_op op_mulX (pv 2) (pv 5)) (pv 3)) (pv 4)))
        (pss_cons (ps_set (i := 6) sc_law_quick.nd rfl (Or.inl rfl) (pe_op op_add (pv 6) (pe_op op_mulX (pe_op op_mulX (pv 7) (pv 5)) (pv 9))))
        (pss_cons (ps_set (i := 7) sc_law_quick.nd rfl (Or.inl rfl) (pe_op op_sub pe_int (pv 7)))
        (pss_one (ps_asg (pe_tup (pa_cons (pe_op op_sub (pv 9) pe_int) (pa_cons (pv 4) (pa_cons (pe_op op_sub (pe_op op_sub (pv 4) (pv 3)) pe_int) (pa_cons (pv 2) pa_nil))))) (pg_tup (by rfl) (pgs_cons (pg_name (i := 5) sc_law_quick.nd rfl (Or.inl rfl)) (pgs_cons (pg_name (i := 2) sc_law_quick.nd rfl (Or.inl rfl)) (pgs_cons (pg_name (i := 3) sc_law_quick.nd rfl (Or.inl rfl)) (pgs_cons (pg_name (i := 4) sc_law_quick.nd rfl (Or.inl rfl)) pgs_nil)))))))))))))))
      (pss_one (ps_ret (pv 6)))))))), ?_⟩
  rw [st_law_quick]
  try dsimp only [Cx.nox, Cx.wish, Cx.blk, cx_K, cxH_K]
  walk_at "go"
  refine while_m (fun μ σ H' => Ex H H' ∧ ∃ (a' b' m' L t s : Int) (o1 o2 : Option V), σ = [some (.ref p), some (.int n), some (.int a'), some (.int b'), some (.int m'), some (.int L), some (.int t), some (.int s), o1, o2] ∧ μ = m'.toNat ∧ 0 ≤ m' ∧ (0 ≤ L → 0 < m') ∧ -1 ≤ L ∧ Sz 3000 a' ∧ Sz 3000 b' ∧ Sz 3000 m' ∧ Sz 3300 L ∧ (s = 1 ∨ s = -1) ∧ t + s * fs (L + 1).toNat a' b' m' = fs n.toNat a b m)
    m.toNat ⟨Ex.refl, a, b, m, n - 1, 0, 1, none, none, rfl, rfl, by omega, fun _ => hm, by omega, za, zb, zm, by walk_at "szm", .inl rfl, by rw [show n - 1 + 1 = n by omega]; omega⟩ ?_
  rintro μ σ H1 ⟨e1, a', b', m', L, t, s, o1, o2, rfl, rfl, m0, hLm, L0, za', zb', zm', zL, hs, e⟩
  walk_at "go"
  refine if_2 (fun hx => ?_) (fun hx => ?_)
  · have hx := of_decide_eq_true hx
    have mp := hLm hx
    refine r_body (fun σ H' => Ex H H' ∧ ∃ (a1 b1 m1 L1 t1 s1 : Int) (o1 o2 : Option V), σ = [some (.ref p), some (.int n), some (.int a1), some (.int b1), some (.int m1), some (.int L1), some (.int t1), some (.int s1), o1, o2] ∧ m1.toNat < m'.toNat ∧ 0 ≤ m1 ∧ (0 ≤ L1 → 0 < m1) ∧ -1 ≤ L1 ∧ Sz 3000 a1 ∧ Sz 3000 b1 ∧ Sz 3000 m1 ∧ Sz 3300 L1 ∧ (s1 = 1 ∨ s1 = -1) ∧ t1 + s1 * fs (L1 + 1).toNat a1 b1 m1 = fs n.toNat a b m) ?_ ?_
    · rintro σ H2 ⟨e2, a1, b1, m1, L1, t1, s1, o1, o2, rfl, lt, r⟩
      exact ⟨_, lt, e2, a1, b1, m1, L1, t1, s1, o1, o2, rfl, rfl, r⟩
    have r0 := Int.emod_nonneg a' (show m' ≠ 0 by omega)
    have r1 := Int.emod_lt_of_pos a' mp
    have s0 := Int.emod_nonneg b' (show m' ≠ 0 by omega)
    have s1 := Int.emod_lt_of_pos b' mp
    have zs : Sz 200 s := Sz.small (by omega)
    have rn : 0 ≤ a' % m' * L := Int.mul_nonneg r0 (by omega)
    have y0 : 0 ≤ (a' % m' * L + b' % m') / m' := Int.ediv_nonneg (by omega) (by omega)
    have y1 : (a' % m' * L + b' % m') / m' ≤ L := by
      have h : (a' % m' * L + b' % m') / m' < L + 1 := by
        refine (Int.ediv_lt_iff_lt_mul mp).mpr ?_
        have h1 : a' % m' * L ≤ (m' - 1) * L := Int.mul_le_mul_of_nonneg_right (by omega) hx
        rw [Int.sub_mul, Int.one_mul] at h1
        rw [Int.add_mul, Int.one_mul, Int.mul_comm L m']
        omega
      omega
    have qt := quick_turn (a := a') (b := b') mp hx
    walk_at "go"
    rename_i tp H2 ntp e2 htp
    walk_at "go"
    refine ⟨e1.trans e2, _, _, _, _, _, _, _, _, rfl, by omega, r0, fun yp => ?_, by omega, zm', ?_, Sz.mod zm' mp, ?_, by omega, ?_⟩
    · by_cases z : a' % m' = 0
      · rw [z, Int.zero_mul, Int.zero_add, Int.ediv_eq_zero_of_lt s0 s1] at yp
        omega
      · omega
    · exact zm'.le (by omega) (by omega)
    · by_cases yz : (a' % m' * L + b' % m') / m' = 0
      · rw [yz]
        exact Sz.mono (n := 200) Sz.lit (by decide)
      · exact zL.le (by omega) (by omega)
    · rw [← e, qt]
      generalize (a' % m' * L + b' % m') / m' = y at y0 y1 ⊢
      rw [show y - 1 + 1 = y by omega]
      generalize fs y.toNat m' (m' - b' % m' - 1) (a' % m') = F
      generalize a' / m' * (L * (L + 1) / 2) + b' / m' * (L + 1) = G
      rcases hs with rfl | rfl
      · rw [Int.one_mul, Int.one_mul, Int.one_mul]
        omega
      · rw [show (-1 : Int) * L * y = -(L * y) by rw [Int.mul_assoc, Int.neg_mul, Int.one_mul]]
        omega
  · have hx := of_decide_eq_false hx
    walk_at "go"
    have e0 : (L + 1).toNat = 0 := by omega
    rw [e0, fs_zero] at e
    rw [show t = fs n.toNat a b m by omega]
    exact q _ e1

end
def sp_law_counted (_ : PySem.W.Frag) : Sp := fun vs H Q _ => ∃ (p : Addr) (a b m n lo hi : Int), vs = [.ref p, .int n, .int lo, .int hi] ∧ H p = some (.tup [.int a, .int b, .int m]) ∧ 0 < m ∧ Sz 2900 a ∧ Sz 2500 b ∧ Sz 200 m ∧ Sz 900 n ∧ Sz 200 lo ∧ Sz 200 hi ∧ 0 ≤ n ∧ ∀ H', Ex H H' → Q (.int (cn n.toNat a b m lo hi)) H'
theorem use_law_counted {K : PySem.W.Frag} {H : Hp} {Q : VK} {E : XK} {p : Addr} {a b m n lo hi : Int} (hp : H p = some (.tup [.int a, .int b, .int m])) (hm : 0 < m) (za : Sz 2900 a) (zb : Sz 2500 b) (zm : Sz 200 m) (zn : Sz 900 n) (zl : Sz 200 lo) (zh : Sz 200 hi) (n0 : 0 ≤ n) (q : ∀ H', Ex H H' → Q (.int (cn n.toNat a b m lo hi)) H') : sp_law_counted K [.ref p, .int n, .int lo, .int hi] H Q E :=
  ⟨p, a, b, m, n, lo, hi, rfl, hp, hm, za, zb, zm, zn, zl, zh, n0, q⟩
abbrev s_law_counted : Stmt := topS 52
abbrev nm_law_counted : List Str := ["stair", "n", "low", "high", "a", "b", "m"]
theorem sc_law_counted : FnScope nm_law_counted ["stair", "n", "low", "high"] (defScope s_law_counted) := ⟨rfl, rfl, rfl, by decide +kernel, rfl, by decide +kernel, by decide +kernel⟩
theorem st_law_counted {v0 v1 v2 v3 : V} : start nm_law_counted [v0, v1, v2, v3] = [some v0, some v1, some v2, some v3, none, none, none] := rfl
section
variable {P : Program} {w : World} {K : PySem.W.Frag} {mg : Str → Option Value} {base : Heap} {c : Cl}
theorem ok_law_counted (D : DefAt K mg "_law_counted" s_law_counted ["stair", "n", "low", "high"]) (G__law_quick : Has P w K mg base CX0 2 "_law_quick" ["stair", "n"] (sp_law_quick K)) : Has P w K mg base CX0 3 "_law_counted" ["stair", "n", "low", "high"] (sp_law_counted K) := by
  refine D.ok sc_law_counted (by rintro _ _ _ _ ⟨_, _, _, _, _, _, _, rfl, _⟩; rfl) (fun f cdv A outer s H vs Q E hr h => ?_)
  obtain ⟨p, a, b, m, n, lo, hi, rfl, hp, hm, za, zb, zm, zn, zl, zh, n0, q⟩ := h
  refine ⟨_, (pss_cons (ps_asg (pv 0) (pg_tup (by rfl) (pgs_cons (pg_name (i := 4) sc_law_counted.nd rfl (Or.inl rfl)) (pgs_cons (pg_name (i := 5) sc_law_counted.nd rfl (Or.inl rfl)) (pgs_cons (pg_name (i := 6) sc_law_counted.nd rfl (Or.inl rfl)) pgs_nil)))))
      (pss_one (ps_ret (pe_op op_sub (pcall G__law_quick (hr.mono (by decide)) (pa_cons (pe_tup (pa_cons (pv 4) (pa_cons (pe_op op_sub (pv 5) (pv 2)) (pa_cons (pv 6) pa_nil)))) (pa_cons (pv 1) pa_nil))) (pcall G__law_quick (hr.mono (by decide)) (pa_cons (pe_tup (pa_cons (pv 4) (pa_cons (pe_op op_sub (pv 5) (pv 3)) (pa_cons (pv 6) pa_nil)))) (pa_cons (pv 1) pa_nil))))))), ?_⟩
  rw [st_law_counted]
  try dsimp only [Cx.nox, Cx.wish, Cx.blk, cx_K, cxH_K]
  walk_at "go"
  rename_i t1 H1 n1 e1 h1
  refine use_law_quick h1 hm (za.mono (by decide)) (by walk_at "szm") (zm.mono (by decide)) (zn.mono (by decide)) n0 fun H2 e2 => ?_
  walk_at "go"
  rename_i t3 H3 n3 e3 h3
  refine use_law_quick h3 hm (za.mono (by decide)) (by walk_at "szm") (zm.mono (by decide)) (zn.mono (by decide)) n0 fun H4 e4 => ?_
  walk_at "go"
  have q' := q H4 (e1.trans (e2.trans (e3.trans e4)))
  unfold cn at q'
  exact q'

end
def sp_law_walker_stands (_ : PySem.W.Frag) (C : Addr) : Sp := fun vs H Q _ => ∃ (p s l t : Addr) (a b m k lo hi : Int) (fo : List Int), vs = [.ref p, .ref t, .int k, .int lo, .int hi] ∧ WkAt C H p s l a b m k fo ∧ H t = some (.tup [.int a, .int b, .int m]) ∧ WkZ a b m k ∧ 0 ≤ lo ∧ lo ≤ hi ∧ hi ≤ m ∧ ∀ H', Ex H H' → Q (.bl true) H'
theorem use_law_walker_stands {K : PySem.W.Frag} {C : Addr} {H : Hp} {Q : VK} {E : XK} {p s l t : Addr} {a b m k lo hi : Int} {fo : List Int} (W : WkAt C H p s l a b m k fo) (ht : H t = some (.tup [.int a, .int b, .int m])) (Z : WkZ a b m k) (h0 : 0 ≤ lo) (h1 : lo ≤ hi) (h2 : hi ≤ m) (q : ∀ H', Ex H H' → Q (.bl true) H') : sp_law_walker_stands K C [.ref p, .ref t, .int k, .int lo, .int hi] H Q E :=
  ⟨p, s, l, t, a, b, m, k, lo, hi, fo, rfl, W, ht, Z, h0, h1, h2, q⟩
abbrev s_law_walker_stands : Stmt := topS 53
abbrev nm_law_walker_stands : List Str := ["walker", "stair", "at", "low", "high", "a", "b", "m", "there", "due", "one"]
theorem sc_law_walker_stands : FnScope nm_law_walker_stands ["walker", "stair", "at", "low", "high"] (defScope s_law_walker_stands) := ⟨rfl, rfl, rfl, by decide +kernel, rfl, by decide +kernel, by decide +kernel⟩
theorem st_law_walker_stands {v0 v1 v2 v3 v4 : V} : start nm_law_walker_stands [v0, v1, v2, v3, v4] = [some v0, some v1, some v2, some v3, some v4, none, none, none, none, none, none] := rfl
section
variable {P : Program} {w : World} {K : PySem.W.Frag} {mg : Str → Option Value} {base : Heap} {c : Cl}
theorem ok_law_walker_stands {C_Walker : Addr} (D : DefAt K mg "_law_walker_stands" s_law_walker_stands ["walker", "stair", "at", "low", "high"]) (U_Walker : TxC K mg "Walker" C_Walker ["stair", "at", "former"]) (G_Walker_often : HasM P w K mg base CX0 4 C_Walker "often" ["self", "low", "high"] (sp_Walker_often K C_Walker)) (G_Walker_total : HasM P w K mg base CX0 3 C_Walker "total" ["self"] (sp_Walker_total K C_Walker)) (G_Walker_rest : HasM P w K mg base CX0 6 C_Walker "rest" ["self"] (sp_Walker_rest K C_Walker)) (G_Walker_height : HasM P w K mg base CX0 6 C_Walker "height" ["self"] (sp_Walker_height K C_Walker)) (G_Walker_place : HasM P w K mg base CX0 2 C_Walker "place" ["self"] (sp_Walker_place K C_Walker)) (G__law_whole : Has P w K mg base CX0 2 "_law_whole" ["thing"] (sp_law_whole K)) (G__law_counted : Has P w K mg base CX0 3 "_law_counted" ["stair", "n", "low", "high"] (sp_law_counted K)) (G__law_quick : Has P w K mg base CX0 2 "_law_quick" ["stair", "n"] (sp_law_quick K)) : Has P w K mg base CX0 7 "_law_walker_stands" ["walker", "stair", "at", "low", "high"] (sp_law_walker_stands K C_Walker) := by
  refine D.ok sc_law_walker_stands (by rintro _ _ _ _ ⟨_, _, _, _, _, _, _, _, _, _, _, rfl, _⟩; rfl) (fun f cdv A outer s H vs Q E hr h => ?_)
  obtain ⟨cl_Walker, mg_Walker, n_Walker_stair, n_Walker_at, n_Walker_former, _⟩ := U_Walker
  obtain ⟨p, s, l, t, a, b, m, k, lo, hi, fo, rfl, W, ht, Z, h0, h1, h2, q⟩ := h
  obtain ⟨dx, hp⟩ := W.ob
  have m0 := Z.m0
  have za : Sz 900 a := Z.za
  have zm : Sz 200 m := Z.zm
  have zk : Sz 900 k := Z.zk
  have zb : Sz 900 b := Z.zb
  have zl : Sz 200 lo := zm.le (by omega) (by omega)
  have zh : Sz 200 hi := zm.le (by omega) (by omega)
  refine ⟨_, (pss_cons (ps_asg (pv 1) (pg_tup (by rfl) (pgs_cons (pg_name (i := 5) sc_law_walker_stands.nd rfl (Or.inl rfl)) (pgs_cons (pg_name (i := 6) sc_law_walker_stands.nd rfl (Or.inl rfl)) (pgs_cons (pg_name (i := 7) sc_law_walker_stands.nd rfl (Or.inl rfl)) pgs_nil)))))
      (pss_cons (ps_set (i := 8) sc_law_walker_stands.nd rfl (Or.inl rfl) (pe_lst (pa_cons (pmeth0 cl_Walker G_Walker_place (hr.mono (by decide)) (pv 0)) (pa_cons (pmeth0 cl_Walker G_Walker_height (hr.mono (by decide)) (pv 0)) (pa_cons (pmeth0 cl_Walker G_Walker_rest (hr.mono (by decide)) (pv 0)) (pa_cons (pmeth0 cl_Walker G_Walker_total (hr.mono (by decide)) (pv 0)) (pa_cons (pmeth cl_Walker G_Walker_often (hr.mono (by decide)) (pv 0) (pa_cons (pv 3) (pa_cons (pv 4) pa_nil))) pa_nil)))))))
      (pss_cons (ps_if (pt_cmpR (op_neD hr.units) (pe_lc rfl sc_law_walker_stands.nd (pi_list (pv 8)) (blkOk_by (own := [("one", 10)]) (N := nm_law_walker_stands) (sc := defScope s_law_walker_stands) (by decide +kernel)) (fun _ _ _ _ _ => (pg_name (i := 10) sc_law_walker_stands.nd rfl (Or.inl rfl))) (fun _ _ _ _ _ => pts_one (pt_not (pt_val (pcall G__law_whole (hr.mono (by decide)) (pa_cons (pv 10) pa_nil))))) (fun _ _ _ _ _ => (pv 10))) (pe_lst pa_nil) (nomark _)) (pss_one (ps_ret pe_bl)) pss_nil)
      (pss_cons (ps_set (i := 9) sc_law_walker_stands.nd rfl (Or.inl rfl) (pe_lst (pa_cons (pv 2) (pa_cons (pe_op op_fdivW (pe_op op_add (pe_op op_mulX (pv 5) (pv 2)) (pv 6)) (pv 7)) (pa_cons (pe_op op_mod (pe_op op_add (pe_op op_mulX (pv 5) (pv 2)) (pv 6)) (pv 7)) (pa_cons (pcall G__law_quick (hr.mono (by decide)) (pa_cons (pv 1) (pa_cons (pv 2) pa_nil))) (pa_cons (pcall G__law_counted (hr.mono (by decide)) (pa_cons (pv 1) (pa_cons (pv 2) (pa_cons (pv 3) (pa_cons (pv 4) pa_nil))))) pa_nil)))))))
      (pss_one (ps_ret (pe_cmpR (op_eqD hr.units) (pv 8) (pv 9) (nomark _)))))))), ?_⟩
  rw [st_law_walker_stands]
  try dsimp only [Cx.nox, Cx.wish, Cx.blk, cx_K, cxH_K]
  walk_at "go"
  refine use_Walker_place W ?_
  walk_at "go"
  refine use_Walker_height W Z fun H1 e1 => ?_
  walk_at "go"
  refine use_Walker_rest (W.ex e1) Z fun H2 e2 => ?_
  walk_at "go"
  refine use_Walker_total ((W.ex e1).ex e2) Z ?_
  walk_at "go"
  refine use_Walker_often ((W.ex e1).ex e2) Z h0 h1 h2 ?_
  walk_at "go"
  rename_i l3 H3 n3 e3 h3
  refine lc_lstFI (ns := [k, (a * k + b) / m, (a * k + b) % m, fs k.toNat a b m, cn k.toNat a b m lo hi]) (fun _ => false) V.int (SqL.of h3) (show 5 ≤ 100000 by decide) (fun _ => rfl) (fun x hx G eG QT kT => ?_) (fun x hx hc => Bool.noConfusion hc) (fun l4 H4 nl4 e4 h4 => ?_)
  · walk_at "go"
    refine use_law_whole ?_
    walk_at "go"
    exact kT _ Ex.refl
  walk_at "go"
  rename_i l5 H5 n5 e5 h5
  refine r_neL (xs := []) (ys := []) (SqL.of (e5.at (by rw [h4]; simp))) (SqL.of h5) ?_
  rw [decide_eq_true rfl]
  have e05 : Ex H H5 := (e1.trans e2).trans (e3.trans (e4.trans e5))
  have ht5 := e05.at ht
  have h35 := (e4.trans e5).at h3
  clear e1 e2 e3 e4 e5 h3 h4 h5
  walk_at "go"
  refine use_law_quick ht5 m0 (za.mono (by decide)) (zb.mono (by decide)) (zm.mono (by decide)) (zk.mono (by decide)) Z.k0 fun H6 e6 => ?_
  walk_at "go"
  refine use_law_counted (e6.at ht5) m0 (za.mono (by decide)) (zb.mono (by decide)) zm zk zl zh Z.k0 fun H7 e7 => ?_
  walk_at "go"
  rename_i l8 H8 n8 e8 h8
  refine r_eqL (xs := [k, (a * k + b) / m, (a * k + b) % m, fs k.toNat a b m, cn k.toNat a b m lo hi]) (ys := [k, (a * k + b) / m, (a * k + b) % m, fs k.toNat a b m, cn k.toNat a b m lo hi]) (SqL.of (e8.at (e7.at (e6.at h35)))) (SqL.of h8) ?_
  rw [decide_eq_true rfl]
  walk_at "go"
  exact q _ (e05.trans ((e6.trans e7).trans e8))

end
--@ needs DeedV
theorem Kq.mono {ds es : List Addr} {H H' : Hp} (k : Kq ds H H') (h : ∀ d ∈ ds, d ∈ es) : Kq es H H' := fun a o n e => k a o (fun z => n (h a z)) e
theorem Kq.dr {ds : List Addr} {H H1 H2 : Hp} {d : Addr} (k : Kq ds H H1) (kp : Kp d H1 H2) (n : H d = none) : Kq ds H H2 := fun a o na e => kp a o (ne_of_none e n) (k a o na e)
theorem sql_kq {K : PySem.W.Frag} {ds : List Addr} {H H' : Hp} {a : Addr} {xs : List V} (k : Kq ds H H') (n : a ∉ ds) (h : SqL K H a xs) : SqL K H' a xs := by
  rcases h with (h | ⟨o, h⟩) | h
  · exact .inl (.inl (k _ _ n h))
  · exact .inl (.inr ⟨o, k _ _ n h⟩)
  · exact .inr h
/-- a walker and the list of its places -/
structure P41 (C : Addr) (H : Hp) (x s l lp : Addr) (a b m k : Int) (fo : List Int) : Prop where
  w : WkAt C H x s l a b m k fo
  pa : H lp = some (.lst ((fo ++ [k]).map V.int))
theorem P41.ex {C : Addr} {H H' : Hp} {x s l lp : Addr} {a b m k : Int} {fo : List Int} (P : P41 C H x s l lp a b m k fo) (e : Ex H H') : P41 C H' x s l lp a b m k fo := ⟨P.w.ex e, e _ _ P.pa⟩
theorem P41.dr {C : Addr} {H H' : Hp} {x s l lp d : Addr} {a b m k : Int} {fo : List Int} (P : P41 C H x s l lp a b m k fo) (kp : Kp d H H') (D : Dr H d) (n1 : l ≠ d) (n2 : lp ≠ d) : P41 C H' x s l lp a b m k fo := ⟨P.w.kp kp D n1, kp _ _ n2 P.pa⟩
/-- another one's list, then another one itself is changed -/
theorem P41.oth {C : Addr} {H H1 H2 : Hp} {x s l lp x2 s2 l2 lp2 : Addr} {a b m k a2 b2 m2 k2 : Int} {fo fo2 : List Int} (P : P41 C H x s l lp a b m k fo) (P2 : P41 C H x2 s2 l2 lp2 a2 b2 m2 k2 fo2) (kq : Kq [x2, l2] H H1) (h1 : H1 lp2 = some (.lst ((fo2 ++ [k2]).map V.int))) (kp : Kp lp2 H1 H2)
    (nx : x ≠ x2) (nl : l ≠ l2) (nlp : lp ≠ lp2) (n1 : l ≠ lp2) (n2 : lp ≠ l2) : P41 C H2 x s l lp a b m k fo := by
  have W1 := P.w.kq kq P2.w nx nl
  exact ⟨W1.kpL kp h1 n1, kp _ _ nlp (P2.w.lst kq n2 P.pa)⟩
def B41 (i : Nat) (fo : List Int) (k : Int) : Prop := (∀ x ∈ fo, 0 ≤ x ∧ x ≤ (i : Int) * 100) ∧ 0 ≤ k ∧ k ≤ (i : Int) * 100 ∧ fo.length ≤ i
theorem B41_0 : B41 0 [] 0 := ⟨(fun x h => (List.not_mem_nil h).elim), (by omega), (by omega), (by show 0 ≤ 0; omega)⟩
theorem B41.suc {i : Nat} {fo : List Int} {k : Int} (h : B41 i fo k) : B41 (i + 1) fo k := by
  obtain ⟨h1, h2, h3, h4⟩ := h
  refine ⟨fun x hx => ?_, h2, by omega, by omega⟩
  have := h1 x hx
  omega
theorem B41.up {i : Nat} {fo : List Int} {k n : Int} (h : B41 i fo k) (n0 : 0 ≤ n) (n1 : n ≤ 100) : B41 (i + 1) (fo ++ [k]) (k + n) := by
  obtain ⟨h1, h2, h3, h4⟩ := h
  refine ⟨fun x hx => ?_, by omega, by omega, by rw [List.length_append]; show fo.length + 1 ≤ _; omega⟩
  rcases List.mem_append.mp hx with hx | hx
  · have := h1 x hx
    omega
  · rw [List.mem_singleton.mp hx]
    omega
theorem B41.out {i : Nat} {fo fo' : List Int} {a b m k k' : Int} {dd : DD} {r : List Fd} (h : B41 i fo k) (o : Out a b m k fo dd r k' fo') (m0 : 0 < m) (m1 : m ≤ 60) (dn : ∀ n, dd = .go n → n ≤ 90 ∨ 1000000000000000000000000000000 ≤ n) : B41 (i + 1) fo' k' := by
  cases o with
  | go h0 h1 =>
    have := dn _ rfl
    exact h.up h0 (by omega)
  | goX _ => exact h.suc
  | no _ _ => exact h.suc
  | find hb f =>
    have := FH_lt m0 f
    exact h.up f.1 (by omega)
  | findX _ => exact h.suc
  | back e =>
    subst e
    have hs := h.suc
    obtain ⟨h1, h2, h3, h4⟩ := hs
    have hk := h1 k' (by simp)
    refine ⟨fun x hx => h1 x (by simp [hx]), hk.1, hk.2, ?_⟩
    rw [List.length_append] at h4
    have h4 : fo'.length + 1 ≤ i + 1 := h4
    omega
  | backX _ => exact h.suc
theorem B41.zk {i : Nat} {fo : List Int} {k : Int} (h : B41 i fo k) (hi : i ≤ 30) : Sz 200 k := by
  obtain ⟨h1, h2, h3, h4⟩ := h
  exact Sz.small (by omega)

def sp_law (K : PySem.W.Frag) : Sp := fun vs H Q _ => ∃ (a : Addr) (ns : List Int), vs = [.ref a] ∧ SqL K H a (ns.map V.int) ∧ ns.length ≤ 63 ∧ ∀ H', Q (.bl true) H'
theorem use_told_out {K : PySem.W.Frag} {C : Addr} {H : Hp} {Q : VK} {E : XK} {p s l t : Addr} {a b m k : Int} {fo : List Int} {dd : DD} (W : WkAt C H p s l a b m k fo) (Z : WkZ a b m k) (lf : fo.length ≤ 50000) (ht : H t = some (.tup dd.v))
    (q : ∀ r res k' fo' H', Out a b m k fo dd res k' fo' → Kq [p, l] H H' → WkAt C H' p s l a b m k' fo' → H' r = some (.tup (res.map Fd.v)) → Q (.ref r) H') : sp_law_walk_told K C [.ref p, .ref t] H Q E := by
  cases dd with
  | go n =>
    by_cases h : 0 ≤ n ∧ n < 1000000000000000000000000000000
    · exact use_told_go W Z lf ht h.1 h.2 fun r H' kq W' hr => q r _ _ _ H' (.go h.1 h.2) kq W' hr
    · exact use_told_goX W Z lf ht (by omega) fun r H' e hr => q r _ _ _ H' (.goX (by omega)) e.kq (W.ex e) hr
  | find lo hi =>
    by_cases h : 0 ≤ lo ∧ lo ≤ hi ∧ hi ≤ m
    · exact use_told_find W Z lf ht h.1 h.2.1 h.2.2 (fun r H' e f hr => q r _ _ _ H' (.no h f) e.kq (W.ex e) hr) fun n r H' kq f _ W' hr => q r _ _ _ H' (.find h f) kq W' hr
    · exact use_told_findX W Z lf ht h fun r H' e hr => q r _ _ _ H' (.findX h) e.kq (W.ex e) hr
  | back =>
    rcases List.eq_nil_or_concat fo with rfl | ⟨L, b, rfl⟩
    · exact use_told_backX W Z lf ht rfl fun r H' e hr => q r _ _ _ H' (.backX rfl) e.kq (W.ex e) hr
    · exact use_told_back W Z lf ht (List.concat_eq_append) fun r H' kq W' hr => q r _ _ _ H' (.back (List.concat_eq_append)) kq W' hr
/-- two walkers -/
def S41 (C : Addr) (i : Nat) (x0 s0 l0 p0 x1 s1 l1 p1 : Addr) (a0 b0 m0 a1 b1 m1 : Int) (H : Hp) : Prop := ∃ k0 f0 k1 f1, P41 C H x0 s0 l0 p0 a0 b0 m0 k0 f0 ∧ P41 C H x1 s1 l1 p1 a1 b1 m1 k1 f1 ∧ B41 i f0 k0 ∧ B41 i f1 k1
theorem S41.ex {C : Addr} {i : Nat} {x0 s0 l0 p0 x1 s1 l1 p1 : Addr} {a0 b0 m0 a1 b1 m1 : Int} {H H' : Hp} (S : S41 C i x0 s0 l0 p0 x1 s1 l1 p1 a0 b0 m0 a1 b1 m1 H) (e : Ex H H') : S41 C i x0 s0 l0 p0 x1 s1 l1 p1 a0 b0 m0 a1 b1 m1 H' := by
  obtain ⟨k0, f0, k1, f1, h0, h1, h2, h3⟩ := S
  exact ⟨k0, f0, k1, f1, h0.ex e, h1.ex e, h2, h3⟩
theorem S41.dr {C : Addr} {i : Nat} {x0 s0 l0 p0 x1 s1 l1 p1 d : Addr} {a0 b0 m0 a1 b1 m1 : Int} {H H' : Hp} (S : S41 C i x0 s0 l0 p0 x1 s1 l1 p1 a0 b0 m0 a1 b1 m1 H) (kp : Kp d H H') (D : Dr H d) (n : l0 ≠ d ∧ p0 ≠ d ∧ l1 ≠ d ∧ p1 ≠ d) : S41 C i x0 s0 l0 p0 x1 s1 l1 p1 a0 b0 m0 a1 b1 m1 H' := by
  obtain ⟨k0, f0, k1, f1, h0, h1, h2, h3⟩ := S
  exact ⟨k0, f0, k1, f1, h0.dr kp D n.1 n.2.1, h1.dr kp D n.2.2.1 n.2.2.2, h2, h3⟩
theorem not6 {H : Hp} {y x0 l0 p0 x1 l1 p1 : Addr} {o : HO} (h : H y = some o) (h1 : H x0 = none) (h2 : H l0 = none) (h3 : H p0 = none) (h4 : H x1 = none) (h5 : H l1 = none) (h6 : H p1 = none) : y ∉ [x0, l0, p0, x1, l1, p1] := by
  simp only [List.mem_cons, List.not_mem_nil, or_false, not_or]
  exact ⟨ne_of_none h h1, ne_of_none h h2, ne_of_none h h3, ne_of_none h h4, ne_of_none h h5, ne_of_none h h6⟩
abbrev s_law : Stmt := topS 56
abbrev nm_law : List Str := ["script", "draws", "stairs", "walkers", "pasts", "k", "at", "deed", "j", "low", "high", "stair"]
theorem sc_law : FnScope nm_law ["script"] (defScope s_law) := ⟨rfl, rfl, rfl, by decide +kernel, rfl, by decide +kernel, by decide +kernel⟩
theorem st_law {v0 : V} : start nm_law [v0] = [some v0, none, none, none, none, none, none, none, none, none, none, none] := rfl
section
variable {P : Program} {w : World} {K : PySem.W.Frag} {mg : Str → Option Value} {base : Heap} {c : Cl}
theorem ok_law {C_Walker : Addr} {f : Addr} {fd : FuncData} (F : Fun K "law" "law" s_law f fd) (U_Walker : TxC K mg "Walker" C_Walker ["stair", "at", "former"]) (B_range : mg "range" = none) (B_max : mg "max" = none) (B_min : mg "min" = none) (B_len : mg "len" = none) (G__law_draws : Has P w K mg base CX0 2 "_law_draws" ["script", "k"] (sp_law_draws K)) (G__law_small_stair : Has P w K mg base CX0 3 "_law_small_stair" ["draws"] (sp_law_small_stair K)) (G__law_draw : Has P w K mg base CX0 2 "_law_draw" ["draws", "many"] (sp_law_draw K)) (G_Walker___init__ : HasI P w K mg base CX0 5 C_Walker ["self", "stair"] (sp_Walker___init__ K C_Walker)) (G__law_deed : Has P w K mg base CX0 4 "_law_deed" ["stair", "draws"] (sp_law_deed K)) (G__law_walk_told : Has P w K mg base CX0 115 "_law_walk_told" ["walker", "deed"] (sp_law_walk_told K C_Walker)) (G__law_due : Has P w K mg base CX0 3 "_law_due" ["stair", "past", "deed"] (sp_law_due K)) (G__law_some_bounds : Has P w K mg base CX0 3 "_law_some_bounds" ["stair", "draws"] (sp_law_some_bounds K)) (G__law_walker_stands : Has P w K mg base CX0 7 "_law_walker_stands" ["walker", "stair", "at", "low", "high"] (sp_law_walker_stands K C_Walker)) : FnOk P w K mg base CX0 116 f fd ["script"] (sp_law K) := by
  refine F.ok sc_law (by rintro _ _ _ _ ⟨_, _, rfl, _⟩; rfl) (fun cdv A outer s H vs Q E hr h => ?_)
  obtain ⟨cl_Walker, mg_Walker, n_Walker_stair, n_Walker_at, n_Walker_former, _⟩ := U_Walker
  obtain ⟨a, ns, rfl, hS, hlen, q⟩ := h
  refine ⟨_, (pss_cons (ps_set (i := 1) sc_law.nd rfl (Or.inl rfl) (pcall G__law_draws (hr.mono (by decide)) (pa_cons (pv 0) (pa_cons pe_int pa_nil))))
      (pss_cons (ps_set (i := 2) sc_law.nd rfl (Or.inl rfl) (pe_lst (pa_cons (pcall G__law_small_stair (hr.mono (by decide)) (pa_cons (pv 1) pa_nil)) (pa_cons (pcall G__law_small_stair (hr.mono (by decide)) (pa_cons (pv 1) pa_nil)) pa_nil))))
      (pcut (ps_if (pt_cmpR op_eq (pcall G__law_draw (hr.mono (by decide)) (pa_cons (pv 1) (pa_cons pe_int pa_nil))) pe_int (nomark _)) (pss_one (ps_asg (pe_ix ix_list (pv 2) pe_int (fun _ _ => rfl)) (pg_sub (pv 2) pe_int set_list))) pss_nil)
      (pss_cons (ps_setLc (i := 3) rfl sc_law.nd rfl rfl (sw_true rfl rfl rfl (by decide +kernel)) (pi_list (pv 2)) (blkOk_by (own := [("stair", 11)]) (N := nm_law) (sc := defScope s_law) (by decide +kernel)) (fun _ _ _ _ _ => (pg_name (i := 11) sc_law.nd rfl (Or.inl rfl))) (fun _ _ _ _ _ => pts_nil) (fun _ _ _ _ _ => (pmake mg_Walker G_Walker___init__ (hr.mono (by decide)) (pa_cons (pv 11) pa_nil))))
      (pss_cons (ps_set (i := 4) sc_law.nd rfl (Or.inl rfl) (pe_lst (pa_cons (pe_lst (pa_cons pe_int pa_nil)) (pa_cons (pe_lst (pa_cons pe_int pa_nil)) pa_nil))))
      (pss_cons (ps_for PassesOwn.never rfl (pi_range1 rfl B_range (pa_cons (pe_callB (cl_max2 rfl) (by rfl) B_max (by decide +kernel) (pa_cons pe_int (pa_cons (pe_callB (cl_min2 rfl) (by rfl) B_min (by decide +kernel) (pa_cons pe_int (pa_cons (pe_callB cl_len (by rfl) B_len (by decide +kernel) (pa_cons (pv 0) pa_nil)) pa_nil))) pa_nil))) pa_nil)) (pg_name (i := 5) sc_law.nd rfl (Or.inl rfl))
        (pss_cons (ps_set (i := 1) sc_law.nd rfl (Or.inl rfl) (pcall G__law_draws (hr.mono (by decide)) (pa_cons (pv 0) (pa_cons (pe_op op_add pe_int (pv 5)) pa_nil))))
        (pss_cons (ps_set (i := 6) sc_law.nd rfl (Or.inl rfl) (pcall G__law_draw (hr.mono (by decide)) (pa_cons (pv 1) (pa_cons pe_int pa_nil))))
        (pss_cons (ps_set (i := 7) sc_law.nd rfl (Or.inl rfl) (pcall G__law_deed (hr.mono (by decide)) (pa_cons (pe_ix ix_list (pv 2) (pv 6) (fun _ _ => rfl)) (pa_cons (pv 1) pa_nil))))
        (pss_cons (ps_if (pt_cmpR (op_neD hr.units) (pcall G__law_walk_told (hr.mono (by decide)) (pa_cons (pe_ix ix_list (pv 3) (pv 6) (fun _ _ => rfl)) (pa_cons (pv 7) pa_nil))) (pcall G__law_due (hr.mono (by decide)) (pa_cons (pe_ix ix_list (pv 2) (pv 6) (fun _ _ => rfl)) (pa_cons (pe_ix ix_list (pv 4) (pv 6) (fun _ _ => rfl)) (pa_cons (pv 7) pa_nil)))) (nomark _)) (pss_one (ps_ret pe_bl)) pss_nil)
        (pss_one (ps_for PassesOwn.never rfl (pi_range1 rfl B_range (pa_cons pe_int pa_nil)) (pg_name (i := 8) sc_law.nd rfl (Or.inl rfl))
          (pss_cons (ps_asg (pcall G__law_some_bounds (hr.mono (by decide)) (pa_cons (pe_ix ix_list (pv 2) (pv 8) (fun _ _ => rfl)) (pa_cons (pv 1) pa_nil))) (pg_tup (by rfl) (pgs_cons (pg_name (i := 9) sc_law.nd rfl (Or.inl rfl)) (pgs_cons (pg_name (i := 10) sc_law.nd rfl (Or.inl rfl)) pgs_nil))))
          (pss_one (ps_if (pt_not (pt_val (pcall G__law_walker_stands (hr.mono (by decide)) (pa_cons (pe_ix ix_list (pv 3) (pv 8) (fun _ _ => rfl)) (pa_cons (pe_ix ix_list (pv 2) (pv 8) (fun _ _ => rfl)) (pa_cons (pe_ix ix_list (pe_ix ix_list (pv 4) (pv 8) (fun _ _ => rfl)) (pe_un un_neg pe_int) (fun _ _ => rfl)) (pa_cons (pv 9) (pa_cons (pv 10) pa_nil)))))))) (pss_one (ps_ret pe_bl)) pss_nil))))))))))
      (pss_one (ps_ret pe_bl)))))))), ?_⟩
  rw [st_law]
  try dsimp only [Cx.nox, Cx.wish, Cx.blk, cx_K, cxH_K]
  walk_at "go"
  refine use_law_draws hS (by omega) (by omega) fun d H1 nd e1 D1 => ?_
  walk_at "go"
  refine use_law_small_stair D1 fun s0 a0 b0 m0 H2 S0 ns0 k2 D2 hs0 => ?_
  walk_at "go"
  refine use_law_small_stair D2 fun sx ax bx mx H3 Sx nsx k3 D3 hsx => ?_
  have hs03 := k3.tup D2 hs0
  have e3 : Ex H H3 := e1.kpd nd (k2.trans k3)
  clear k2 k3 e1 D1 D2 hs0 ns0 nsx
  walk_at "go"
  rename_i Ls H4 nLs e4 hLs
  have Lsd : Ls ≠ d := D3.free nLs
  refine r_cut (fun σ' H' => ∃ (s1 : Addr) (a1 b1 m1 : Int) (o3 o4 o5 o6 o7 o8 o9 o10 o11 : Option V), σ' = [some (.ref a), some (.ref d), some (.ref Ls), o3, o4, o5, o6, o7, o8, o9, o10, o11] ∧ Ex H H' ∧ H' Ls = some (.lst [.ref s0, .ref s1]) ∧ H' s0 = some (.tup [.int a0, .int b0, .int m0]) ∧ H' s1 = some (.tup [.int a1, .int b1, .int m1]) ∧ StS a1 b1 m1) ?_ ?_
  · walk_at "go"
    refine use_law_draw (D3.up e4) (by decide) (by walk_at "szm") fun v5 H5 v50 v51 k5 D5 => ?_
    have e5 : Ex H H5 := (e3.trans e4).kpd nd k5
    have hL5 := k5 _ _ Lsd hLs
    have hs05 := k5.tup (D3.up e4) (e4.at hs03)
    have hsx5 := k5.tup (D3.up e4) (e4.at hsx)
    walk_at "go"
    refine if_2 (fun hx => ?_) (fun hx => ?_)
    · walk_at "go"
      refine r_setL (k0 := 1) hL5 rfl ?_
      walk_at "go"
      have kL : Kp Ls H5 (upd H5 Ls (.lst ([V.ref s0, V.ref sx].set 1 (.ref s0)))) := Kp.upd
      exact ⟨s0, a0, b0, m0, _, _, _, _, _, _, _, _, _, rfl, fun b o hb => kL _ _ (ne_of_none hb (free_back e3 nLs)) (e5 _ _ hb), upd_same, kL.tupL hL5 hs05, kL.tupL hL5 hs05, S0⟩
    · walk_at "go"
      exact ⟨sx, ax, bx, mx, _, _, _, _, _, _, _, _, _, rfl, e5, hL5, hs05, hsx5, Sx⟩
  clear e3 hs03 hsx Sx D3 e4 hLs nLs
  rintro σ H5 ⟨s1, a1, b1, m1, o3, o4, o5, o6, o7, o8, o9, o10, o11, rfl, e5, hL5, hs05, hs15, S1⟩
  walk_at "go"
  intro Lw nLw
  refine lc_list (xs := [.ref s0, .ref s1]) (fun i H' => Ex H5 H' ∧ ((i = 0 ∧ H' Lw = some (.lst [])) ∨ (i = 1 ∧ ∃ x0 l0, H' Lw = some (.lst [.ref x0]) ∧ WkAt C_Walker H' x0 s0 l0 a0 b0 m0 0 [] ∧ H5 x0 = none ∧ H5 l0 = none ∧ l0 ≠ Lw) ∨
      (i = 2 ∧ ∃ x0 l0 x1 l1, H' Lw = some (.lst [.ref x0, .ref x1]) ∧ WkAt C_Walker H' x0 s0 l0 a0 b0 m0 0 [] ∧ H5 x0 = none ∧ H5 l0 = none ∧ l0 ≠ Lw ∧ WkAt C_Walker H' x1 s1 l1 a1 b1 m1 0 [] ∧ H5 x1 = none ∧ H5 l1 = none ∧ l1 ≠ Lw ∧ x0 ≠ x1 ∧ l0 ≠ l1))) ⟨Ex.new nLw, .inl ⟨rfl, upd_same⟩⟩ (fun i H' _ p => SqL.of (p.1.at hL5)) (fun i x H' hi p => ?_) (fun H' p => ?_)
  · obtain ⟨e6, p⟩ := p
    refine ⟨rfl, ?_⟩
    refine tYes_k ?_
    rw [if_pos rfl]
    rcases p with ⟨rfl, hd⟩ | ⟨rfl, x0, l0, hd, W0, fx0, fl0, ll0⟩ | ⟨rfl, _⟩
    · cases hi
      have hs06 := e6.at hs05
      walk_at "go"
      refine r_newO fun x0 dx H7 nx e7 hx => ?_
      walk_at "go"
      refine use_Walker___init__ hx (e7.at hs06) S0.m0 fun l0 H8 nl k8 W8 => ⟨rfl, ?_⟩
      have e8 : Ex H' H8 := e7.kpd nx k8
      have hd8 := e8.at hd
      have nl' := free_back e7 nl
      have ll0 : l0 ≠ Lw := (ne_of_none hd nl').symm
      refine ⟨_, hd8, by decide, ?_⟩
      refine ⟨fun b o hb => ?_, .inr (.inl ⟨rfl, x0, l0, upd_same, W8.kpL Kp.upd hd8 ll0, free_back e6 nx, free_back e6 nl', ll0⟩)⟩
      rw [upd_ne (ne_of_none hb nLw)]
      exact e8 _ _ (e6 _ _ hb)
    · cases hi
      have hs16 := e6.at hs15
      walk_at "go"
      refine r_newO fun x1 dx H7 nx e7 hx => ?_
      walk_at "go"
      refine use_Walker___init__ hx (e7.at hs16) S1.m0 fun l1 H8 nl k8 W8 => ⟨rfl, ?_⟩
      have e8 : Ex H' H8 := e7.kpd nx k8
      have hd8 := e8.at hd
      have nl' := free_back e7 nl
      have ll1 : l1 ≠ Lw := (ne_of_none hd nl').symm
      obtain ⟨dx0, hx0⟩ := W0.ob
      have x01 : x0 ≠ x1 := ne_of_none hx0 nx
      have l01 : l0 ≠ l1 := ne_of_none W0.li nl'
      refine ⟨_, hd8, show 1 < sizeLine by decide, ?_⟩
      refine ⟨fun b o hb => ?_, .inr (.inr ⟨rfl, x0, l0, x1, l1, upd_same, (W0.ex e8).kpL Kp.upd hd8 ll0, fx0, fl0, ll0, W8.kpL Kp.upd hd8 ll1, free_back e6 nx, free_back e6 nl', ll1, x01, l01⟩)⟩
      rw [upd_ne (ne_of_none hb nLw)]
      exact e8 _ _ (e6 _ _ hb)
    · cases hi
  · obtain ⟨e6, ⟨z, _⟩ | ⟨z, _⟩ | ⟨_, x0, l0, x1, l1, hLw, W0, fx0, fl0, ll0, W1, fx1, fl1, ll1, x01, l01⟩⟩ := p
    · cases z
    · cases z
    walk_at "go"
    rename_i p0 H7 np0 e7 hp0 p1 H8 np1 e8 hp1 Lp H9 nLp e9 hLp
    have e79 := (e7.trans e8).trans e9
    have e69 : Ex H5 H9 := e6.trans e79
    have P0 : P41 C_Walker H9 x0 s0 l0 p0 a0 b0 m0 0 [] := ⟨W0.ex e79, (e8.trans e9).at hp0⟩
    have P1 : P41 C_Walker H9 x1 s1 l1 p1 a1 b1 m1 0 [] := ⟨W1.ex e79, e9.at hp1⟩
    have hLw9 := e79.at hLw
    have hLs9 := e69.at hL5
    have fp0 : H5 p0 = none := free_back e6 np0
    have fp1 : H5 p1 = none := free_back (e6.trans e7) np1
    have nLs : Ls ∉ [x0, l0, p0, x1, l1, p1] := not6 hL5 fx0 fl0 fp0 fx1 fl1 fp1
    have ns0 : s0 ∉ [x0, l0, p0, x1, l1, p1] := not6 hs05 fx0 fl0 fp0 fx1 fl1 fp1
    have ns1 : s1 ∉ [x0, l0, p0, x1, l1, p1] := not6 hs15 fx0 fl0 fp0 fx1 fl1 fp1
    obtain ⟨dx0, hx0⟩ := P0.w.ob
    obtain ⟨dx1, hx1⟩ := P1.w.ob
    have nLw : Lw ∉ [x0, l0, p0, x1, l1, p1] := by
      simp only [List.mem_cons, List.not_mem_nil, or_false, not_or]
      exact ⟨ne_of hLw9 hx0 (by intro z; cases z), ll0.symm, ne_of_none hLw np0, ne_of hLw9 hx1 (by intro z; cases z), ll1.symm, ne_of_none (e7.at hLw) np1⟩
    have nLp' : Lp ∉ [x0, l0, p0, x1, l1, p1] := by
      have e78 := e7.trans e8
      obtain ⟨dy0, hy0⟩ := W0.ob
      obtain ⟨dy1, hy1⟩ := W1.ob
      simp only [List.mem_cons, List.not_mem_nil, or_false, not_or]
      exact ⟨(ne_of_none (e78.at hy0) nLp).symm, (ne_of_none (e78.at W0.li) nLp).symm, (ne_of_none (e8.at hp0) nLp).symm, (ne_of_none (e78.at hy1) nLp).symm, (ne_of_none (e78.at W1.li) nLp).symm, (ne_of_none hp1 nLp).symm⟩
    have p01 : p0 ≠ p1 := ne_of_none hp0 np1
    have l0p0 : l0 ≠ p0 := ne_of_none W0.li np0
    have l1p0 : l1 ≠ p0 := ne_of_none W1.li np0
    have l0p1 : l0 ≠ p1 := ne_of_none (e7.at W0.li) np1
    have l1p1 : l1 ≠ p1 := ne_of_none (e7.at W1.li) np1
    have hS9 := sql_up (e5.trans e69) hS
    have hs09 := e69.at hs05
    have hs19 := e69.at hs15
    have e9' : Ex H H9 := e5.trans e69
    have nS : ∀ H', Kq [x0, l0, p0, x1, l1, p1] H9 H' → SqL K H' a (ns.map V.int) := fun H' kq => by
      rcases hS with h | h
      · rcases h with h | ⟨o, h⟩
        · exact sql_kq kq (not6 (e5 _ _ h) fx0 fl0 fp0 fx1 fl1 fp1) hS9
        · exact sql_kq kq (not6 (e5 _ _ h) fx0 fl0 fp0 fx1 fl1 fp1) hS9
      · exact .inr h
    clear e6 e7 e8 e9 e79 e69 W0 W1 hLw hp0 hp1 np0 np1 nLp hL5 hs05 hs15 hx0 hx1 fp0 fp1 fx0 fl0 fx1 fl1 ll0 ll1 hS9 e5
    walk_at "go"
    rw [List.length_map]
    refine r_rng1 (by omega) (by omega) ?_
    refine for_rng (fun i σ H' => ∃ (o1 o5 o6 o7 o8 o9 o10 o11 : Option V), σ = [some (.ref a), o1, some (.ref Ls), some (.ref Lw), some (.ref Lp), o5, o6, o7, o8, o9, o10, o11] ∧ Kq [x0, l0, p0, x1, l1, p1] H9 H' ∧ S41 C_Walker i x0 s0 l0 p0 x1 s1 l1 p1 a0 b0 m0 a1 b1 m1 H') ⟨_, _, _, _, _, _, _, _, rfl, Kq.refl, 0, [], 0, [], P0, P1, B41_0, B41_0⟩ ?_ ?_
    · clear P0 P1
      rintro i σ H10 hi ⟨o1, o5, o6, o7, o8, o9, o10, o11, rfl, kq10, T10⟩
      have hi : i < 24 := by omega
      walk_at "go"
      refine use_law_draws (nS _ kq10) (by omega) (by omega) fun d2 H11 nd e11 D11 => ?_
      obtain ⟨k0, f0, k1, f1, Q0, Q1, B0, B1⟩ := T10
      have dn4 : l0 ≠ d2 ∧ p0 ≠ d2 ∧ l1 ≠ d2 ∧ p1 ≠ d2 := ⟨ne_of_none Q0.w.li nd, ne_of_none Q0.pa nd, ne_of_none Q1.w.li nd, ne_of_none Q1.pa nd⟩
      obtain ⟨dx0, hx0⟩ := Q0.w.ob
      obtain ⟨dx1, hx1⟩ := Q1.w.ob
      have nM : d2 ∉ [x0, l0, p0, x1, l1, p1] := by
        simp only [List.mem_cons, List.not_mem_nil, or_false, not_or]
        exact ⟨(ne_of_none hx0 nd).symm, dn4.1.symm, dn4.2.1.symm, (ne_of_none hx1 nd).symm, dn4.2.2.1.symm, dn4.2.2.2.symm⟩
      have fd : H9 d2 = none := by
        cases h : H9 d2 with
        | none => rfl
        | some o =>
          have := kq10 _ _ nM h
          rw [nd] at this
          cases this
      have kq11 := kq10.trans (e11.kq (ds := [x0, l0, p0, x1, l1, p1]))
      have Q0' := Q0.ex e11
      have Q1' := Q1.ex e11
      clear Q0 Q1 hx0 hx1 kq10 e11 nd
      walk_at "go"
      refine use_law_draw D11 (by decide) (by walk_at "szm") fun v H12 v0 v1 k12 D12 => ?_
      have Q0 := Q0'.dr k12 D11 dn4.1 dn4.2.1
      have Q1 := Q1'.dr k12 D11 dn4.2.2.1 dn4.2.2.2
      have kq12 := kq11.dr k12 fd
      clear Q0' Q1' k12 kq11 D11
      obtain ⟨x, s, l, p, a', b', m', k, fo, x2, s2, l2, p2, a2, b2, m2, k2, fo2, iS, iX, iP, P, P2, B, B2, St, nx, nl, np, n1, n2, ml, re⟩ : ∃ (x s l p : Addr) (a' b' m' k : Int) (fo : List Int) (x2 s2 l2 p2 : Addr) (a2 b2 m2 k2 : Int) (fo2 : List Int), atI [V.ref s0, .ref s1] v = some (.ref s) ∧ atI [V.ref x0, .ref x1] v = some (.ref x) ∧ atI [V.ref p0, .ref p1] v = some (.ref p) ∧
          P41 C_Walker H12 x s l p a' b' m' k fo ∧ P41 C_Walker H12 x2 s2 l2 p2 a2 b2 m2 k2 fo2 ∧ B41 i fo k ∧ B41 i fo2 k2 ∧ StS a' b' m' ∧ x2 ≠ x ∧ l2 ≠ l ∧ p2 ≠ p ∧ l2 ≠ p ∧ p2 ≠ l ∧ (x ∈ [x0, l0, p0, x1, l1, p1] ∧ l ∈ [x0, l0, p0, x1, l1, p1] ∧ p ∈ [x0, l0, p0, x1, l1, p1] ∧ l ≠ p ∧ l ≠ d2 ∧ p ≠ d2 ∧ l2 ≠ d2 ∧ p2 ≠ d2) ∧
          ∀ H' k' fo', P41 C_Walker H' x s l p a' b' m' k' fo' → P41 C_Walker H' x2 s2 l2 p2 a2 b2 m2 k2 fo2 → B41 (i + 1) fo' k' → S41 C_Walker (i + 1) x0 s0 l0 p0 x1 s1 l1 p1 a0 b0 m0 a1 b1 m1 H' := by
        obtain rfl | rfl : v = 0 ∨ v = 1 := by omega
        · exact ⟨x0, s0, l0, p0, a0, b0, m0, k0, f0, x1, s1, l1, p1, a1, b1, m1, k1, f1, rfl, rfl, rfl, Q0, Q1, B0, B1, S0, x01.symm, l01.symm, p01.symm, l1p0, l0p1.symm, ⟨by simp, by simp, by simp, l0p0, dn4⟩, fun H' k' fo' h h' hb => ⟨k', fo', k1, f1, h, h', hb, B1.suc⟩⟩
        · exact ⟨x1, s1, l1, p1, a1, b1, m1, k1, f1, x0, s0, l0, p0, a0, b0, m0, k0, f0, rfl, rfl, rfl, Q1, Q0, B1, B0, S1, x01, l01, p01, l0p1, l1p0.symm, ⟨by simp, by simp, by simp, l1p1, dn4.2.2.1, dn4.2.2.2, dn4.1, dn4.2.1⟩, fun H' k' fo' h h' hb => ⟨k0, f0, k', fo', h', h, B0.suc, hb⟩⟩
      obtain ⟨mx, ml, mp, lp, ld, pd, l2d, p2d⟩ := ml
      clear Q0 Q1 B0 B1
      walk_at "go"
      refine r_ixL (SqL.of (kq12 _ _ nLs hLs9)) iS ?_
      walk_at "go"
      have m0' := St.m0
      have m1' := St.m1
      have zm := St.zm
      have za := St.za
      have zb := St.zb
      have zk := B.zk (by omega)
      have kk0 := B.2.1
      have lfo := B.2.2.2
      have Z : WkZ a' b' m' k := ⟨m0', za.mono (by decide), zb.mono (by decide), zm, kk0, zk.mono (by decide)⟩
      refine use_law_deed P.w.st m0' m1' (za.mono (by decide)) D12 fun t dd H13 k13 D13 h13 dnn => ?_
      have P' := P.dr k13 D12 ld pd
      have P2' := P2.dr k13 D12 l2d p2d
      have kq13 := kq12.dr k13 fd
      clear P P2 k13 D12 kq12
      walk_at "go"
      refine r_ixL (SqL.of (kq13 _ _ nLw hLw9)) iX ?_
      walk_at "go"
      refine use_told_out P'.w Z (by omega) h13 fun r res k' fo' H14 oo k14 W14 h14 => ?_
      have h14t := P'.w.tup k14 h13
      have hp14 := P'.w.lst k14 lp.symm P'.pa
      have D14 : Dr H14 d2 := by
        obtain ⟨u, w, hu, hw⟩ := D13
        exact ⟨u, w, P'.w.lst k14 ld.symm hu, hw⟩
      have kq14 : Kq [x0, l0, p0, x1, l1, p1] H9 H14 := kq13.trans (k14.mono fun e he => by
        simp only [List.mem_cons, List.not_mem_nil, or_false] at he
        rcases he with rfl | rfl
        · exact mx
        · exact ml)
      walk_at "go"
      refine r_ixL (SqL.of (kq14 _ _ nLs hLs9)) iS ?_
      walk_at "go"
      refine r_ixL (SqL.of (kq14 _ _ nLp' hLp)) iP ?_
      walk_at "go"
      refine use_law_due W14.st hp14 h14t m0' m1' (za.mono (by decide)) (zk.mono (by decide)) (by omega) dnn fun r2 res2 k2' fo2' H15 oo2 k15 hp15 h15 => ?_
      obtain ⟨e1, e2, e3⟩ := oo.uniq oo2
      subst e1 e2 e3
      refine r_neF (SqT.of (k15.tupL hp14 h14)) (SqT.of h15) oo.ok oo.ok ?_
      rw [decide_eq_true rfl]
      have P15 : P41 C_Walker H15 x s l p a' b' m' k' fo' := ⟨W14.kpL k15 hp14 lp, hp15⟩
      have P215 := P2'.oth P' k14 hp14 k15 nx nl np n1 n2
      have T15 := re H15 k' fo' P15 P215 (B.out oo m0' m1' dnn)
      have kq15 := kq14.trans (k15.kq mp)
      have D15 := D14.kp pd.symm k15
      clear re P15 P215 P' P2' k14 k15 hp14 hp15 h14 h15 h14t h13 W14 D14 kq14 kq13 oo oo2 D13 iS iX iP nx nl np n1 n2 mx ml mp lp ld pd l2d p2d B B2 Z zk kk0 lfo
      walk_at "go"
      refine r_rng1 (by decide) (by decide) ?_
      refine for_rng (fun j σ H' => ∃ (o8 o9 o10 o11 : Option V), σ = [some (.ref a), some (.ref d2), some (.ref Ls), some (.ref Lw), some (.ref Lp), some (.int (0 + i)), some (.int v), some (.ref t), o8, o9, o10, o11] ∧ Kq [x0, l0, p0, x1, l1, p1] H9 H' ∧ Dr H' d2 ∧ S41 C_Walker (i + 1) x0 s0 l0 p0 x1 s1 l1 p1 a0 b0 m0 a1 b1 m1 H') ⟨_, _, _, _, rfl, kq15, D15, T15⟩ ?_ ?_
      · clear kq15 D15 T15
        rintro j σ H16 hj ⟨o8, o9, o10, o11, rfl, kq16, D16, T16⟩
        have hj : j < 2 := hj
        walk_at "go"
        obtain ⟨x, s, l, p, a', b', m', k, fo, iS, iX, iP, P, B, St, ld, pd⟩ : ∃ (x s l p : Addr) (a' b' m' k : Int) (fo : List Int), atI [V.ref s0, .ref s1] (0 + (j : Int)) = some (.ref s) ∧ atI [V.ref x0, .ref x1] (0 + (j : Int)) = some (.ref x) ∧ atI [V.ref p0, .ref p1] (0 + (j : Int)) = some (.ref p) ∧ P41 C_Walker H16 x s l p a' b' m' k fo ∧ B41 (i + 1) fo k ∧ StS a' b' m' ∧ l ≠ d2 ∧ p ≠ d2 := by
          obtain ⟨k0, f0, k1, f1, Q0, Q1, B0, B1⟩ := T16
          obtain rfl | rfl : j = 0 ∨ j = 1 := by omega
          · exact ⟨x0, s0, l0, p0, a0, b0, m0, k0, f0, rfl, rfl, rfl, Q0, B0, S0, dn4.1, dn4.2.1⟩
          · exact ⟨x1, s1, l1, p1, a1, b1, m1, k1, f1, rfl, rfl, rfl, Q1, B1, S1, dn4.2.2.1, dn4.2.2.2⟩
        have zk := B.zk (by omega)
        have kk0 := B.2.1
        have m0' := St.m0
        have zm := St.zm
        have za := St.za
        have zb := St.zb
        have Z : WkZ a' b' m' k := ⟨m0', za.mono (by decide), zb.mono (by decide), zm, kk0, zk.mono (by decide)⟩
        refine r_ixL (SqL.of (kq16 _ _ nLs hLs9)) iS ?_
        walk_at "go"
        refine use_law_some_bounds P.w.st m0' (za.mono (by decide)) zm D16 fun tb lo hi H17 lo0 lh hm k17 D17 h17 => ?_
        have P17 := P.dr k17 D16 ld pd
        have T17 := T16.dr k17 D16 dn4
        have kq17 := kq16.dr k17 fd
        clear P T16 kq16 k17 D16
        walk_at "go"
        refine r_ixL (SqL.of (kq17 _ _ nLw hLw9)) iX ?_
        walk_at "go"
        refine r_ixL (SqL.of (kq17 _ _ nLs hLs9)) iS ?_
        walk_at "go"
        refine r_ixL (SqL.of (kq17 _ _ nLp' hLp)) iP ?_
        walk_at "go"
        refine r_ixL (SqL.of P17.pa) (at_lastI fo k) ?_
        walk_at "go"
        refine use_law_walker_stands P17.w P17.w.st Z lo0 lh hm fun H18 e18 => ?_
        walk_at "go"
        exact ⟨_, _, _, _, rfl, kq17.trans (e18.kq (ds := [x0, l0, p0, x1, l1, p1])), D17.up e18, T17.ex e18⟩
      · rintro σ H16 ⟨o8, o9, o10, o11, rfl, kq16, D16, T16⟩
        walk_at "go"
        exact ⟨_, _, _, _, _, _, _, _, rfl, kq16, T16⟩
    · rintro σ H10 ⟨o1, o5, o6, o7, o8, o9, o10, o11, rfl, kq10, T10⟩
      walk_at "go"
      exact q _

end
end Sd
namespace Sd
open PySem PySem.Spec PyProof.Rows L2
theorem all_mk {l : PySem.W.OpenLaw} {w : World} {K : PySem.W.Frag} {h : Heap} {mg : Str → Option Value} {fa : Addr} (X : K.In h) (G : h.Ns mainGlobals mg) (hfa : mg "law" = some (.ref fa))
    {f0 f1 f2 f3 f4 f5 f6 f7 f8 f9 f10 f11 f12 f13 f14 f15 f16 f17 f18 f19 f20 f21 f22 f23 f24 f25 f26 f27 f28 f29 f30 f31 f32 f33 f34 f35 f36 f37 f38 : Addr}
    {od0 an0 od1 an1 od2 an2 od3 an3 od4 an4 od5 an5 od6 an6 od7 an7 od8 an8 od9 an9 od10 an10 od11 an11 od12 an12 od13 an13 od14 an14 od15 an15 od16 an16 od17 an17 od18 an18 od19 an19 od20 an20 od21 an21 od22 an22 od23 an23 od24 an24 od25 an25 od26 an26 od27 an27 od28 an28 od29 an29 od30 an30 od31 an31 od32 an32 od33 an33 od34 an34 od35 an35 od36 an36 od37 an37 od38 an38 : Option Addr}
    {sl0 sl1 sl2 sl3 sl4 sl5 sl6 sl7 sl8 sl9 sl10 sl11 sl12 sl13 sl14 sl15 sl16 sl17 sl18 sl19 sl20 sl21 sl22 sl23 sl24 sl25 sl26 sl27 sl28 sl29 sl30 sl31 sl32 sl33 sl34 sl35 sl36 sl37 sl38 : Array (Option Value)}
    {oc0 kV0 dc0 pm0 cd0 ct0 oc1 kV1 dc1 pm1 cd1 ct1 oc2 kV2 dc2 pm2 cd2 ct2 oc3 kV3 dc3 pm3 cd3 ct3 oc4 kV4 dc4 pm4 cd4 ct4 oc5 kV5 dc5 pm5 cd5 ct5 oc6 kV6 dc6 pm6 cd6 ct6 oc7 kV7 dc7 pm7 cd7 ct7 oc8 kV8 dc8 pm8 cd8 ct8 oc9 kV9 dc9 pm9 cd9 ct9 oc10 kV10 dc10 pm10 cd10 ct10 oc11 kV11 dc11 pm11 cd11 ct11 oc12 kV12 dc12 pm12 cd12 ct12 oc13 kV13 dc13 pm13 cd13 ct13 oc14 kV14 dc14 pm14 cd14 ct14 oc15 kV15 dc15 pm15 cd15 ct15 oc16 kV16 dc16 pm16 cd16 ct16 oc17 kV17 dc17 pm17 cd17 ct17 oc18 kV18 dc18 pm18 cd18 ct18 oc19 kV19 dc19 pm19 cd19 ct19 oc20 kV20 dc20 pm20 cd20 ct20 oc21 kV21 dc21 pm21 cd21 ct21 oc22 kV22 dc22 pm22 cd22 ct22 oc23 kV23 dc23 pm23 cd23 ct23 oc24 kV24 dc24 pm24 cd24 ct24 oc25 kV25 dc25 pm25 cd25 ct25 oc26 kV26 dc26 pm26 cd26 ct26 oc27 kV27 dc27 pm27 cd27 ct27 oc28 kV28 dc28 pm28 cd28 ct28 oc29 kV29 dc29 pm29 cd29 ct29 oc30 kV30 dc30 pm30 cd30 ct30 oc31 kV31 dc31 pm31 cd31 ct31 oc32 kV32 dc32 pm32 cd32 ct32 oc33 kV33 dc33 pm33 cd33 ct33 oc34 kV34 dc34 pm34 cd34 ct34 oc35 kV35 dc35 pm35 cd35 ct35 oc36 kV36 dc36 pm36 cd36 ct36 oc37 kV37 dc37 pm37 cd37 ct37 oc38 kV38 dc38 pm38 cd38 ct38 : Value}
    {tk_COUNTS_BELOW : Tok}
    {C0 : Addr} {xn0 xq0 : Str} {xN0 : Addr} {xb0 xs0 : List Value} {xl0 : List Str} {xa0 : Bool} {xc0 : Option Bool} {xd0 : Option Addr} {xe0 xf0 xg0 xh0 xi0 : Option Value}
    {C1 : Addr} {xn1 xq1 : Str} {xN1 : Addr} {xb1 xs1 : List Value} {xl1 : List Str} {xa1 : Bool} {xc1 : Option Bool} {xd1 : Option Addr} {xe1 xf1 xg1 xh1 xi1 : Option Value}
    {C2 : Addr} {xn2 xq2 : Str} {xN2 : Addr} {xb2 xs2 : List Value} {xl2 : List Str} {xa2 : Bool} {xc2 : Option Bool} {xd2 : Option Addr} {xe2 xf2 xg2 xh2 xi2 : Option Value}
    {C3 : Addr} {xn3 xq3 : Str} {xN3 : Addr} {xb3 xs3 : List Value} {xl3 : List Str} {xa3 : Bool} {xc3 : Option Bool} {xd3 : Option Addr} {xe3 xf3 xg3 xh3 xi3 : Option Value}
    {C4 : Addr} {xn4 xq4 : Str} {xN4 : Addr} {xb4 xs4 : List Value} {xl4 : List Str} {xa4 : Bool} {xc4 : Option Bool} {xd4 : Option Addr} {xe4 xf4 xg4 xh4 xi4 : Option Value}
    {C5 : Addr} {xn5 xq5 : Str} {xN5 : Addr} {xb5 xs5 : List Value} {xl5 : List Str} {xa5 : Bool} {xc5 : Option Bool} {xd5 : Option Addr} {xe5 xf5 xg5 xh5 xi5 : Option Value}
    {C6 : Addr} {xn6 xq6 : Str} {xN6 : Addr} {xb6 xs6 : List Value} {xl6 : List Str} {xa6 : Bool} {xc6 : Option Bool} {xd6 : Option Addr} {xe6 xf6 xg6 xh6 xi6 : Option Value}
    {C7 : Addr} {xn7 xq7 : Str} {xN7 : Addr} {xb7 xs7 : List Value} {xl7 : List Str} {xa7 : Bool} {xc7 : Option Bool} {xd7 : Option Addr} {xe7 xf7 xg7 xh7 xi7 : Option Value}
    {C8 : Addr} {xn8 xq8 : Str} {xN8 : Addr} {xb8 xs8 : List Value} {xl8 : List Str} {xa8 : Bool} {xc8 : Option Bool} {xd8 : Option Addr} {xe8 xf8 xg8 xh8 xi8 : Option Value}
    {C9 : Addr} {xn9 xq9 : Str} {xN9 : Addr} {xb9 xs9 : List Value} {xl9 : List Str} {xa9 : Bool} {xc9 : Option Bool} {xd9 : Option Addr} {xe9 xf9 xg9 xh9 xi9 : Option Value}
    {C10 : Addr} {xn10 xq10 : Str} {xN10 : Addr} {xb10 xs10 : List Value} {xl10 : List Str} {xa10 : Bool} {xc10 : Option Bool} {xd10 : Option Addr} {xe10 xf10 xg10 xh10 xi10 : Option Value}
    {C11 : Addr} {xn11 xq11 : Str} {xN11 : Addr} {xb11 xs11 : List Value} {xl11 : List Str} {xa11 : Bool} {xc11 : Option Bool} {xd11 : Option Addr} {xe11 xf11 xg11 xh11 xi11 : Option Value}
    {C12 : Addr} {xn12 xq12 : Str} {xN12 : Addr} {xb12 xs12 : List Value} {xl12 : List Str} {xa12 : Bool} {xc12 : Option Bool} {xd12 : Option Addr} {xe12 xf12 xg12 xh12 xi12 : Option Value}
    {C13 : Addr} {xn13 xq13 : Str} {xN13 : Addr} {xb13 xs13 : List Value} {xl13 : List Str} {xa13 : Bool} {xc13 : Option Bool} {xd13 : Option Addr} {xe13 xf13 xg13 xh13 xi13 : Option Value}
    {C14 : Addr} {xn14 xq14 : Str} {xN14 : Addr} {xb14 xs14 : List Value} {xl14 : List Str} {xa14 : Bool} {xc14 : Option Bool} {xd14 : Option Addr} {xe14 xf14 xg14 xh14 xi14 : Option Value}
    {C15 : Addr} {xn15 xq15 : Str} {xN15 : Addr} {xb15 xs15 : List Value} {xl15 : List Str} {xa15 : Bool} {xc15 : Option Bool} {xd15 : Option Addr} {xe15 xf15 xg15 xh15 xi15 : Option Value}
    {C16 : Addr} {xn16 xq16 : Str} {xN16 : Addr} {xb16 xs16 : List Value} {xl16 : List Str} {xa16 : Bool} {xc16 : Option Bool} {xd16 : Option Addr} {xe16 xf16 xg16 xh16 xi16 : Option Value}
    {C_Walker : Addr} (oA_Walker : PySem.W.nsIn K mainGlobals "Walker" = some (some (.ref C_Walker))) (oP_Walker : PySem.W.plainGet K C_Walker Str.empty = true) (oH_Walker : PySem.W.hasDictIn K C_Walker = true) (oO_Walker : PySem.W.plainOver K C_Walker = true) (oS_Walker : PySem.W.findIn K (.ref C_Walker) "__setattr__" = some (some (.builtin "object.__setattr__"))) (oM_Walker : PySem.W.makesIn K C_Walker = true) (oK_Walker : PySem.W.keepIn K (.ref C_Walker) = true) (oN_Walker_stair : PySem.W.findIn K (.ref C_Walker) "stair" = some none) (oN_Walker_at : PySem.W.findIn K (.ref C_Walker) "at" = some none) (oN_Walker_former : PySem.W.findIn K (.ref C_Walker) "former" = some none)
    (a0 : PySem.W.nsIn K mainGlobals "_law_draws" = some (some (.ref f0))) (l0 : K.lookup f0 = some ⟨oc0, od0, .func (PySem.W.fnOf "_law_draws" "_law_draws" (defArgs s_law_draws) (defBody s_law_draws) (defScope s_law_draws) .none kV0 dc0 pm0 an0 cd0 ct0), sl0⟩) (c0 : PySem.W.codeIn K cd0 "_law_draws" = true) (k0 : PySem.W.keepIn K (.ref f0) = true)
    (a1 : PySem.W.nsIn K mainGlobals "_law_draw" = some (some (.ref f1))) (l1 : K.lookup f1 = some ⟨oc1, od1, .func (PySem.W.fnOf "_law_draw" "_law_draw" (defArgs s_law_draw) (defBody s_law_draw) (defScope s_law_draw) .none kV1 dc1 pm1 an1 cd1 ct1), sl1⟩) (c1 : PySem.W.codeIn K cd1 "_law_draw" = true) (k1 : PySem.W.keepIn K (.ref f1) = true)
    (a2 : PySem.W.nsIn K mainGlobals "_law_small_stair" = some (some (.ref f2))) (l2 : K.lookup f2 = some ⟨oc2, od2, .func (PySem.W.fnOf "_law_small_stair" "_law_small_stair" (defArgs s_law_small_stair) (defBody s_law_small_stair) (defScope s_law_small_stair) .none kV2 dc2 pm2 an2 cd2 ct2), sl2⟩) (c2 : PySem.W.codeIn K cd2 "_law_small_stair" = true) (k2 : PySem.W.keepIn K (.ref f2) = true)
    (a3 : PySem.W.nsIn K mainGlobals "is_whole" = some (some (.ref f3))) (l3 : K.lookup f3 = some ⟨oc3, od3, .func (PySem.W.fnOf "is_whole" "is_whole" (defArgs s_is_whole) (defBody s_is_whole) (defScope s_is_whole) .none kV3 dc3 pm3 an3 cd3 ct3), sl3⟩) (c3 : PySem.W.codeIn K cd3 "is_whole" = true) (k3 : PySem.W.keepIn K (.ref f3) = true)
    (a4 : PySem.W.nsIn K mainGlobals "is_stair" = some (some (.ref f4))) (l4 : K.lookup f4 = some ⟨oc4, od4, .func (PySem.W.fnOf "is_stair" "is_stair" (defArgs s_is_stair) (defBody s_is_stair) (defScope s_is_stair) .none kV4 dc4 pm4 an4 cd4 ct4), sl4⟩) (c4 : PySem.W.codeIn K cd4 "is_stair" = true) (k4 : PySem.W.keepIn K (.ref f4) = true)
    (a5 : PySem.W.nsIn K mainGlobals "need_stair" = some (some (.ref f5))) (l5 : K.lookup f5 = some ⟨oc5, od5, .func (PySem.W.fnOf "need_stair" "need_stair" (defArgs s_need_stair) (defBody s_need_stair) (defScope s_need_stair) .none kV5 dc5 pm5 an5 cd5 ct5), sl5⟩) (c5 : PySem.W.codeIn K cd5 "need_stair" = true) (k5 : PySem.W.keepIn K (.ref f5) = true)
    (a6 : PySem.W.findIn K (.ref C_Walker) "__init__" = some (some (.ref f6))) (i6 : PySem.W.isFn K (.ref f6) = true) (l6 : K.lookup f6 = some ⟨oc6, od6, .func (PySem.W.fnOf "__init__" "Walker.__init__" (defArgs s_Walker___init__) (defBody s_Walker___init__) (defScope s_Walker___init__) .none kV6 dc6 pm6 an6 cd6 ct6), sl6⟩) (c6 : PySem.W.codeIn K cd6 "Walker.__init__" = true) (k6 : PySem.W.keepIn K (.ref f6) = true)
    (a7 : PySem.W.nsIn K mainGlobals "_law_some_bounds" = some (some (.ref f7))) (l7 : K.lookup f7 = some ⟨oc7, od7, .func (PySem.W.fnOf "_law_some_bounds" "_law_some_bounds" (defArgs s_law_some_bounds) (defBody s_law_some_bounds) (defScope s_law_some_bounds) .none kV7 dc7 pm7 an7 cd7 ct7), sl7⟩) (c7 : PySem.W.codeIn K cd7 "_law_some_bounds" = true) (k7 : PySem.W.keepIn K (.ref f7) = true)
    (a8 : PySem.W.nsIn K mainGlobals "_law_deed" = some (some (.ref f8))) (l8 : K.lookup f8 = some ⟨oc8, od8, .func (PySem.W.fnOf "_law_deed" "_law_deed" (defArgs s_law_deed) (defBody s_law_deed) (defScope s_law_deed) .none kV8 dc8 pm8 an8 cd8 ct8), sl8⟩) (c8 : PySem.W.codeIn K cd8 "_law_deed" = true) (k8 : PySem.W.keepIn K (.ref f8) = true)
    (a9 : PySem.W.nsIn K mainGlobals "need_count" = some (some (.ref f9))) (l9 : K.lookup f9 = some ⟨oc9, od9, .func (PySem.W.fnOf "need_count" "need_count" (defArgs s_need_count) (defBody s_need_count) (defScope s_need_count) .none kV9 dc9 pm9 an9 cd9 ct9), sl9⟩) (c9 : PySem.W.codeIn K cd9 "need_count" = true) (k9 : PySem.W.keepIn K (.ref f9) = true)
    (a10 : PySem.W.nsIn K mainGlobals "summed" = some (some (.ref f10))) (l10 : K.lookup f10 = some ⟨oc10, od10, .func (PySem.W.fnOf "summed" "summed" (defArgs s_summed) (defBody s_summed) (defScope s_summed) .none kV10 dc10 pm10 an10 cd10 ct10), sl10⟩) (c10 : PySem.W.codeIn K cd10 "summed" = true) (k10 : PySem.W.keepIn K (.ref f10) = true)
    (a11 : PySem.W.nsIn K mainGlobals "summed_from" = some (some (.ref f11))) (l11 : K.lookup f11 = some ⟨oc11, od11, .func (PySem.W.fnOf "summed_from" "summed_from" (defArgs s_summed_from) (defBody s_summed_from) (defScope s_summed_from) .none kV11 dc11 pm11 an11 cd11 ct11), sl11⟩) (c11 : PySem.W.codeIn K cd11 "summed_from" = true) (k11 : PySem.W.keepIn K (.ref f11) = true)
    (a12 : PySem.W.findIn K (.ref C_Walker) "moved" = some (some (.ref f12))) (i12 : PySem.W.isFn K (.ref f12) = true) (l12 : K.lookup f12 = some ⟨oc12, od12, .func (PySem.W.fnOf "moved" "Walker.moved" (defArgs s_Walker_moved) (defBody s_Walker_moved) (defScope s_Walker_moved) .none kV12 dc12 pm12 an12 cd12 ct12), sl12⟩) (c12 : PySem.W.codeIn K cd12 "Walker.moved" = true) (k12 : PySem.W.keepIn K (.ref f12) = true)
    (a13 : PySem.W.findIn K (.ref C_Walker) "go" = some (some (.ref f13))) (i13 : PySem.W.isFn K (.ref f13) = true) (l13 : K.lookup f13 = some ⟨oc13, od13, .func (PySem.W.fnOf "go" "Walker.go" (defArgs s_Walker_go) (defBody s_Walker_go) (defScope s_Walker_go) .none kV13 dc13 pm13 an13 cd13 ct13), sl13⟩) (c13 : PySem.W.codeIn K cd13 "Walker.go" = true) (k13 : PySem.W.keepIn K (.ref f13) = true)
    (a14 : PySem.W.nsIn K mainGlobals "need_bounds" = some (some (.ref f14))) (l14 : K.lookup f14 = some ⟨oc14, od14, .func (PySem.W.fnOf "need_bounds" "need_bounds" (defArgs s_need_bounds) (defBody s_need_bounds) (defScope s_need_bounds) .none kV14 dc14 pm14 an14 cd14 ct14), sl14⟩) (c14 : PySem.W.codeIn K cd14 "need_bounds" = true) (k14 : PySem.W.keepIn K (.ref f14) = true)
    (a15 : PySem.W.nsIn K mainGlobals "over_up" = some (some (.ref f15))) (l15 : K.lookup f15 = some ⟨oc15, od15, .func (PySem.W.fnOf "over_up" "over_up" (defArgs s_over_up) (defBody s_over_up) (defScope s_over_up) .none kV15 dc15 pm15 an15 cd15 ct15), sl15⟩) (c15 : PySem.W.codeIn K cd15 "over_up" = true) (k15 : PySem.W.keepIn K (.ref f15) = true)
    (a16 : PySem.W.nsIn K mainGlobals "first_rest" = some (some (.ref f16))) (l16 : K.lookup f16 = some ⟨oc16, od16, .func (PySem.W.fnOf "first_rest" "first_rest" (defArgs s_first_rest) (defBody s_first_rest) (defScope s_first_rest) .none kV16 dc16 pm16 an16 cd16 ct16), sl16⟩) (c16 : PySem.W.codeIn K cd16 "first_rest" = true) (k16 : PySem.W.keepIn K (.ref f16) = true)
    (a17 : PySem.W.nsIn K mainGlobals "first_of" = some (some (.ref f17))) (l17 : K.lookup f17 = some ⟨oc17, od17, .func (PySem.W.fnOf "first_of" "first_of" (defArgs s_first_of) (defBody s_first_of) (defScope s_first_of) .none kV17 dc17 pm17 an17 cd17 ct17), sl17⟩) (c17 : PySem.W.codeIn K cd17 "first_of" = true) (k17 : PySem.W.keepIn K (.ref f17) = true)
    (a18 : PySem.W.nsIn K mainGlobals "next_of" = some (some (.ref f18))) (l18 : K.lookup f18 = some ⟨oc18, od18, .func (PySem.W.fnOf "next_of" "next_of" (defArgs s_next_of) (defBody s_next_of) (defScope s_next_of) .none kV18 dc18 pm18 an18 cd18 ct18), sl18⟩) (c18 : PySem.W.codeIn K cd18 "next_of" = true) (k18 : PySem.W.keepIn K (.ref f18) = true)
    (a19 : PySem.W.findIn K (.ref C_Walker) "find" = some (some (.ref f19))) (i19 : PySem.W.isFn K (.ref f19) = true) (l19 : K.lookup f19 = some ⟨oc19, od19, .func (PySem.W.fnOf "find" "Walker.find" (defArgs s_Walker_find) (defBody s_Walker_find) (defScope s_Walker_find) .none kV19 dc19 pm19 an19 cd19 ct19), sl19⟩) (c19 : PySem.W.codeIn K cd19 "Walker.find" = true) (k19 : PySem.W.keepIn K (.ref f19) = true)
    (a20 : PySem.W.findIn K (.ref C_Walker) "back" = some (some (.ref f20))) (i20 : PySem.W.isFn K (.ref f20) = true) (l20 : K.lookup f20 = some ⟨oc20, od20, .func (PySem.W.fnOf "back" "Walker.back" (defArgs s_Walker_back) (defBody s_Walker_back) (defScope s_Walker_back) .none kV20 dc20 pm20 an20 cd20 ct20), sl20⟩) (c20 : PySem.W.codeIn K cd20 "Walker.back" = true) (k20 : PySem.W.keepIn K (.ref f20) = true)
    (a21 : PySem.W.nsIn K mainGlobals "_law_kind_of" = some (some (.ref f21))) (l21 : K.lookup f21 = some ⟨oc21, od21, .func (PySem.W.fnOf "_law_kind_of" "_law_kind_of" (defArgs s_law_kind_of) (defBody s_law_kind_of) (defScope s_law_kind_of) .none kV21 dc21 pm21 an21 cd21 ct21), sl21⟩) (c21 : PySem.W.codeIn K cd21 "_law_kind_of" = true) (k21 : PySem.W.keepIn K (.ref f21) = true)
    (a22 : PySem.W.nsIn K mainGlobals "_law_walk_told" = some (some (.ref f22))) (l22 : K.lookup f22 = some ⟨oc22, od22, .func (PySem.W.fnOf "_law_walk_told" "_law_walk_told" (defArgs s_law_walk_told) (defBody s_law_walk_told) (defScope s_law_walk_told) .none kV22 dc22 pm22 an22 cd22 ct22), sl22⟩) (c22 : PySem.W.codeIn K cd22 "_law_walk_told" = true) (k22 : PySem.W.keepIn K (.ref f22) = true)
    (a23 : PySem.W.nsIn K mainGlobals "_law_heights" = some (some (.ref f23))) (l23 : K.lookup f23 = some ⟨oc23, od23, .func (PySem.W.fnOf "_law_heights" "_law_heights" (defArgs s_law_heights) (defBody s_law_heights) (defScope s_law_heights) .none kV23 dc23 pm23 an23 cd23 ct23), sl23⟩) (c23 : PySem.W.codeIn K cd23 "_law_heights" = true) (k23 : PySem.W.keepIn K (.ref f23) = true)
    (a24 : PySem.W.nsIn K mainGlobals "_law_is_within" = some (some (.ref f24))) (l24 : K.lookup f24 = some ⟨oc24, od24, .func (PySem.W.fnOf "_law_is_within" "_law_is_within" (defArgs s_law_is_within) (defBody s_law_is_within) (defScope s_law_is_within) .none kV24 dc24 pm24 an24 cd24 ct24), sl24⟩) (c24 : PySem.W.codeIn K cd24 "_law_is_within" = true) (k24 : PySem.W.keepIn K (.ref f24) = true)
    (a25 : PySem.W.nsIn K mainGlobals "_law_due" = some (some (.ref f25))) (l25 : K.lookup f25 = some ⟨oc25, od25, .func (PySem.W.fnOf "_law_due" "_law_due" (defArgs s_law_due) (defBody s_law_due) (defScope s_law_due) .none kV25 dc25 pm25 an25 cd25 ct25), sl25⟩) (c25 : PySem.W.codeIn K cd25 "_law_due" = true) (k25 : PySem.W.keepIn K (.ref f25) = true)
    (a26 : PySem.W.nsIn K mainGlobals "counted" = some (some (.ref f26))) (l26 : K.lookup f26 = some ⟨oc26, od26, .func (PySem.W.fnOf "counted" "counted" (defArgs s_counted) (defBody s_counted) (defScope s_counted) .none kV26 dc26 pm26 an26 cd26 ct26), sl26⟩) (c26 : PySem.W.codeIn K cd26 "counted" = true) (k26 : PySem.W.keepIn K (.ref f26) = true)
    (a27 : PySem.W.findIn K (.ref C_Walker) "often" = some (some (.ref f27))) (i27 : PySem.W.isFn K (.ref f27) = true) (l27 : K.lookup f27 = some ⟨oc27, od27, .func (PySem.W.fnOf "often" "Walker.often" (defArgs s_Walker_often) (defBody s_Walker_often) (defScope s_Walker_often) .none kV27 dc27 pm27 an27 cd27 ct27), sl27⟩) (c27 : PySem.W.codeIn K cd27 "Walker.often" = true) (k27 : PySem.W.keepIn K (.ref f27) = true)
    (a28 : PySem.W.findIn K (.ref C_Walker) "total" = some (some (.ref f28))) (i28 : PySem.W.isFn K (.ref f28) = true) (l28 : K.lookup f28 = some ⟨oc28, od28, .func (PySem.W.fnOf "total" "Walker.total" (defArgs s_Walker_total) (defBody s_Walker_total) (defScope s_Walker_total) .none kV28 dc28 pm28 an28 cd28 ct28), sl28⟩) (c28 : PySem.W.codeIn K cd28 "Walker.total" = true) (k28 : PySem.W.keepIn K (.ref f28) = true)
    (a29 : PySem.W.nsIn K mainGlobals "rest" = some (some (.ref f29))) (l29 : K.lookup f29 = some ⟨oc29, od29, .func (PySem.W.fnOf "rest" "rest" (defArgs s_rest) (defBody s_rest) (defScope s_rest) .none kV29 dc29 pm29 an29 cd29 ct29), sl29⟩) (c29 : PySem.W.codeIn K cd29 "rest" = true) (k29 : PySem.W.keepIn K (.ref f29) = true)
    (a30 : PySem.W.findIn K (.ref C_Walker) "rest" = some (some (.ref f30))) (i30 : PySem.W.isFn K (.ref f30) = true) (l30 : K.lookup f30 = some ⟨oc30, od30, .func (PySem.W.fnOf "rest" "Walker.rest" (defArgs s_Walker_rest) (defBody s_Walker_rest) (defScope s_Walker_rest) .none kV30 dc30 pm30 an30 cd30 ct30), sl30⟩) (c30 : PySem.W.codeIn K cd30 "Walker.rest" = true) (k30 : PySem.W.keepIn K (.ref f30) = true)
    (a31 : PySem.W.nsIn K mainGlobals "height" = some (some (.ref f31))) (l31 : K.lookup f31 = some ⟨oc31, od31, .func (PySem.W.fnOf "height" "height" (defArgs s_height) (defBody s_height) (defScope s_height) .none kV31 dc31 pm31 an31 cd31 ct31), sl31⟩) (c31 : PySem.W.codeIn K cd31 "height" = true) (k31 : PySem.W.keepIn K (.ref f31) = true)
    (a32 : PySem.W.findIn K (.ref C_Walker) "height" = some (some (.ref f32))) (i32 : PySem.W.isFn K (.ref f32) = true) (l32 : K.lookup f32 = some ⟨oc32, od32, .func (PySem.W.fnOf "height" "Walker.height" (defArgs s_Walker_height) (defBody s_Walker_height) (defScope s_Walker_height) .none kV32 dc32 pm32 an32 cd32 ct32), sl32⟩) (c32 : PySem.W.codeIn K cd32 "Walker.height" = true) (k32 : PySem.W.keepIn K (.ref f32) = true)
    (a33 : PySem.W.findIn K (.ref C_Walker) "place" = some (some (.ref f33))) (i33 : PySem.W.isFn K (.ref f33) = true) (l33 : K.lookup f33 = some ⟨oc33, od33, .func (PySem.W.fnOf "place" "Walker.place" (defArgs s_Walker_place) (defBody s_Walker_place) (defScope s_Walker_place) .none kV33 dc33 pm33 an33 cd33 ct33), sl33⟩) (c33 : PySem.W.codeIn K cd33 "Walker.place" = true) (k33 : PySem.W.keepIn K (.ref f33) = true)
    (a34 : PySem.W.nsIn K mainGlobals "_law_whole" = some (some (.ref f34))) (l34 : K.lookup f34 = some ⟨oc34, od34, .func (PySem.W.fnOf "_law_whole" "_law_whole" (defArgs s_law_whole) (defBody s_law_whole) (defScope s_law_whole) .none kV34 dc34 pm34 an34 cd34 ct34), sl34⟩) (c34 : PySem.W.codeIn K cd34 "_law_whole" = true) (k34 : PySem.W.keepIn K (.ref f34) = true)
    (a35 : PySem.W.nsIn K mainGlobals "_law_quick" = some (some (.ref f35))) (l35 : K.lookup f35 = some ⟨oc35, od35, .func (PySem.W.fnOf "_law_quick" "_law_quick" (defArgs s_law_quick) (defBody s_law_quick) (defScope s_law_quick) .none kV35 dc35 pm35 an35 cd35 ct35), sl35⟩) (c35 : PySem.W.codeIn K cd35 "_law_quick" = true) (k35 : PySem.W.keepIn K (.ref f35) = true)
    (a36 : PySem.W.nsIn K mainGlobals "_law_counted" = some (some (.ref f36))) (l36 : K.lookup f36 = some ⟨oc36, od36, .func (PySem.W.fnOf "_law_counted" "_law_counted" (defArgs s_law_counted) (defBody s_law_counted) (defScope s_law_counted) .none kV36 dc36 pm36 an36 cd36 ct36), sl36⟩) (c36 : PySem.W.codeIn K cd36 "_law_counted" = true) (k36 : PySem.W.keepIn K (.ref f36) = true)
    (a37 : PySem.W.nsIn K mainGlobals "_law_walker_stands" = some (some (.ref f37))) (l37 : K.lookup f37 = some ⟨oc37, od37, .func (PySem.W.fnOf "_law_walker_stands" "_law_walker_stands" (defArgs s_law_walker_stands) (defBody s_law_walker_stands) (defScope s_law_walker_stands) .none kV37 dc37 pm37 an37 cd37 ct37), sl37⟩) (c37 : PySem.W.codeIn K cd37 "_law_walker_stands" = true) (k37 : PySem.W.keepIn K (.ref f37) = true)
    (a38 : PySem.W.nsIn K mainGlobals "law" = some (some (.ref f38))) (l38 : K.lookup f38 = some ⟨oc38, od38, .func (PySem.W.fnOf "law" "law" (defArgs s_law) (defBody s_law) (defScope s_law) .none kV38 dc38 pm38 an38 cd38 ct38), sl38⟩) (c38 : PySem.W.codeIn K cd38 "law" = true) (k38 : PySem.W.keepIn K (.ref f38) = true)
    (w_height_stairs : PySem.W.nsIn K mainGlobals "height_stairs" = some (some (.ref f31)))
    (w_rest_stairs : PySem.W.nsIn K mainGlobals "rest_stairs" = some (some (.ref f29)))
    (z_ValueError : PySem.W.nsIn K mainGlobals "ValueError" = some none)
    (z_all : PySem.W.nsIn K mainGlobals "all" = some none)
    (z_bool : PySem.W.nsIn K mainGlobals "bool" = some none)
    (z_int : PySem.W.nsIn K mainGlobals "int" = some none)
    (z_isinstance : PySem.W.nsIn K mainGlobals "isinstance" = some none)
    (z_len : PySem.W.nsIn K mainGlobals "len" = some none)
    (z_max : PySem.W.nsIn K mainGlobals "max" = some none)
    (z_min : PySem.W.nsIn K mainGlobals "min" = some none)
    (z_range : PySem.W.nsIn K mainGlobals "range" = some none)
    (z_sorted : PySem.W.nsIn K mainGlobals "sorted" = some none)
    (z_sum : PySem.W.nsIn K mainGlobals "sum" = some none)
    (z_tuple : PySem.W.nsIn K mainGlobals "tuple" = some none)
    (z_zip : PySem.W.nsIn K mainGlobals "zip" = some none)
    (q_COUNTS_BELOW : PySem.W.nsIn K mainGlobals "COUNTS_BELOW" = some (some (.int COUNTS_BELOW_val tk_COUNTS_BELOW)))
    (xA0 : PySem.W.nsIn K mainGlobals "StairError" = some (some (.ref C0))) (xL0 : K.lookup C0 = some (excClassObj xn0 xq0 C0 xN0 xb0 vE true xl0 xs0 xa0 xc0 xd0 xe0 xf0 xg0 xh0 xi0 "ValueError.__new__"))
    (xA1 : PySem.W.nsIn K mainGlobals "NoBounds" = some (some (.ref C1))) (xL1 : K.lookup C1 = some (excClassObj xn1 xq1 C1 xN1 xb1 (.ref C0 :: vE) true xl1 xs1 xa1 xc1 xd1 xe1 xf1 xg1 xh1 xi1 "ValueError.__new__"))
    (xA2 : PySem.W.nsIn K mainGlobals "NoCoins" = some (some (.ref C2))) (xL2 : K.lookup C2 = some (excClassObj xn2 xq2 C2 xN2 xb2 (.ref C0 :: vE) true xl2 xs2 xa2 xc2 xd2 xe2 xf2 xg2 xh2 xi2 "ValueError.__new__"))
    (xA3 : PySem.W.nsIn K mainGlobals "NoCount" = some (some (.ref C3))) (xL3 : K.lookup C3 = some (excClassObj xn3 xq3 C3 xN3 xb3 (.ref C0 :: vE) true xl3 xs3 xa3 xc3 xd3 xe3 xf3 xg3 xh3 xi3 "ValueError.__new__"))
    (xA4 : PySem.W.nsIn K mainGlobals "NoEntry" = some (some (.ref C4))) (xL4 : K.lookup C4 = some (excClassObj xn4 xq4 C4 xN4 xb4 (.ref C0 :: vE) true xl4 xs4 xa4 xc4 xd4 xe4 xf4 xg4 xh4 xi4 "ValueError.__new__"))
    (xA5 : PySem.W.nsIn K mainGlobals "NoName" = some (some (.ref C5))) (xL5 : K.lookup C5 = some (excClassObj xn5 xq5 C5 xN5 xb5 (.ref C0 :: vE) true xl5 xs5 xa5 xc5 xd5 xe5 xf5 xg5 xh5 xi5 "ValueError.__new__"))
    (xA6 : PySem.W.nsIn K mainGlobals "NoPartner" = some (some (.ref C6))) (xL6 : K.lookup C6 = some (excClassObj xn6 xq6 C6 xN6 xb6 (.ref C0 :: vE) true xl6 xs6 xa6 xc6 xd6 xe6 xf6 xg6 xh6 xi6 "ValueError.__new__"))
    (xA7 : PySem.W.nsIn K mainGlobals "NoPower" = some (some (.ref C7))) (xL7 : K.lookup C7 = some (excClassObj xn7 xq7 C7 xN7 xb7 (.ref C0 :: vE) true xl7 xs7 xa7 xc7 xd7 xe7 xf7 xg7 xh7 xi7 "ValueError.__new__"))
    (xA8 : PySem.W.nsIn K mainGlobals "NoRing" = some (some (.ref C8))) (xL8 : K.lookup C8 = some (excClassObj xn8 xq8 C8 xN8 xb8 (.ref C0 :: vE) true xl8 xs8 xa8 xc8 xd8 xe8 xf8 xg8 xh8 xi8 "ValueError.__new__"))
    (xA9 : PySem.W.nsIn K mainGlobals "NoRise" = some (some (.ref C9))) (xL9 : K.lookup C9 = some (excClassObj xn9 xq9 C9 xN9 xb9 (.ref C0 :: vE) true xl9 xs9 xa9 xc9 xd9 xe9 xf9 xg9 xh9 xi9 "ValueError.__new__"))
    (xA10 : PySem.W.nsIn K mainGlobals "NoRow" = some (some (.ref C10))) (xL10 : K.lookup C10 = some (excClassObj xn10 xq10 C10 xN10 xb10 (.ref C0 :: vE) true xl10 xs10 xa10 xc10 xd10 xe10 xf10 xg10 xh10 xi10 "ValueError.__new__"))
    (xA11 : PySem.W.nsIn K mainGlobals "NoStair" = some (some (.ref C11))) (xL11 : K.lookup C11 = some (excClassObj xn11 xq11 C11 xN11 xb11 (.ref C0 :: vE) true xl11 xs11 xa11 xc11 xd11 xe11 xf11 xg11 xh11 xi11 "ValueError.__new__"))
    (xA12 : PySem.W.nsIn K mainGlobals "NoSteps" = some (some (.ref C12))) (xL12 : K.lookup C12 = some (excClassObj xn12 xq12 C12 xN12 xb12 (.ref C0 :: vE) true xl12 xs12 xa12 xc12 xd12 xe12 xf12 xg12 xh12 xi12 "ValueError.__new__"))
    (xA13 : PySem.W.nsIn K mainGlobals "NoText" = some (some (.ref C13))) (xL13 : K.lookup C13 = some (excClassObj xn13 xq13 C13 xN13 xb13 (.ref C0 :: vE) true xl13 xs13 xa13 xc13 xd13 xe13 xf13 xg13 xh13 xi13 "ValueError.__new__"))
    (xA14 : PySem.W.nsIn K mainGlobals "NoWalker" = some (some (.ref C14))) (xL14 : K.lookup C14 = some (excClassObj xn14 xq14 C14 xN14 xb14 (.ref C0 :: vE) true xl14 xs14 xa14 xc14 xd14 xe14 xf14 xg14 xh14 xi14 "ValueError.__new__"))
    (xA15 : PySem.W.nsIn K mainGlobals "NothingLeft" = some (some (.ref C15))) (xL15 : K.lookup C15 = some (excClassObj xn15 xq15 C15 xN15 xb15 (.ref C0 :: vE) true xl15 xs15 xa15 xc15 xd15 xe15 xf15 xg15 xh15 xi15 "ValueError.__new__"))
    (xA16 : PySem.W.nsIn K mainGlobals "TooMany" = some (some (.ref C16))) (xL16 : K.lookup C16 = some (excClassObj xn16 xq16 C16 xN16 xb16 (.ref C0 :: vE) true xl16 xs16 xa16 xc16 xd16 xe16 xf16 xg16 xh16 xi16 "ValueError.__new__"))
    (xNe : [C0, C1, C2, C3, C4, C5, C6, C7, C8, C9, C10, C11, C12, C13, C14, C15, C16].Nodup) (xHn : PySem.W.specialIn K (.builtin "object.__class__") "__get__" = some (some (.builtin "getset_descriptor.__get__"))) (xHt : PySem.W.takesIn K (.builtin "object.__class__") = some true)
    (yK1 : PySem.W.keepIn K (.ref C1) = true) (yE1 : PySem.W.excIn K C1 vE "ValueError.__new__" = true) (yG1 : PySem.W.findIn K (.ref C1) "__getattribute__" = some (some (.builtin "BaseException.__getattribute__"))) (yT1 : PySem.W.findIn K (.ref C1) "__getattr__" = some none) (yC1 : PySem.W.findIn K (.ref C1) "__class__" = some (some (.builtin "object.__class__")))
    (yK3 : PySem.W.keepIn K (.ref C3) = true) (yE3 : PySem.W.excIn K C3 vE "ValueError.__new__" = true) (yG3 : PySem.W.findIn K (.ref C3) "__getattribute__" = some (some (.builtin "BaseException.__getattribute__"))) (yT3 : PySem.W.findIn K (.ref C3) "__getattr__" = some none) (yC3 : PySem.W.findIn K (.ref C3) "__class__" = some (some (.builtin "object.__class__")))
    (yK15 : PySem.W.keepIn K (.ref C15) = true) (yE15 : PySem.W.excIn K C15 vE "ValueError.__new__" = true) (yG15 : PySem.W.findIn K (.ref C15) "__getattribute__" = some (some (.builtin "BaseException.__getattribute__"))) (yT15 : PySem.W.findIn K (.ref C15) "__getattr__" = some none) (yC15 : PySem.W.findIn K (.ref C15) "__class__" = some (some (.builtin "object.__class__")))
    : ∃ fd : FuncData, (∀ (s : Shared) (v : Value), BindsTo s fd ⟨[v], []⟩ [("script", v)]) ∧ ∀ base : Heap, K.In base → base.Ns mainGlobals mg → FnOk l.prog w K mg base CX0 116 fa fd ["script"] (sp_law K) := by
  have D_law_draws : DefAt K mg "_law_draws" s_law_draws ["script", "k"] := def_mk X G a0 l0 c0 k0 fun _ _ _ _ _ _ us hl => match us, hl with | [_, _], _ => rfl
  have D_law_draw : DefAt K mg "_law_draw" s_law_draw ["draws", "many"] := def_mk X G a1 l1 c1 k1 fun _ _ _ _ _ _ us hl => match us, hl with | [_, _], _ => rfl
  have D_law_small_stair : DefAt K mg "_law_small_stair" s_law_small_stair ["draws"] := def_mk X G a2 l2 c2 k2 fun _ _ _ _ _ _ us hl => match us, hl with | [_], _ => rfl
  have D_is_whole : DefAt K mg "is_whole" s_is_whole ["thing"] := def_mk X G a3 l3 c3 k3 fun _ _ _ _ _ _ us hl => match us, hl with | [_], _ => rfl
  have D_is_stair : DefAt K mg "is_stair" s_is_stair ["thing"] := def_mk X G a4 l4 c4 k4 fun _ _ _ _ _ _ us hl => match us, hl with | [_], _ => rfl
  have D_need_stair : DefAt K mg "need_stair" s_need_stair ["thing"] := def_mk X G a5 l5 c5 k5 fun _ _ _ _ _ _ us hl => match us, hl with | [_], _ => rfl
  have D_Walker___init__ : IniAt K C_Walker "Walker.__init__" s_Walker___init__ ["self", "stair"] := ini_mk oM_Walker oK_Walker a6 i6 l6 c6 k6 fun _ _ _ _ _ _ us hl => match us, hl with | [_, _], _ => rfl
  have D_law_some_bounds : DefAt K mg "_law_some_bounds" s_law_some_bounds ["stair", "draws"] := def_mk X G a7 l7 c7 k7 fun _ _ _ _ _ _ us hl => match us, hl with | [_, _], _ => rfl
  have D_law_deed : DefAt K mg "_law_deed" s_law_deed ["stair", "draws"] := def_mk X G a8 l8 c8 k8 fun _ _ _ _ _ _ us hl => match us, hl with | [_, _], _ => rfl
  have D_need_count : DefAt K mg "need_count" s_need_count ["n"] := def_mk X G a9 l9 c9 k9 fun _ _ _ _ _ _ us hl => match us, hl with | [_], _ => rfl
  have D_summed : DefAt K mg "summed" s_summed ["n", "a", "b", "m"] := def_mk X G a10 l10 c10 k10 fun _ _ _ _ _ _ us hl => match us, hl with | [_, _, _, _], _ => rfl
  have D_summed_from : DefAt K mg "summed_from" s_summed_from ["stair", "k", "n"] := def_mk X G a11 l11 c11 k11 fun _ _ _ _ _ _ us hl => match us, hl with | [_, _, _], _ => rfl
  have D_Walker_moved : MetAt K C_Walker "moved" "Walker.moved" s_Walker_moved ["self", "n"] := met_mk a12 i12 l12 c12 k12 fun _ _ _ _ _ _ us hl => match us, hl with | [_, _], _ => rfl
  have D_Walker_go : MetAt K C_Walker "go" "Walker.go" s_Walker_go ["self", "n"] := met_mk a13 i13 l13 c13 k13 fun _ _ _ _ _ _ us hl => match us, hl with | [_, _], _ => rfl
  have D_need_bounds : DefAt K mg "need_bounds" s_need_bounds ["stair", "low", "high"] := def_mk X G a14 l14 c14 k14 fun _ _ _ _ _ _ us hl => match us, hl with | [_, _, _], _ => rfl
  have D_over_up : DefAt K mg "over_up" s_over_up ["top", "bottom"] := def_mk X G a15 l15 c15 k15 fun _ _ _ _ _ _ us hl => match us, hl with | [_, _], _ => rfl
  have D_first_rest : DefAt K mg "first_rest" s_first_rest ["a", "m", "low", "high"] := def_mk X G a16 l16 c16 k16 fun _ _ _ _ _ _ us hl => match us, hl with | [_, _, _, _], _ => rfl
  have D_first_of : DefAt K mg "first_of" s_first_of ["stair", "low", "high"] := def_mk X G a17 l17 c17 k17 fun _ _ _ _ _ _ us hl => match us, hl with | [_, _, _], _ => rfl
  have D_next_of : DefAt K mg "next_of" s_next_of ["stair", "low", "high", "k"] := def_mk X G a18 l18 c18 k18 fun _ _ _ _ _ _ us hl => match us, hl with | [_, _, _, _], _ => rfl
  have D_Walker_find : MetAt K C_Walker "find" "Walker.find" s_Walker_find ["self", "low", "high"] := met_mk a19 i19 l19 c19 k19 fun _ _ _ _ _ _ us hl => match us, hl with | [_, _, _], _ => rfl
  have D_Walker_back : MetAt K C_Walker "back" "Walker.back" s_Walker_back ["self"] := met_mk a20 i20 l20 c20 k20 fun _ _ _ _ _ _ us hl => match us, hl with | [_], _ => rfl
  have D_law_kind_of : DefAt K mg "_law_kind_of" s_law_kind_of ["e"] := def_mk X G a21 l21 c21 k21 fun _ _ _ _ _ _ us hl => match us, hl with | [_], _ => rfl
  have D_law_walk_told : DefAt K mg "_law_walk_told" s_law_walk_told ["walker", "deed"] := def_mk X G a22 l22 c22 k22 fun _ _ _ _ _ _ us hl => match us, hl with | [_, _], _ => rfl
  have D_law_heights : DefAt K mg "_law_heights" s_law_heights ["stair", "k", "n"] := def_mk X G a23 l23 c23 k23 fun _ _ _ _ _ _ us hl => match us, hl with | [_, _, _], _ => rfl
  have D_law_is_within : DefAt K mg "_law_is_within" s_law_is_within ["stair", "k", "low", "high"] := def_mk X G a24 l24 c24 k24 fun _ _ _ _ _ _ us hl => match us, hl with | [_, _, _, _], _ => rfl
  have D_law_due : DefAt K mg "_law_due" s_law_due ["stair", "past", "deed"] := def_mk X G a25 l25 c25 k25 fun _ _ _ _ _ _ us hl => match us, hl with | [_, _, _], _ => rfl
  have D_counted : DefAt K mg "counted" s_counted ["stair", "n", "low", "high"] := def_mk X G a26 l26 c26 k26 fun _ _ _ _ _ _ us hl => match us, hl with | [_, _, _, _], _ => rfl
  have D_Walker_often : MetAt K C_Walker "often" "Walker.often" s_Walker_often ["self", "low", "high"] := met_mk a27 i27 l27 c27 k27 fun _ _ _ _ _ _ us hl => match us, hl with | [_, _, _], _ => rfl
  have D_Walker_total : MetAt K C_Walker "total" "Walker.total" s_Walker_total ["self"] := met_mk a28 i28 l28 c28 k28 fun _ _ _ _ _ _ us hl => match us, hl with | [_], _ => rfl
  have D_rest : DefAt K mg "rest" s_rest ["stair", "k"] := def_mk X G a29 l29 c29 k29 fun _ _ _ _ _ _ us hl => match us, hl with | [_, _], _ => rfl
  have D_Walker_rest : MetAt K C_Walker "rest" "Walker.rest" s_Walker_rest ["self"] := met_mk a30 i30 l30 c30 k30 fun _ _ _ _ _ _ us hl => match us, hl with | [_], _ => rfl
  have D_height : DefAt K mg "height" s_height ["stair", "k"] := def_mk X G a31 l31 c31 k31 fun _ _ _ _ _ _ us hl => match us, hl with | [_, _], _ => rfl
  have D_Walker_height : MetAt K C_Walker "height" "Walker.height" s_Walker_height ["self"] := met_mk a32 i32 l32 c32 k32 fun _ _ _ _ _ _ us hl => match us, hl with | [_], _ => rfl
  have D_Walker_place : MetAt K C_Walker "place" "Walker.place" s_Walker_place ["self"] := met_mk a33 i33 l33 c33 k33 fun _ _ _ _ _ _ us hl => match us, hl with | [_], _ => rfl
  have D_law_whole : DefAt K mg "_law_whole" s_law_whole ["thing"] := def_mk X G a34 l34 c34 k34 fun _ _ _ _ _ _ us hl => match us, hl with | [_], _ => rfl
  have D_law_quick : DefAt K mg "_law_quick" s_law_quick ["stair", "n"] := def_mk X G a35 l35 c35 k35 fun _ _ _ _ _ _ us hl => match us, hl with | [_, _], _ => rfl
  have D_law_counted : DefAt K mg "_law_counted" s_law_counted ["stair", "n", "low", "high"] := def_mk X G a36 l36 c36 k36 fun _ _ _ _ _ _ us hl => match us, hl with | [_, _, _, _], _ => rfl
  have D_law_walker_stands : DefAt K mg "_law_walker_stands" s_law_walker_stands ["walker", "stair", "at", "low", "high"] := def_mk X G a37 l37 c37 k37 fun _ _ _ _ _ _ us hl => match us, hl with | [_, _, _, _, _], _ => rfl
  have D_law : DefAt K mg "law" s_law ["script"] := def_mk X G a38 l38 c38 k38 fun _ _ _ _ _ _ us hl => match us, hl with | [_], _ => rfl
  have XT0 : XT K mg ⟨C0, C1, C2, C3, C4, C5, C6, C7, C8, C9, C10, C11, C12, C13, C14, C15, C16⟩ := ⟨PySem.W.mg_of X G xA0, ⟨_, _, _, _, _, _, _, _, _, _, _, _, _, _, xL0⟩, PySem.W.mg_of X G xA1, ⟨_, _, _, _, _, _, _, _, _, _, _, _, _, _, xL1⟩, PySem.W.mg_of X G xA2, ⟨_, _, _, _, _, _, _, _, _, _, _, _, _, _, xL2⟩, PySem.W.mg_of X G xA3, ⟨_, _, _, _, _, _, _, _, _, _, _, _, _, _, xL3⟩, PySem.W.mg_of X G xA4, ⟨_, _, _, _, _, _, _, _, _, _, _, _, _, _, xL4⟩, PySem.W.mg_of X G xA5, ⟨_, _, _, _, _, _, _, _, _, _, _, _, _, _, xL5⟩, PySem.W.mg_of X G xA6, ⟨_, _, _, _, _, _, _, _, _, _, _, _, _, _, xL6⟩, PySem.W.mg_of X G xA7, ⟨_, _, _, _, _, _, _, _, _, _, _, _, _, _, xL7⟩, PySem.W.mg_of X G xA8, ⟨_, _, _, _, _, _, _, _, _, _, _, _, _, _, xL8⟩, PySem.W.mg_of X G xA9, ⟨_, _, _, _, _, _, _, _, _, _, _, _, _, _, xL9⟩, PySem.W.mg_of X G xA10, ⟨_, _, _, _, _, _, _, _, _, _, _, _, _, _, xL10⟩, PySem.W.mg_of X G xA11, ⟨_, _, _, _, _, _, _, _, _, _, _, _, _, _, xL11⟩, PySem.W.mg_of X G xA12, ⟨_, _, _, _, _, _, _, _, _, _, _, _, _, _, xL12⟩, PySem.W.mg_of X G xA13, ⟨_, _, _, _, _, _, _, _, _, _, _, _, _, _, xL13⟩, PySem.W.mg_of X G xA14, ⟨_, _, _, _, _, _, _, _, _, _, _, _, _, _, xL14⟩, PySem.W.mg_of X G xA15, ⟨_, _, _, _, _, _, _, _, _, _, _, _, _, _, xL15⟩, PySem.W.mg_of X G xA16, ⟨_, _, _, _, _, _, _, _, _, _, _, _, _, _, xL16⟩, xNe, xHn, xHt⟩
  have Y_NoBounds : XD K C1 := ⟨yK1, yE1, yG1, yT1, yC1⟩
  have Y_NoCount : XD K C3 := ⟨yK3, yE3, yG3, yT3, yC3⟩
  have Y_NothingLeft : XD K C15 := ⟨yK15, yE15, yG15, yT15, yC15⟩
  have e := hfa.symm.trans (PySem.W.mg_of X G a38)
  cases e
  refine ⟨PySem.W.fnOf "law" "law" (defArgs s_law) (defBody s_law) (defScope s_law) .none kV38 dc38 pm38 an38 cd38 ct38, fun s v => .of_eq rfl, fun base _ _ => ?_⟩
  have A_height_stairs : mg "height_stairs" = mg "height" := (PySem.W.mg_of X G w_height_stairs).trans (PySem.W.mg_of X G a31).symm
  have A_rest_stairs : mg "rest_stairs" = mg "rest" := (PySem.W.mg_of X G w_rest_stairs).trans (PySem.W.mg_of X G a29).symm
  have B_ValueError := PySem.W.mg_none_of X G z_ValueError
  have B_all := PySem.W.mg_none_of X G z_all
  have B_bool := PySem.W.mg_none_of X G z_bool
  have B_int := PySem.W.mg_none_of X G z_int
  have B_isinstance := PySem.W.mg_none_of X G z_isinstance
  have B_len := PySem.W.mg_none_of X G z_len
  have B_max := PySem.W.mg_none_of X G z_max
  have B_min := PySem.W.mg_none_of X G z_min
  have B_range := PySem.W.mg_none_of X G z_range
  have B_sorted := PySem.W.mg_none_of X G z_sorted
  have B_sum := PySem.W.mg_none_of X G z_sum
  have B_tuple := PySem.W.mg_none_of X G z_tuple
  have B_zip := PySem.W.mg_none_of X G z_zip
  have U_Walker : TxC K mg "Walker" C_Walker ["stair", "at", "former"] := ⟨⟨oP_Walker, oH_Walker, oO_Walker, oS_Walker⟩, PySem.W.mg_of X G oA_Walker, ⟨oN_Walker_stair, oN_Walker_at, oN_Walker_former, trivial⟩⟩
  have T_COUNTS_BELOW : ∃ t, mg "COUNTS_BELOW" = some (.int COUNTS_BELOW_val t) := ⟨_, PySem.W.mg_of X G q_COUNTS_BELOW⟩
  have G_law_draws := ok_law_draws (P := l.prog) (w := w) (base := base) D_law_draws B_len B_int
  have G_law_draw := ok_law_draw (P := l.prog) (w := w) (base := base) D_law_draw
  have G_law_small_stair := ok_law_small_stair (P := l.prog) (w := w) (base := base) D_law_small_stair G_law_draw
  have G_is_whole := ok_is_whole (P := l.prog) (w := w) (base := base) D_is_whole B_isinstance B_int B_bool
  have G_is_stair := ok_is_stair (P := l.prog) (w := w) (base := base) D_is_stair B_len B_isinstance B_tuple B_all G_is_whole
  have G_need_stair := ok_need_stair (P := l.prog) (w := w) (base := base) D_need_stair G_is_stair
  have G_Walker___init__ := ok_Walker___init__ (P := l.prog) (w := w) (base := base) D_Walker___init__ U_Walker G_need_stair
  have G_law_some_bounds := ok_law_some_bounds (P := l.prog) (w := w) (base := base) D_law_some_bounds B_sorted B_min G_law_draw
  have G_law_deed := ok_law_deed (P := l.prog) (w := w) (base := base) D_law_deed B_max G_law_draw G_law_some_bounds
  have G_need_count := ok_need_count (P := l.prog) (w := w) (base := base) D_need_count T_COUNTS_BELOW
  have G_summed := ok_summed (P := l.prog) (w := w) (base := base) D_summed
  have G_summed_from := ok_summed_from (P := l.prog) (w := w) (base := base) D_summed_from G_summed
  have G_Walker_moved := ok_Walker_moved (P := l.prog) (w := w) (base := base) D_Walker_moved U_Walker G_summed_from
  have G_Walker_go := ok_Walker_go (P := l.prog) (w := w) (base := base) D_Walker_go U_Walker G_need_count G_Walker_moved
  have R_need_count := okR_need_count (P := l.prog) (w := w) (base := base) D_need_count T_COUNTS_BELOW XT0 Y_NoCount
  have R_Walker_go := okR_Walker_go (P := l.prog) (w := w) (base := base) D_Walker_go U_Walker G_need_count R_need_count G_Walker_moved
  have G_need_bounds := ok_need_bounds (P := l.prog) (w := w) (base := base) D_need_bounds
  have G_over_up := ok_over_up (P := l.prog) (w := w) (base := base) D_over_up
  have G_first_rest := ok_first_rest (P := l.prog) (w := w) (base := base) D_first_rest G_over_up
  have G_first_of := ok_first_of (P := l.prog) (w := w) (base := base) D_first_of G_first_rest
  have G_next_of := ok_next_of (P := l.prog) (w := w) (base := base) D_next_of G_first_of
  have G_Walker_find := ok_Walker_find (P := l.prog) (w := w) (base := base) D_Walker_find U_Walker G_need_bounds G_next_of G_Walker_moved
  have R_need_bounds := okR_need_bounds (P := l.prog) (w := w) (base := base) D_need_bounds XT0 Y_NoBounds
  have R_Walker_find := okR_Walker_find (P := l.prog) (w := w) (base := base) D_Walker_find U_Walker G_need_bounds R_need_bounds G_next_of G_Walker_moved
  have G_Walker_back := ok_Walker_back (P := l.prog) (w := w) (base := base) D_Walker_back U_Walker
  have R_Walker_back := okR_Walker_back (P := l.prog) (w := w) (base := base) D_Walker_back U_Walker XT0 Y_NothingLeft
  have G_law_kind_of := ok_law_kind_of (P := l.prog) (w := w) (base := base) D_law_kind_of B_isinstance B_ValueError B_zip XT0
  have G_law_walk_told := ok_law_walk_told (P := l.prog) (w := w) (base := base) D_law_walk_told U_Walker XT0 Y_NoCount Y_NoBounds Y_NothingLeft G_Walker_go R_Walker_go G_Walker_find R_Walker_find G_Walker_back R_Walker_back G_law_kind_of
  have G_law_heights := ok_law_heights (P := l.prog) (w := w) (base := base) D_law_heights B_range
  have G_law_is_within := ok_law_is_within (P := l.prog) (w := w) (base := base) D_law_is_within
  have G_law_due := ok_law_due (P := l.prog) (w := w) (base := base) D_law_due B_len B_sum B_range G_law_heights G_law_is_within
  have G_counted := ok_counted (P := l.prog) (w := w) (base := base) D_counted G_summed
  have G_Walker_often := ok_Walker_often (P := l.prog) (w := w) (base := base) D_Walker_often U_Walker G_need_bounds G_counted
  have G_Walker_total := ok_Walker_total (P := l.prog) (w := w) (base := base) D_Walker_total U_Walker G_summed
  have G_rest := ok_rest (P := l.prog) (w := w) (base := base) D_rest G_need_stair
  have G_Walker_rest := ok_Walker_rest (P := l.prog) (w := w) (base := base) D_Walker_rest U_Walker A_rest_stairs G_rest
  have G_height := ok_height (P := l.prog) (w := w) (base := base) D_height G_need_stair
  have G_Walker_height := ok_Walker_height (P := l.prog) (w := w) (base := base) D_Walker_height U_Walker A_height_stairs G_height
  have G_Walker_place := ok_Walker_place (P := l.prog) (w := w) (base := base) D_Walker_place U_Walker
  have G_law_whole := ok_law_whole (P := l.prog) (w := w) (base := base) D_law_whole B_isinstance B_int B_bool
  have G_law_quick := ok_law_quick (P := l.prog) (w := w) (base := base) D_law_quick
  have G_law_counted := ok_law_counted (P := l.prog) (w := w) (base := base) D_law_counted G_law_quick
  have G_law_walker_stands := ok_law_walker_stands (P := l.prog) (w := w) (base := base) D_law_walker_stands U_Walker G_Walker_often G_Walker_total G_Walker_rest G_Walker_height G_Walker_place G_law_whole G_law_counted G_law_quick
  exact ok_law (fun_mk (st := s_law) l38 c38 k38) U_Walker B_range B_max B_min B_len G_law_draws G_law_small_stair G_law_draw G_Walker___init__ G_law_deed G_law_walk_told G_law_due G_law_some_bounds G_law_walker_stands
theorem walk {l : PySem.W.OpenLaw} {q : Program} {loose : List Str} {XP : (Str → Option Value) → Heap → Prop} {YP : World → Heap → Prop} {d : DefRec} {K : Params → PySem.W.Frag} (hn : l.most = some 63) (hdf : d.params.defaults = [])
    (hY : ∀ (w : World) (h : Heap), YP w h → (K w.params).In h)
    (F : ∀ (w : World) (mg : Str → Option Value) (fa : Addr) (h : Heap), (K w.params).In h → h.Ns mainGlobals mg → mg d.name = some (.ref fa) →
      ∃ fd : FuncData, (∀ (s : Shared) (u : Value), BindsTo s fd ⟨[u], []⟩ [("script", u)]) ∧ ∀ base : Heap, (K w.params).In base → base.Ns mainGlobals mg → FnOk l.prog w (K w.params) mg base CX0 116 fa fd ["script"] (sp_law (K w.params))) :
    PySem.W.WalkO q loose XP YP l.row.toRowW d [] (fun f vs => PySem.call f vs) :=
  L2.walk_of (n := 63) (k := 116) (x := "script") (CX := fun _ => CX0) (sp := fun w => sp_law (K w.params)) hn (by decide) hdf ⟨rfl, by decide, by decide⟩ hY F (fun _ _ a ns hl _ hS => ⟨a, ns, rfl, hS, hl, fun _ => rfl⟩) fun _ _ _ _ _ z => z
end Sd
open PySem PySem.W PyProof.Rows
set_option maxRecDepth 100000 in
set_option maxHeartbeats 0 in
theorem PySem.Challenge.cw_stairsum_k41_whole_walkers_holds : PySem.Challenge.rw_stairsum_k41_whole_walkers.Holds := by
  w_on; o_law; k_head; (case hw => w_witness2)
  k_fill
  refine Sd.walk (l := PySem.Challenge.rw_stairsum_k41_whole_walkers) rfl rfl (fun w h Y => PySem.W.kIn_of Y) ?F
  case F =>
    intro w mg fa h KX G hmg
    refine' Sd.all_mk KX G hmg ?oA_Walker ?oP_Walker ?oH_Walker ?oO_Walker ?oS_Walker ?oM_Walker ?oK_Walker ?oN_Walker_stair ?oN_Walker_at ?oN_Walker_former ?a0 ?l0 ?c0 ?k0 ?a1 ?l1 ?c1 ?k1 ?a2 ?l2 ?c2 ?k2 ?a3 ?l3 ?c3 ?k3 ?a4 ?l4 ?c4 ?k4 ?a5 ?l5 ?c5 ?k5 ?a6 ?i6 ?l6 ?c6 ?k6 ?a7 ?l7 ?c7 ?k7 ?a8 ?l8 ?c8 ?k8 ?a9 ?l9 ?c9 ?k9 ?a10 ?l10 ?c10 ?k10 ?a11 ?l11 ?c11 ?k11 ?a12 ?i12 ?l12 ?c12 ?k12 ?a13 ?i13 ?l13 ?c13 ?k13 ?a14 ?l14 ?c14 ?k14 ?a15 ?l15 ?c15 ?k15 ?a16 ?l16 ?c16 ?k16 ?a17 ?l17 ?c17 ?k17 ?a18 ?l18 ?c18 ?k18 ?a19 ?i19 ?l19 ?c19 ?k19 ?a20 ?i20 ?l20 ?c20 ?k20 ?a21 ?l21 ?c21 ?k21 ?a22 ?l22 ?c22 ?k22 ?a23 ?l23 ?c23 ?k23 ?a24 ?l24 ?c24 ?k24 ?a25 ?l25 ?c25 ?k25 ?a26 ?l26 ?c26 ?k26 ?a27 ?i27 ?l27 ?c27 ?k27 ?a28 ?i28 ?l28 ?c28 ?k28 ?a29 ?l29 ?c29 ?k29 ?a30 ?i30 ?l30 ?c30 ?k30 ?a31 ?l31 ?c31 ?k31 ?a32 ?i32 ?l32 ?c32 ?k32 ?a33 ?i33 ?l33 ?c33 ?k33 ?a34 ?l34 ?c34 ?k34 ?a35 ?l35 ?c35 ?k35 ?a36 ?l36 ?c36 ?k36 ?a37 ?l37 ?c37 ?k37 ?a38 ?l38 ?c38 ?k38 ?w_height_stairs ?w_rest_stairs ?z_ValueError ?z_all ?z_bool ?z_int ?z_isinstance ?z_len ?z_max ?z_min ?z_range ?z_sorted ?z_sum ?z_tuple ?z_zip ?q_COUNTS_BELOW ?xA0 ?xL0 ?xA1 ?xL1 ?xA2 ?xL2 ?xA3 ?xL3 ?xA4 ?xL4 ?xA5 ?xL5 ?xA6 ?xL6 ?xA7 ?xL7 ?xA8 ?xL8 ?xA9 ?xL9 ?xA10 ?xL10 ?xA11 ?xL11 ?xA12 ?xL12 ?xA13 ?xL13 ?xA14 ?xL14 ?xA15 ?xL15 ?xA16 ?xL16 ?xNe ?xHn ?xHt ?yK1 ?yE1 ?yG1 ?yT1 ?yC1 ?yK3 ?yE3 ?yG3 ?yT3 ?yC3 ?yK15 ?yE15 ?yG15 ?yT15 ?yC15
    (case oA_Walker => k_is)
    (case oP_Walker => k_is)
    (case oH_Walker => k_is)
    (case oO_Walker => k_is)
    (case oS_Walker => k_is)
    (case oM_Walker => k_is)
    (case oK_Walker => k_is)
    (case oN_Walker_stair => k_is)
    (case oN_Walker_at => k_is)
    (case oN_Walker_former => k_is)
    (case a0 => k_is)
    (case l0 => k_is)
    (case c0 => k_is)
    (case k0 => k_is)
    (case a1 => k_is)
    (case l1 => k_is)
    (case c1 => k_is)
    (case k1 => k_is)
    (case a2 => k_is)
    (case l2 => k_is)
    (case c2 => k_is)
    (case k2 => k_is)
    (case a3 => k_is)
    (case l3 => k_is)
    (case c3 => k_is)
    (case k3 => k_is)
    (case a4 => k_is)
    (case l4 => k_is)
    (case c4 => k_is)
    (case k4 => k_is)
    (case a5 => k_is)
    (case l5 => k_is)
    (case c5 => k_is)
    (case k5 => k_is)
    (case a6 => k_is)
    (case i6 => k_is)
    (case l6 => k_is)
    (case c6 => k_is)
    (case k6 => k_is)
    (case a7 => k_is)
    (case l7 => k_is)
    (case c7 => k_is)
    (case k7 => k_is)
    (case a8 => k_is)
    (case l8 => k_is)
    (case c8 => k_is)
    (case k8 => k_is)
    (case a9 => k_is)
    (case l9 => k_is)
    (case c9 => k_is)
    (case k9 => k_is)
    (case a10 => k_is)
    (case l10 => k_is)
    (case c10 => k_is)
    (case k10 => k_is)
    (case a11 => k_is)
    (case l11 => k_is)
    (case c11 => k_is)
    (case k11 => k_is)
    (case a12 => k_is)
    (case i12 => k_is)
    (case l12 => k_is)
    (case c12 => k_is)
    (case k12 => k_is)
    (case a13 => k_is)
    (case i13 => k_is)
    (case l13 => k_is)
    (case c13 => k_is)
    (case k13 => k_is)
    (case a14 => k_is)
    (case l14 => k_is)
    (case c14 => k_is)
    (case k14 => k_is)
    (case a15 => k_is)
    (case l15 => k_is)
    (case c15 => k_is)
    (case k15 => k_is)
    (case a16 => k_is)
    (case l16 => k_is)
    (case c16 => k_is)
    (case k16 => k_is)
    (case a17 => k_is)
    (case l17 => k_is)
    (case c17 => k_is)
    (case k17 => k_is)
    (case a18 => k_is)
    (case l18 => k_is)
    (case c18 => k_is)
    (case k18 => k_is)
    (case a19 => k_is)
    (case i19 => k_is)
    (case l19 => k_is)
    (case c19 => k_is)
    (case k19 => k_is)
    (case a20 => k_is)
    (case i20 => k_is)
    (case l20 => k_is)
    (case c20 => k_is)
    (case k20 => k_is)
    (case a21 => k_is)
    (case l21 => k_is)
    (case c21 => k_is)
    (case k21 => k_is)
    (case a22 => k_is)
    (case l22 => k_is)
    (case c22 => k_is)
    (case k22 => k_is)
    (case a23 => k_is)
    (case l23 => k_is)
    (case c23 => k_is)
    (case k23 => k_is)
    (case a24 => k_is)
    (case l24 => k_is)
    (case c24 => k_is)
    (case k24 => k_is)
    (case a25 => k_is)
    (case l25 => k_is)
    (case c25 => k_is)
    (case k25 => k_is)
    (case a26 => k_is)
    (case l26 => k_is)
    (case c26 => k_is)
    (case k26 => k_is)
    (case a27 => k_is)
    (case i27 => k_is)
    (case l27 => k_is)
    (case c27 => k_is)
    (case k27 => k_is)
    (case a28 => k_is)
    (case i28 => k_is)
    (case l28 => k_is)
    (case c28 => k_is)
    (case k28 => k_is)
    (case a29 => k_is)
    (case l29 => k_is)
    (case c29 => k_is)
    (case k29 => k_is)
    (case a30 => k_is)
    (case i30 => k_is)
    (case l30 => k_is)
    (case c30 => k_is)
    (case k30 => k_is)
    (case a31 => k_is)
    (case l31 => k_is)
    (case c31 => k_is)
    (case k31 => k_is)
    (case a32 => k_is)
    (case i32 => k_is)
    (case l32 => k_is)
    (case c32 => k_is)
    (case k32 => k_is)
    (case a33 => k_is)
    (case i33 => k_is)
    (case l33 => k_is)
    (case c33 => k_is)
    (case k33 => k_is)
    (case a34 => k_is)
    (case l34 => k_is)
    (case c34 => k_is)
    (case k34 => k_is)
    (case a35 => k_is)
    (case l35 => k_is)
    (case c35 => k_is)
    (case k35 => k_is)
    (case a36 => k_is)
    (case l36 => k_is)
    (case c36 => k_is)
    (case k36 => k_is)
    (case a37 => k_is)
    (case l37 => k_is)
    (case c37 => k_is)
    (case k37 => k_is)
    (case a38 => k_is)
    (case l38 => k_is)
    (case c38 => k_is)
    (case k38 => k_is)
    (case w_height_stairs => k_is)
    (case w_rest_stairs => k_is)
    (case z_ValueError => k_is)
    (case z_all => k_is)
    (case z_bool => k_is)
    (case z_int => k_is)
    (case z_isinstance => k_is)
    (case z_len => k_is)
    (case z_max => k_is)
    (case z_min => k_is)
    (case z_range => k_is)
    (case z_sorted => k_is)
    (case z_sum => k_is)
    (case z_tuple => k_is)
    (case z_zip => k_is)
    (case q_COUNTS_BELOW => k_is)
    (case xA0 => k_is)
    (case xL0 => k_is)
    (case xA1 => k_is)
    (case xL1 => k_is)
    (case xA2 => k_is)
    (case xL2 => k_is)
    (case xA3 => k_is)
    (case xL3 => k_is)
    (case xA4 => k_is)
    (case xL4 => k_is)
    (case xA5 => k_is)
    (case xL5 => k_is)
    (case xA6 => k_is)
    (case xL6 => k_is)
    (case xA7 => k_is)
    (case xL7 => k_is)
    (case xA8 => k_is)
    (case xL8 => k_is)
    (case xA9 => k_is)
    (case xL9 => k_is)
    (case xA10 => k_is)
    (case xL10 => k_is)
    (case xA11 => k_is)
    (case xL11 => k_is)
    (case xA12 => k_is)
    (case xL12 => k_is)
    (case xA13 => k_is)
    (case xL13 => k_is)
    (case xA14 => k_is)
    (case xL14 => k_is)
    (case xA15 => k_is)
    (case xL15 => k_is)
    (case xA16 => k_is)
    (case xL16 => k_is)
    (case xNe => decide)
    (case xHn => k_is)
    (case xHt => k_is)
    (case yK1 => k_is)
    (case yE1 => k_exc)
    (case yG1 => k_is)
    (case yT1 => k_is)
    (case yC1 => k_is)
    (case yK3 => k_is)
    (case yE3 => k_exc)
    (case yG3 => k_is)
    (case yT3 => k_is)
    (case yC3 => k_is)
    (case yK15 => k_is)
    (case yE15 => k_exc)
    (case yG15 => k_is)
    (case yT15 => k_is)
    (case yC15 => k_is)

