import PyProof.Rows.All
import Wide.All
import OpenK.AllK
import Wide.FinOn
import HandS.ForMost
import HandS.Codes
import HandS.Walk
import HandS.Exc
import HandS.TryOnly
import HandS.ExcOwn
import HandS.WordsExc
import HandS.Wide
import HandS.WideMore
import HandS.Flow
import HandS.IsInst
import HandS.Style
import HandS.SortInts
import HandS.TupAny
import HandS.Flt
import HandS.Zip
import HandS.More
import PyProof.Rows.SortShellAny
import PyProof.LongRange
import KE.SortData
import PySem.Challenge.RW_stairsum_k35_whole_points_moved
set_option Elab.async false
set_option linter.all false
set_option maxRecDepth 100000
set_option maxHeartbeats 4000000
set_option Elab.async false
set_option linter.all false
set_option maxRecDepth 100000
set_option maxHeartbeats 4000000
/-! The prelude: heaps, readings step by step, sizes, defs of the top by name. -/
namespace Sd
open PySem PySem.Spec PyProof.Rows L2

/-! ### heaps -/
def Ex (H H' : Hp) : Prop := ∀ a o, H a = some o → H' a = some o
/-- all but what stands at d is kept -/
def Kp (d : Addr) (H H' : Hp) : Prop := ∀ a o, a ≠ d → H a = some o → H' a = some o
theorem Ex.at {H H' : Hp} {a : Addr} {o : HO} (e : Ex H H') (h : H a = some o) : H' a = some o := e a o h
theorem Ex.refl {H : Hp} : Ex H H := fun _ _ h => h
theorem Ex.trans {H H1 H2 : Hp} (a : Ex H H1) (b : Ex H1 H2) : Ex H H2 := fun x o h => b x o (a x o h)
theorem Ex.kp {H H' : Hp} {d : Addr} (e : Ex H H') : Kp d H H' := fun a o _ h => e a o h
theorem Kp.refl {H : Hp} {d : Addr} : Kp d H H := fun _ _ _ h => h
theorem Kp.trans {H H1 H2 : Hp} {d : Addr} (a : Kp d H H1) (b : Kp d H1 H2) : Kp d H H2 := fun x o n h => b x o n (a x o n h)
theorem Ex.kpd {H H1 H2 : Hp} {d : Addr} (e : Ex H H1) (n : H d = none) (b : Kp d H1 H2) : Ex H H2 := fun x o h => b x o (ne_of_none h n) (e x o h)
theorem Ex.new {H : Hp} {p : Addr} {o : HO} (h : H p = none) : Ex H (upd H p o) := fun a u e => by
  rw [upd_ne (ne_of_none e h)]
  exact e
theorem Kp.upd {H : Hp} {d : Addr} {o : HO} : Kp d H (upd H d o) := fun a u n e => by
  rw [upd_ne n]
  exact e
theorem free_back {H H' : Hp} {p : Addr} (e : Ex H H') (h : H' p = none) : H p = none := by
  cases h1 : H p with
  | none => rfl
  | some o =>
    rw [e p o h1] at h
    cases h
theorem rd_up {H H' : Hp} {a : Addr} {u : HO} (e : Ex H H') (h : Rd H a u) : Rd H' a u := by
  rcases h with h | ⟨o, h⟩
  · exact Or.inl (e a _ h)
  · exact Or.inr ⟨o, e a _ h⟩
theorem sql_up {K : PySem.W.Frag} {H H' : Hp} {a : Addr} {xs : List V} (e : Ex H H') (h : SqL K H a xs) : SqL K H' a xs := by
  rcases h with h | h
  · exact Or.inl (rd_up e h)
  · exact Or.inr h
theorem sqt_up {K : PySem.W.Frag} {H H' : Hp} {a : Addr} {xs : List V} (e : Ex H H') (h : SqT K H a xs) : SqT K H' a xs := by
  rcases h with h | h
  · exact Or.inl (rd_up e h)
  · exact Or.inr h
/-- the list of drawn digits at d -/
def Dr (H : Hp) (d : Addr) : Prop := ∃ x y : Int, H d = some (.lst [.int x, .int y]) ∧ 0 ≤ y ∧ y < 2147483647
theorem Dr.up {H H' : Hp} {d : Addr} (D : Dr H d) (e : Ex H H') : Dr H' d := by
  obtain ⟨x, y, h, r⟩ := D
  exact ⟨x, y, e _ _ h, r⟩
theorem Kp.tup {H H' : Hp} {d p : Addr} {xs : List V} (k : Kp d H H') (D : Dr H d) (h : H p = some (.tup xs)) : H' p = some (.tup xs) := by
  obtain ⟨x, y, e, _⟩ := D
  exact k _ _ (ne_of h e (by intro z; cases z)) h
theorem Kp.frz {H H' : Hp} {d p : Addr} {o : Obj} {u : HO} (k : Kp d H H') (D : Dr H d) (h : H p = some (.frz o u)) : H' p = some (.frz o u) := by
  obtain ⟨x, y, e, _⟩ := D
  exact k _ _ (ne_of h e (by intro z; cases z)) h
theorem Dr.free {H : Hp} {d p : Addr} (D : Dr H d) (h : H p = none) : p ≠ d := fun e => by
  obtain ⟨x, y, k, _⟩ := D
  rw [e, k] at h
  cases h
theorem free_kp {H H' : Hp} {d p : Addr} (e : Kp d H H') (D' : Dr H' d) (h : H' p = none) : H p = none := by
  cases q : H p with
  | none => rfl
  | some o =>
    rw [e p o (D'.free h) q] at h
    cases h
theorem sqt_kp {K : PySem.W.Frag} {H H' : Hp} {d a : Addr} {xs : List V} (e : Kp d H H') (D : Dr H d) (h : SqT K H a xs) : SqT K H' a xs := by
  rcases h with (h | ⟨o, h⟩) | h
  · exact Or.inl (Or.inl (e.tup D h))
  · exact Or.inl (Or.inr ⟨o, e.frz D h⟩)
  · exact Or.inr h

/-! ### sizes -/
def Sz (n : Nat) (x : Int) : Prop := x.natAbs < 2 ^ n
theorem Sz.mono {n m : Nat} {x : Int} (h : Sz n x) (l : n ≤ m) : Sz m x := Nat.lt_of_lt_of_le h (Nat.pow_le_pow_right (by decide) l)
theorem Sz.mul {n m : Nat} {x y : Int} (h : Sz n x) (k : Sz m y) : Sz (n + m) (x * y) := wide_lt h k
theorem Sz.add {n m : Nat} {x y : Int} (h : Sz n x) (k : Sz m y) : Sz (n + m + 1) (x + y) := by
  have h' : x.natAbs < 2 ^ n := h
  have k' : y.natAbs < 2 ^ m := k
  have a : 2 ^ n ≤ 2 ^ (n + m) := Nat.pow_le_pow_right (by decide) (Nat.le_add_right _ _)
  have b : 2 ^ m ≤ 2 ^ (n + m) := Nat.pow_le_pow_right (by decide) (Nat.le_add_left _ _)
  show (x + y).natAbs < 2 ^ (n + m + 1)
  rw [Nat.pow_succ]
  omega
theorem Sz.neg {n : Nat} {x : Int} (h : Sz n x) : Sz n (-x) := by
  show (-x).natAbs < 2 ^ n
  rw [Int.natAbs_neg]
  exact h
theorem Sz.sub {n m : Nat} {x y : Int} (h : Sz n x) (k : Sz m y) : Sz (n + m + 1) (x - y) := by
  have := h.add k.neg
  rw [Int.sub_eq_add_neg]
  exact this
theorem Sz.div {n : Nat} {x y : Int} (h : Sz n x) (p : 0 < y) : Sz n (x / y) := by
  have h' : x.natAbs < 2 ^ n := h
  show (x / y).natAbs < 2 ^ n
  have l : (x / y).natAbs ≤ x.natAbs := by
    have e := Int.emod_add_mul_ediv x y
    have e1 := Int.emod_nonneg x (show y ≠ 0 by omega)
    have e2 := Int.emod_lt_of_pos x p
    by_cases hx : 0 ≤ x
    · have q0 : 0 ≤ x / y := Int.ediv_nonneg hx (by omega)
      have q1 : x / y ≤ x := Int.ediv_le_self _ hx
      omega
    · have q0 : x / y < 0 := Int.ediv_neg_of_neg_of_pos (by omega) p
      have q1 : x ≤ x / y := by
        have : (x / y) * y ≤ (x / y) * 1 := Int.mul_le_mul_of_nonpos_left (by omega) (by omega)
        have e' : x / y * y ≥ x - (y - 1) := by
          have : y * (x / y) = x / y * y := Int.mul_comm _ _
          omega
        by_cases hq : x / y = -1
        · omega
        · have q2 : x / y + 1 ≤ -1 := by omega
          have q3 : (x / y + 1) * y ≤ (x / y + 1) * 1 := Int.mul_le_mul_of_nonpos_left (by omega) (by omega)
          have q4 : (x / y + 1) * y = x / y * y + y := by rw [Int.add_mul, Int.one_mul]
          have : y * (x / y) = x / y * y := Int.mul_comm _ _
          omega
      omega
  omega
theorem Sz.mod {n : Nat} {x y : Int} (h : Sz n y) (p : 0 < y) : Sz n (x % y) := by
  have e1 := Int.emod_nonneg x (show y ≠ 0 by omega)
  have e2 := Int.emod_lt_of_pos x p
  have h' : y.natAbs < 2 ^ n := h
  show (x % y).natAbs < 2 ^ n
  omega
theorem Sz.le {n : Nat} {x y : Int} (h : Sz n y) (a : -y ≤ x) (b : x ≤ y) : Sz n x := by
  have h' : y.natAbs < 2 ^ n := h
  show x.natAbs < 2 ^ n
  omega
theorem Sz.lit {x : Int} (h : x.natAbs < 2 ^ 200 := by decide) : Sz 200 x := h
theorem mulW {i j : Int} {n m : Nat} (a : Sz n i) (b : Sz m j) (h : n + m ≤ 900000 := by decide) : CMulW i j :=
  wide_mul (a.mono (Nat.le_succ n)) (b.mono (Nat.le_succ m)) (Nat.succ_pos _) (Nat.succ_pos _) (by omega)
theorem divW {i j : Int} {n : Nat} (p : 0 < j) (a : Sz n j) (h : n ≤ 8999 := by decide) : CDivW i j :=
  wide_div p (a.mono (Nat.le_succ n)) (Nat.succ_pos _) (by omega)

/-- a product of two numbers, one small or both of a known size -/
def CMulX (i j : Int) : Prop := CMul i j ∨ CMulW i j
theorem op_mulX {X : Cx} : OpR X (binaryOp .Mult) (rI CMulX fun i j => .int (i * j)) := opI fun _ _ _ _ _ _ _ hc q => mul_int q (hc.elim (fun h => h.ok) (fun h => h.ok))
theorem mulX {i j : Int} {n m : Nat} (a : Sz n i) (b : Sz m j) (h : n + m ≤ 900000 := by decide) : CMulX i j := .inr (mulW a b h)
theorem mulR {i j : Int} (h : -(2 ^ 64) < j ∧ j < 2 ^ 64) : CMulX i j := .inl (.inr h)
theorem mulL {i j : Int} (h : -(2 ^ 64) < i ∧ i < 2 ^ 64) : CMulX i j := .inl (.inl h)
/-! ### defs of the top, by their names -/
/-- the def named x stands as st -/
def DefAt (K : PySem.W.Frag) (mg : Str → Option Value) (x : Str) (st : Stmt) (ps : List Str) : Prop :=
  ∃ f fd, Fun K x x st f fd ∧ mg x = some (.ref f) ∧ Binds K fd ps []
/-- the def named x keeps the promise sp -/
def Has (P : Program) (w : World) (K : PySem.W.Frag) (mg : Str → Option Value) (base : Heap) (CX : CXT) (k : Nat) (x : Str) (ps : List Str) (sp : Sp) : Prop :=
  ∃ f fd, mg x = some (.ref f) ∧ PySem.W.keepIn K (.ref f) = true ∧ Binds K fd ps [] ∧ FnOk P w K mg base CX k f fd ps sp
theorem def_mk {K : PySem.W.Frag} {h : Heap} {mg : Str → Option Value} {x : Str} {st : Stmt} {ps : List Str} {f : Addr} {oc : Value} {od an : Option Addr} {osl : Array (Option Value)} {kV doc pm cdv ct : Value} (X : K.In h) (G : h.Ns mainGlobals mg)
    (a : PySem.W.nsIn K mainGlobals x = some (some (.ref f))) (l : K.lookup f = some ⟨oc, od, .func (PySem.W.fnOf x x (defArgs st) (defBody st) (defScope st) .none kV doc pm an cdv ct), osl⟩)
    (c : PySem.W.codeIn K cdv x = true) (k : PySem.W.keepIn K (.ref f) = true)
    (b : ∀ (kV doc pm : Value) (an : Option Addr) (cdv ct : Value) (us : List Value), us.length = ps.length → bindArgs (PySem.W.fnOf x x (defArgs st) (defBody st) (defScope st) .none kV doc pm an cdv ct) ⟨us, []⟩ = pure (ps.zip us)) : DefAt K mg x st ps :=
  ⟨f, _, fun_mk l c k, PySem.W.mg_of X G a, (fun_mk l c k).binds b⟩
section
variable {P : Program} {w : World} {K : PySem.W.Frag} {mg : Str → Option Value} {base : Heap}
theorem DefAt.ok {x : Str} {st : Stmt} {N ps : List Str} {k : Nat} {sp : Sp} (D : DefAt K mg x st ps) (S : FnScope N ps (defScope st)) (len : ∀ vs H Q E, sp vs H Q E → vs.length = ps.length)
    (hbody : ∀ (f : Addr) (cdv : Value) (A : Around) (outer : List Env) (s : Shared) (H : Hp) (vs : List V) (Q : VK) (E : XK), Room k (A.deeper (envOfC x (defScope st) s.heap.objs.size f cdv)) → sp vs H Q E →
      ∃ t, PSs (cxOf CX0 P w K mg base N x (defScope st) f cdv A outer s H E).nox (defBody st) t ∧ t { nx := fun _ H' => Q .non H', rt := Q } (start N vs) H) : Has P w K mg base CX0 (k + 1) x ps sp := by
  obtain ⟨f, fd, F, m, b⟩ := D
  exact ⟨f, fd, m, F.kp, b, F.ok S len fun cdv A outer s H vs Q E hr h => hbody f cdv A outer s H vs Q E hr h⟩
theorem Has.mono {CX : CXT} {x : Str} {ps : List Str} {j k : Nat} {sp : Sp} (G : Has P w K mg base CX j x ps sp) (h : j ≤ k) : Has P w K mg base CX k x ps sp := by
  obtain ⟨f, fd, m, kp, b, F⟩ := G
  exact ⟨f, fd, m, kp, b, F.mono h⟩
end
theorem Has.alias {P : Program} {w : World} {K : PySem.W.Frag} {mg : Str → Option Value} {base : Heap} {CX : CXT} {x y : Str} {ps : List Str} {k : Nat} {sp : Sp} (G : Has P w K mg base CX k x ps sp) (e : mg y = mg x) : Has P w K mg base CX k y ps sp := by
  obtain ⟨f, fd, m, kp, b, F⟩ := G
  exact ⟨f, fd, e.trans m, kp, b, F⟩
/-- f(e, ..), f a def of the top; nothing is raised -/
def tCal (sp : Sp) (E : XK) (t : TA) : TE := fun σ H Q => t σ H fun vs H1 => sp vs H1 Q E
section
variable {X : Cx} {x : Str} {p pos : Pos} {e : Expr} {es : List Expr} {t : TA} {k : Nat} {ps : List Str} {sp : Sp}
theorem pcall (G : Has X.prog X.w X.K X.mg X.base CX0 k x ps sp) (hr : Room k X.A) (ha : PA X (e :: es) t) (hg : Gl X x := by rfl)
    (hdb : (x == ("__debug__" : Str)) = false := by decide) (he : starEach (e :: es) X.env = (false, eval e X.env) :: starEach es X.env := by rfl) (hpl : (backTo pos (starEach es X.env)).any (·.1) = false := by rfl) :
    PE X (.Call (.Name x p) (e :: es) [] pos) (tCal sp E0 t) := by
  obtain ⟨f, fd, m, kp, b, F⟩ := G
  have q := pe_call (p := p) F hr hg m kp b (dvs := []) .nil pass0 ha hdb he hpl
  refine ⟨fun pins s σ H Q I h => q.run pins s σ H Q I ?_⟩
  have h' : t σ H fun vs H1 => sp vs H1 Q E0 := h
  show t σ H fun vs H1 => sp (vs ++ []) H1 Q E0
  have ee : (fun (vs : List V) (H1 : Hp) => sp (vs ++ []) H1 Q E0) = fun vs H1 => sp vs H1 Q E0 := by
    funext vs H1
    rw [List.append_nil]
  rw [ee]
  exact h'
end

theorem cx_K {CX : CXT} {P : Program} {w : World} {K : PySem.W.Frag} {mg : Str → Option Value} {base : Heap} {N : List Str} {qual : Str} {scope : Scope} {f : Addr} {cd : Value} {A : Around} {outer : List Env} {s : Shared} {H : Hp} {E : XK} :
    (cxOf CX P w K mg base N qual scope f cd A outer s H E).K = K := rfl
/-- a statement, then the rest, with a word between them -/
def tCut (t u : TS) : TS := fun D σ H => ∃ M : L2.St → Hp → Prop, t { D with nx := M } σ H ∧ ∀ σ' H', M σ' H' → u D σ' H'
theorem pcut {X : Cx} {st : Stmt} {rest : List Stmt} {t u : TS} (h1 : PS X st t) (h2 : PSs X rest u) : PSs X (st :: rest) (tCut t u) := by
  refine ⟨fun pins s σ H D I h => ?_⟩
  obtain ⟨M, hm, hu⟩ := h
  refine wpAny_execs_cons (thn (h1.run pins s σ H { D with nx := M } I hm) fun f s1 q => ?_)
  cases f with
  | next =>
    obtain ⟨σ', H', I', q⟩ := q
    exact h2.run pins s1 σ' H' D I' (hu σ' H' q)
  | ret v => exact q
  | brk => exact q
  | cont => exact q
/-- a op b op c op d, a test -/
def tChain3 (r r' r'' : R2) (ta tb tc td : TE) : TT := fun σ H Q => ta σ H fun x H1 => tb σ H1 fun y H2 => r x y H2 fun z H3 => ∃ k, z = .bl k ∧
  (if k = true then tc σ H3 fun w' H4 => r' y w' H4 fun z2 H5 => ∃ k2, z2 = .bl k2 ∧ (if k2 = true then td σ H5 fun u' H6 => r'' w' u' H6 fun z3 H7 => ∃ k3, z3 = .bl k3 ∧ Q k3 H7 else Q false H5) else Q false H3)
theorem pt_chain3 {X : Cx} {a b c d : Expr} {ta tb tc td : TE} {pos : Pos} {op op' op'' : CmpOp} {r r' r'' : R2} (ho : OpR X (compareOp op) r) (ho' : OpR X (compareOp op') r') (ho'' : OpR X (compareOp op'') r'') (ha : PE X a ta) (hb : PE X b tb) (hc : PE X c tc) (hd : PE X d td)
    (hm : lastMarks [op, op', op''] [b, c, d] = false := by with_unfolding_all rfl) : PT X (.Compare a [op, op', op''] [b, c, d] pos) (tChain3 r r' r'' ta tb tc td) := by
  refine ⟨fun pins s σ H Q I h => ?_⟩
  refine isTrue_chain (thn (ha.run pins s σ H _ I h) fun v s1 ⟨x, H1, I1, r1, q1⟩ => test_link (thn (hb.run pins s1 σ H1 _ I1 q1) fun u s2 ⟨y, H2, I2, r2, q2⟩ =>
    thn (ho pins s2 σ H2 x y v u _ I2 r1 r2 q2) fun d s3 ⟨z, H3, I3, r3, k, e, q3⟩ => ?_)) hm
  subst e
  cases r3
  refine wpAny_truthy_bool ?_
  cases k with
  | false => exact ite_ff ⟨H3, I3, q3⟩
  | true =>
    refine ite_tt (test_link (thn (hc.run pins s3 σ H3 _ I3 q3) fun w' s4 ⟨z', H4, I4, r4, q4⟩ => thn (ho' pins s4 σ H4 y z' u w' _ I4 r2 r4 q4) fun d' s5 ⟨z2, H5, I5, r5, k2, e2, q5⟩ => ?_))
    subst e2
    cases r5
    refine wpAny_truthy_bool ?_
    cases k2 with
    | false => exact ite_ff ⟨H5, I5, q5⟩
    | true =>
      refine ite_tt (test_last (thn (hd.run pins s5 σ H5 _ I5 q5) fun w2 s6 ⟨z6, H6, I6, r6, q6⟩ => thn (ho'' pins s6 σ H6 z' z6 w' w2 _ I6 r4 r6 q6) fun d7 s7 ⟨z7, H7, I7, r7, k7, e7, q7⟩ => ?_))
      subst e7
      cases r7
      exact wpAny_truthy_bool ⟨H7, I7, q7⟩
/-! ### readings, step by step -/
section
variable {K : PySem.W.Frag} {σ : L2.St} {H : Hp} {Q : VK} {QT : Bool → Hp → Prop} {QA : List V → Hp → Prop} {ta tb tc te : TE} {t u : TT} {tr : TA} {v x y : V} {i j : Int} {D : Ends} {s1 s2 : TS}
theorem r_var {n : Nat} (h : σ[n]? = some (some v)) (k : Q v H) : tVar n σ H Q := ⟨v, h, k⟩
theorem r_c (k : Q v H) : tC v σ H Q := k
theorem r_op {r : R2} (k : ta σ H fun x H1 => tb σ H1 fun y H2 => r x y H2 Q) : tOp r ta tb σ H Q := k
theorem r_un {r : V → Hp → VK → Prop} (k : ta σ H fun x H1 => r x H1 Q) : tUn r ta σ H Q := k
theorem r_I0 {g : Int → Int → V} (k : Q (g i j) H) : rI0 g (.int i) (.int j) H Q := ⟨i, j, rfl, rfl, k⟩
theorem r_I {C : Int → Int → Prop} {g : Int → Int → V} (c : C i j) (k : Q (g i j) H) : rI C g (.int i) (.int j) H Q := ⟨i, j, rfl, rfl, c, k⟩
theorem r_mul (c : CMulX i j) (k : Q (.int (i * j)) H) : rI CMulX (fun i j => .int (i * j)) (.int i) (.int j) H Q := r_I c k
theorem r_div (c : CDivW i j) (k : Q (.int (i / j)) H) : rI CDivW (fun i j => .int (i / j)) (.int i) (.int j) H Q := r_I c k
theorem r_mod (c : 0 < j) (k : Q (.int (i % j)) H) : rI (fun _ j => 0 < j) (fun i j => .int (i % j)) (.int i) (.int j) H Q := ⟨i, j, rfl, rfl, c, k⟩
theorem r_pow (c : CPow i j) (k : Q (.int (i ^ j.toNat)) H) : rI CPow (fun i j => .int (i ^ j.toNat)) (.int i) (.int j) H Q := r_I c k
theorem r_p6 (k : Q (.int 1000000) H) : rI CPow (fun i j => .int (i ^ j.toNat)) (.int 10) (.int 6) H Q := r_I ⟨by decide, by decide, by decide⟩ (by rw [show (10 : Int) ^ Int.toNat 6 = 1000000 by decide +kernel]; exact k)
theorem r_p15 (k : Q (.int 1000000000000000) H) : rI CPow (fun i j => .int (i ^ j.toNat)) (.int 10) (.int 15) H Q := r_I ⟨by decide, by decide, by decide⟩ (by rw [show (10 : Int) ^ Int.toNat 15 = 1000000000000000 by decide +kernel]; exact k)
theorem r_p18 (k : Q (.int 1000000000000000000) H) : rI CPow (fun i j => .int (i ^ j.toNat)) (.int 10) (.int 18) H Q := r_I ⟨by decide, by decide, by decide⟩ (by rw [show (10 : Int) ^ Int.toNat 18 = 1000000000000000000 by decide +kernel]; exact k)
theorem r_p24 (k : Q (.int 1000000000000000000000000) H) : rI CPow (fun i j => .int (i ^ j.toNat)) (.int 10) (.int 24) H Q := r_I ⟨by decide, by decide, by decide⟩ (by rw [show (10 : Int) ^ Int.toNat 24 = 1000000000000000000000000 by decide +kernel]; exact k)
theorem r_p29 (k : Q (.int 100000000000000000000000000000) H) : rI CPow (fun i j => .int (i ^ j.toNat)) (.int 10) (.int 29) H Q := r_I ⟨by decide, by decide, by decide⟩ (by rw [show (10 : Int) ^ Int.toNat 29 = 100000000000000000000000000000 by decide +kernel]; exact k)
theorem r_p30 (k : Q (.int 1000000000000000000000000000000) H) : rI CPow (fun i j => .int (i ^ j.toNat)) (.int 10) (.int 30) H Q := r_I ⟨by decide, by decide, by decide⟩ (by rw [show (10 : Int) ^ Int.toNat 30 = 1000000000000000000000000000000 by decide +kernel]; exact k)
theorem r_p60 (k : Q (.int 1000000000000000000000000000000000000000000000000000000000000) H) : rI CPow (fun i j => .int (i ^ j.toNat)) (.int 10) (.int 60) H Q := r_I ⟨by decide, by decide, by decide⟩ (by rw [show (10 : Int) ^ Int.toNat 60 = 1000000000000000000000000000000000000000000000000000000000000 by decide +kernel]; exact k)
theorem r_U {g : Int → V} (k : Q (g i) H) : rU g (.int i) H Q := ⟨i, rfl, k⟩
theorem r_eqI (k : Q (.bl (decide (i = j))) H) : rEq (.int i) (.int j) H Q := ⟨rfl, by
  have e : decide (V.int i = V.int j) = decide (i = j) := by
    by_cases h : i = j
    · subst h
      rw [decide_eq_true rfl, decide_eq_true rfl]
    · rw [decide_eq_false h, decide_eq_false (fun z => h (V.int.inj z))]
  rw [e]
  exact k⟩
theorem r_neI (k : Q (.bl (!decide (i = j))) H) : rNe (.int i) (.int j) H Q := ⟨rfl, by
  have e : decide (V.int i = V.int j) = decide (i = j) := by
    by_cases h : i = j
    · subst h
      rw [decide_eq_true rfl, decide_eq_true rfl]
    · rw [decide_eq_false h, decide_eq_false (fun z => h (V.int.inj z))]
  rw [e]
  exact k⟩
theorem r_eqB {a b : Bool} (k : Q (.bl (a == b)) H) : rEq (.bl a) (.bl b) H Q := ⟨rfl, by rw [dec_bl]; exact k⟩
theorem r_neB {a b : Bool} (k : Q (.bl (!(a == b))) H) : rNe (.bl a) (.bl b) H Q := ⟨rfl, by rw [dec_bl]; exact k⟩
theorem r_eqS {a b : Str} (k : Q (.bl (a == b)) H) : rEq (.str a) (.str b) H Q := ⟨rfl, by rw [dec_str]; exact k⟩
theorem r_neS {a b : Str} (k : Q (.bl (!(a == b))) H) : rNe (.str a) (.str b) H Q := ⟨rfl, by rw [dec_str]; exact k⟩
theorem r_test (k : te σ H fun x H' => ∃ b, x = .bl b ∧ QT b H') : tTest te σ H QT := k
theorem r_tB (k : te σ H fun x H' => ∃ b, x = .bl b ∧ QT b H') : tB te σ H QT := k
theorem r_bl {b : Bool} (k : QT b H) : ∃ b', V.bl b = .bl b' ∧ QT b' H := ⟨b, rfl, k⟩
theorem r_not (k : t σ H fun b H1 => QT (!b) H1) : tNot t σ H QT := k
theorem r_and (k : t σ H fun b H1 => if b = true then u σ H1 QT else QT false H1) : tAnd t u σ H QT := k
theorem r_or (k : t σ H fun b H1 => if b = true then QT true H1 else u σ H1 QT) : tOr t u σ H QT := k
theorem r_notV (k : ta σ H fun x H1 => ∃ c, x = .bl c ∧ Q (.bl (!c)) H1) : tNotV ta σ H Q := k
theorem r_andV (k : ta σ H fun x H1 => ∃ c, x = .bl c ∧ if c = true then tb σ H1 Q else Q (.bl false) H1) : tAndV ta tb σ H Q := k
theorem r_orV (k : ta σ H fun x H1 => ∃ c, x = .bl c ∧ if c = true then Q (.bl true) H1 else tb σ H1 Q) : tOrV ta tb σ H Q := k
theorem r_blV {b : Bool} {R : Bool → Prop} (k : R b) : ∃ c, V.bl b = .bl c ∧ R c := ⟨b, rfl, k⟩
theorem r_chain {r r' : R2} (k : ta σ H fun x H1 => tb σ H1 fun y H2 => r x y H2 fun z H3 => ∃ k, z = .bl k ∧ (if k = true then tc σ H3 fun w' H4 => r' y w' H4 Q else Q (.bl false) H3)) : tChain r r' ta tb tc σ H Q := k
theorem r_chain3 {r r' r'' : R2} {td : TE} (k : ta σ H fun x H1 => tb σ H1 fun y H2 => r x y H2 fun z H3 => ∃ k, z = .bl k ∧ (if k = true then tc σ H3 fun w' H4 => r' y w' H4 fun z2 H5 => ∃ k2, z2 = .bl k2 ∧ (if k2 = true then td σ H5 fun u' H6 => r'' w' u' H6 fun z3 H7 => ∃ k3, z3 = .bl k3 ∧ QT k3 H7 else QT false H5) else QT false H3)) : tChain3 r r' r'' ta tb tc td σ H QT := k
theorem r_if (k : t σ H fun c H1 => if c = true then ta σ H1 Q else tb σ H1 Q) : tIf t ta tb σ H Q := k
theorem r_cons (k : ta σ H fun x H1 => tr σ H1 fun xs H2 => QA (x :: xs) H2) : tCons ta tr σ H QA := k
theorem r_nil (k : QA [] H) : tNil σ H QA := k
theorem r_cal {sp : Sp} {E : XK} (k : tr σ H fun vs H1 => sp vs H1 Q E) : tCal sp E tr σ H Q := k
/-- a new tuple, a new list -/
def NewT (xs : List V) (H : Hp) (Q : VK) : Prop := xs.length ≤ sizeLine ∧ ∀ p, H p = none → Q (.ref p) (upd H p (.tup xs))
def NewL (xs : List V) (H : Hp) (Q : VK) : Prop := xs.length ≤ sizeLine ∧ ∀ p, H p = none → Q (.ref p) (upd H p (.lst xs))
theorem r_tup (k : tr σ H fun xs H1 => NewT xs H1 Q) : tTup tr σ H Q := k
theorem r_lst (k : tr σ H fun xs H1 => NewL xs H1 Q) : tLst tr σ H Q := k
theorem sz_of {n : Nat} (h : n ≤ 100000) : n ≤ sizeLine := Nat.le_trans h (by decide)
theorem r_newT {xs : List V} (h : xs.length ≤ 100000) (k : ∀ p H1, H p = none → Ex H H1 → H1 p = some (.tup xs) → Q (.ref p) H1) : NewT xs H Q := ⟨sz_of h, fun p hp => k p _ hp (Ex.new hp) upd_same⟩
theorem r_newL {xs : List V} (h : xs.length ≤ 100000) (k : ∀ p H1, H p = none → Ex H H1 → H1 p = some (.lst xs) → Q (.ref p) H1) : NewL xs H Q := ⟨sz_of h, fun p hp => k p _ hp (Ex.new hp) upd_same⟩
theorem r_ixT {p : Addr} {xs : List V} (h : SqT K H p xs) (a : atI xs i = some v) (k : Q v H) : rIxT K (.ref p) (.int i) H Q := ⟨p, xs, i, v, rfl, rfl, h, a, k⟩
theorem r_ixL {p : Addr} {xs : List V} (h : SqL K H p xs) (a : atI xs i = some v) (k : Q v H) : rIxL K (.ref p) (.int i) H Q := ⟨p, xs, i, v, rfl, rfl, h, a, k⟩
/-! statements -/
theorem r_seq (k : s1 { D with nx := s2 D } σ H) : tSeq s1 s2 D σ H := k
theorem r_asg {n : Nat} (k : te σ H fun x H1 => D.nx (σ.set n (some x)) H1) : tAsg te (gName n) D σ H := k
theorem r_asgG {g : TG} (k : te σ H fun x H1 => g x σ H1 D.nx) : tAsg te g D σ H := k
theorem r_drop (k : te σ H fun _ H1 => D.nx σ H1) : tDrop te D σ H := k
theorem r_ret (k : te σ H D.rt) : tRet te D σ H := k
theorem r_retN (k : D.rt .non H) : tRetN D σ H := k
theorem r_ifS (k : t σ H fun b H1 => if b = true then s1 D σ H1 else s2 D σ H1) : tIfS t s1 s2 D σ H := k
theorem r_next (k : D.nx σ H) : tNext D σ H := k
theorem r_gTup {p : Addr} {xs : List V} {n : Nat} {g : TGs} {QS : L2.St → Hp → Prop} (h : SqT K H p xs) (l : xs.length = n) (k : g xs σ H QS) : gTup K n g (.ref p) σ H QS := ⟨p, xs, rfl, h, l, k⟩
theorem r_gCons {g : TG} {gs : TGs} {xs : List V} {QS : L2.St → Hp → Prop} (k : g x σ H fun σ' H' => gs xs σ' H' QS) : gCons g gs (x :: xs) σ H QS := ⟨x, xs, rfl, k⟩
theorem r_gNil {QS : L2.St → Hp → Prop} (k : QS σ H) : gNil [] σ H QS := ⟨rfl, k⟩
theorem r_gName {n : Nat} {QS : L2.St → Hp → Prop} (k : QS (σ.set n (some x)) H) : gName n x σ H QS := k
theorem r_par {n m : Nat} (k : tr σ H fun vs H1 => ∃ v w, vs = [v, w] ∧ D.nx ((σ.set n (some v)).set m (some w)) H1) : tPar n m tr D σ H := k
theorem r_parE {R : V → V → Prop} (k : R x y) : ∃ v w, [x, y] = [v, w] ∧ R v w := ⟨x, y, rfl, k⟩
theorem r_par3 {n m l : Nat} (k : tr σ H fun vs H1 => ∃ u v w, vs = [u, v, w] ∧ D.nx (((σ.set n (some u)).set m (some v)).set l (some w)) H1) : tPar3 n m l tr D σ H := k
theorem r_parE3 {z : V} {R : V → V → V → Prop} (k : R x y z) : ∃ u v w, [x, y, z] = [u, v, w] ∧ R u v w := ⟨x, y, z, rfl, k⟩
theorem r_aug {n : Nat} {f : Int → Int → Int} (h : σ[n]? = some (some (.int i))) (k : te σ H fun y H1 => ipI f (.int i) y H1 fun z H2 => D.nx (σ.set n (some z)) H2) : tAug n te (ipI f) D σ H := ⟨.int i, h, k⟩
theorem r_ipI {f : Int → Int → Int} (k : Q (.int (f i j)) H) : ipI f (.int i) (.int j) H Q := ⟨i, j, rfl, rfl, k⟩
theorem r_cut {t u : TS} (M : L2.St → Hp → Prop) (h : t { D with nx := M } σ H) (k : ∀ σ' H', M σ' H' → u D σ' H') : tCut t u D σ H := ⟨M, h, k⟩
/-! tests decided -/
theorem r_nx {f : L2.St → Hp → Prop} {g : VK} {b c : L2.St → Hp → Prop} (k : f σ H) : Ends.nx ⟨f, g, b, c⟩ σ H := k
theorem r_nxS {f : L2.St → Hp → Prop} {g : VK} {b c : L2.St → Hp → Prop} {n : Nat} {z : Option V} {l' : L2.St} (h : σ.set n z = l') (k : f l' H) : Ends.nx ⟨f, g, b, c⟩ (σ.set n z) H := by rw [h]; exact k
theorem set_z {x v : Option V} {l : L2.St} : List.set (x :: l) 0 v = v :: l := rfl
theorem set_s {x v : Option V} {n : Nat} {l l' : L2.St} (h : l.set n v = l') : List.set (x :: l) (n + 1) v = x :: l' := by rw [← h]; rfl
theorem set_in {v : Option V} {n : Nat} {e e' l' : L2.St} (h1 : e = e') (h2 : e'.set n v = l') : e.set n v = l' := by rw [h1]; exact h2
theorem r_rt {f : L2.St → Hp → Prop} {g : VK} {b c : L2.St → Hp → Prop} (k : g v H) : Ends.rt ⟨f, g, b, c⟩ v H := k
theorem not_t {b : Bool} (h : b = false) : (!b) = true := by rw [h]; rfl
theorem not_f {b : Bool} (h : b = true) : (!b) = false := by rw [h]; rfl
theorem if_T {b : Bool} {A B : Prop} (h : b = true) (k : A) : if b = true then A else B := by rw [if_pos h]; exact k
theorem if_F {b : Bool} {A B : Prop} (h : b = false) (k : B) : if b = true then A else B := by
  rw [h, if_neg Bool.false_ne_true]
  exact k
theorem if_2 {b : Bool} {A B : Prop} (h1 : b = true → A) (h2 : b = false → B) : if b = true then A else B := by
  cases b with
  | true => exact if_T rfl (h1 rfl)
  | false => exact if_F rfl (h2 rfl)
/-- what is set into the tuple of the draws -/
theorem r_setL {o : Addr} {xs : List V} {k0 : Nat} {z : V} {Qh : Hp → Prop} (h : H o = some (.lst xs)) (hi : ixN xs.length i = some k0) (k : Qh (upd H o (.lst (xs.set k0 z)))) : rSetL (.ref o) (.int i) z H Qh := ⟨o, xs, i, k0, rfl, rfl, h, hi, k⟩
theorem r_gSub {to ti : TE} {ts : TSet} {QS : L2.St → Hp → Prop} (k : to σ H fun o H1 => ti σ H1 fun i H2 => ts o i v H2 fun H3 => QS σ H3) : gSub to ti ts v σ H QS := k
end

/-! calls of built-ins, walks -/
def rLen (K : PySem.W.Frag) : List V → Hp → VK → Prop := fun xs H Q => ∃ p ys, xs = [.ref p] ∧ (SqL K H p ys ∨ SqT K H p ys) ∧ Q (.int ys.length) H
theorem cl_len {X : Cx} : CallR X (.builtin "len") (rLen X.K) := call_len_seq
def rLenStr : List V → Hp → VK → Prop := fun xs H Q => ∃ z, xs = [.str z] ∧ z.length ≤ sizeLine ∧ Q (.int z.length) H
theorem cl_lenS {X : Cx} : CallR X (.builtin "len") rLenStr := call_len_str
def rAbs : List V → Hp → VK → Prop := fun xs H Q => ∃ i, xs = [.int i] ∧ Q (.int (if i < 0 then -i else i)) H
theorem cl_abs {X : Cx} : CallR X (.builtin "abs") rAbs := call_abs
def rMax2 : List V → Hp → VK → Prop := fun xs H Q => ∃ i j, xs = [.int i, .int j] ∧ Q (.int (if j > i then j else i)) H
def rMin2 : List V → Hp → VK → Prop := fun xs H Q => ∃ i j, xs = [.int i, .int j] ∧ Q (.int (if j < i then j else i)) H
theorem cl_max2 {X : Cx} (hc : X.calm = true) : CallR X (.builtin "max") rMax2 := call_max2 hc
theorem cl_min2 {X : Cx} (hc : X.calm = true) : CallR X (.builtin "min") rMin2 := call_min2 hc
def rMin3 : List V → Hp → VK → Prop := fun xs H Q => ∃ i j k, xs = [.int i, .int j, .int k] ∧ Q (.int (min (min i j) k)) H
theorem nu_min3 (i j k : Int) : nuMin3 (.int i) (.int j) (.int k) = some (.int (min (min i j) k)) := by
  have h1 : (if decide (j < i) = true then V.int j else V.int i) = V.int (min i j) := by
    by_cases h : j < i
    · rw [decide_eq_true h, if_pos rfl, show min i j = j by omega]
    · rw [decide_eq_false h, if_neg (by decide), show min i j = i by omega]
  have h2 : (if decide (k < min i j) = true then V.int k else V.int (min i j)) = V.int (min (min i j) k) := by
    by_cases h : k < min i j
    · rw [decide_eq_true h, if_pos rfl, show min (min i j) k = k by omega]
    · rw [decide_eq_false h, if_neg (by decide), show min (min i j) k = min i j by omega]
  rw [← h2, ← h1]
  unfold nuMin3
  show (some (if decide (j < i) = true then V.int j else V.int i)).bind _ = _
  rw [h1]
  rfl
theorem cl_min3 {X : Cx} (hc : X.calm = true) : CallR X (.builtin "min") rMin3 := fun pins s σ H xs us Q I r h => by
  obtain ⟨i, j, k, rfl, q⟩ := h
  exact call_min3Nu hc pins s σ H _ us Q I r ⟨_, _, _, _, rfl, nu_min3 i j k, q⟩
theorem r_min3 {H : Hp} {Q : VK} {i j k : Int} (q : Q (.int (min (min i j) k)) H) : rMin3 [.int i, .int j, .int k] H Q := ⟨i, j, k, rfl, q⟩
def rInt1 : List V → Hp → VK → Prop := fun xs H Q => (∃ i, xs = [.int i] ∧ Q (.int i) H) ∨ ∃ k, xs = [.bl k] ∧ Q (.int (if k then 1 else 0)) H
theorem cl_int1 {X : Cx} : CallR X (.type "int") rInt1 := call_int1
def rBool1 : List V → Hp → VK → Prop := fun xs H Q => (∃ i, xs = [.int i] ∧ Q (.bl (i != 0)) H) ∨ ∃ k, xs = [.bl k] ∧ Q (.bl k) H
theorem cl_bool1 {X : Cx} : CallR X (.type "bool") rBool1 := call_bool1
def rStrI : List V → Hp → VK → Prop := fun xs H Q => ∃ i, xs = [.int i] ∧ i.natAbs.log2 < 1920 ∧ Q (.str (toString i)) H
theorem cl_strI {X : Cx} : CallR X (.type "str") rStrI := call_str_int
section
variable {K : PySem.W.Frag} {σ : L2.St} {H : Hp} {Q : VK} {QT : Bool → Hp → Prop} {ta tb tc te : TE} {t u : TT} {tr : TA} {v x y : V} {i j : Int} {D : Ends} {s1 s2 : TS} {g : TG}
theorem r_CB {r : List V → Hp → VK → Prop} (k : tr σ H fun vs H1 => r vs H1 Q) : tCB r tr σ H Q := k
theorem r_lenL {p : Addr} {ys : List V} (h : SqL K H p ys) (k : Q (.int (ys.length : Nat)) H) : rLen K [.ref p] H Q := ⟨p, ys, rfl, .inl h, k⟩
theorem r_lenT {p : Addr} {ys : List V} (h : SqT K H p ys) (k : Q (.int (ys.length : Nat)) H) : rLen K [.ref p] H Q := ⟨p, ys, rfl, .inr h, k⟩
theorem r_lenS {z : Str} (h : z.length ≤ sizeLine) (k : Q (.int (z.length : Nat)) H) : rLenStr [.str z] H Q := ⟨z, rfl, h, k⟩
theorem r_abs (k : Q (.int (i.natAbs : Int)) H) : rAbs [.int i] H Q := ⟨i, rfl, by
  have e : (if i < 0 then -i else i) = (i.natAbs : Int) := by split <;> omega
  rw [e]
  exact k⟩
theorem r_max2 (k : Q (.int (max i j)) H) : rMax2 [.int i, .int j] H Q := ⟨i, j, rfl, by
  have e : (if j > i then j else i) = max i j := by split <;> omega
  rw [e]
  exact k⟩
theorem r_min2 (k : Q (.int (min i j)) H) : rMin2 [.int i, .int j] H Q := ⟨i, j, rfl, by
  have e : (if j < i then j else i) = min i j := by split <;> omega
  rw [e]
  exact k⟩
theorem r_intI (k : Q (.int i) H) : rInt1 [.int i] H Q := .inl ⟨i, rfl, k⟩
theorem r_intB {b : Bool} (k : Q (.int (if b = true then 1 else 0)) H) : rInt1 [.bl b] H Q := .inr ⟨b, rfl, k⟩
theorem r_isII (k : Q (.bl true) H) : rIsi K [.int i, .ty "int"] H Q := ⟨_, _, _, _, _, rfl, .ty _, .base (.int _), kit_ty (by decide +kernel), k⟩
theorem r_isIB (k : Q (.bl false) H) : rIsi K [.int i, .ty "bool"] H Q := ⟨_, _, _, _, _, rfl, .ty _, .base (.int _), kit_ty (by decide +kernel), k⟩
theorem r_isTT {p : Addr} {xs : List V} (h : H p = some (.tup xs)) (k : Q (.bl true) H) : rIsi K [.ref p, .ty "tuple"] H Q := ⟨_, _, _, _, _, rfl, .ty _, .base (.tup h), kit_ty (by decide +kernel), k⟩
theorem r_isLL {p : Addr} {xs : List V} (h : H p = some (.lst xs)) (k : Q (.bl true) H) : rIsi K [.ref p, .ty "list"] H Q := ⟨_, _, _, _, _, rfl, .ty _, .base (.lst h), kit_ty (by decide +kernel), k⟩
theorem r_isBB {b : Bool} (k : Q (.bl true) H) : rIsi K [.bl b, .ty "bool"] H Q := ⟨_, _, _, _, _, rfl, .ty _, .base (.bl _), kit_ty (by decide +kernel), k⟩
theorem r_isBI {b : Bool} (k : Q (.bl true) H) : rIsi K [.bl b, .ty "int"] H Q := ⟨_, _, _, _, _, rfl, .ty _, .base (.bl _), kit_ty (by decide +kernel), k⟩
theorem r_isSS {z : Str} (k : Q (.bl true) H) : rIsi K [.str z, .ty "str"] H Q := ⟨_, _, _, _, _, rfl, .ty _, .base (.str _), kit_ty (by decide +kernel), k⟩
theorem r_all {p : Addr} {bs : List Bool} (h : SqL K H p (bs.map V.bl)) (k : Q (.bl (bs.all id)) H) : rAll K [.ref p] H Q := ⟨p, bs, rfl, h, k⟩
theorem r_any {p : Addr} {bs : List Bool} (h : SqL K H p (bs.map V.bl)) (k : Q (.bl (bs.any id)) H) : rAny K [.ref p] H Q := ⟨p, bs, rfl, h, k⟩
/-- a loop over J -/
def ForB (J : It) (g : TG) (tb : TS) (D : Ends) (σ : L2.St) (H1 : Hp) : Prop := ∃ W : Nat → Nat → L2.St → Hp → Prop, (∃ m, W 0 m σ H1) ∧ ∀ i m σ H, W i m σ H →
  (J.stop i H ∧ D.nx σ H) ∨ (J.go i H ∧ ∃ Nx : L2.St → Hp → Prop, (∀ σ' H', Nx σ' H' → ∃ m', m' < m ∧ W (i + 1) m' σ' H') ∧ ∀ x H', J.yld i H x H' → g x σ H' fun σ2 H2 => tb { D with nx := Nx, ct := Nx, bk := D.nx } σ2 H2)
def Rng1 (vs : List V) (H : Hp) (R : It → Hp → Prop) : Prop := ∃ j : Int, vs = [.int j] ∧ -(2 ^ 62) ≤ j ∧ j < 2 ^ 62 ∧ R (Itr 0 j.toNat) H
def Rng2 (vs : List V) (H : Hp) (R : It → Hp → Prop) : Prop := ∃ i j : Int, vs = [.int i, .int j] ∧ R (Itr i (j - i).toNat) H
def iRngL (ta : TA) : TI := fun σ H R => ta σ H fun vs H1 => Rng2 vs H1 R
def ItL (K : PySem.W.Frag) (x : V) (H : Hp) (R : It → Hp → Prop) : Prop := ∃ a, x = .ref a ∧ (∃ xs, SqL K H a xs) ∧ R (Itl K a) H
def ItT (K : PySem.W.Frag) (x : V) (H : Hp) (R : It → Hp → Prop) : Prop := ∃ a, x = .ref a ∧ (∃ xs, SqT K H a xs) ∧ R (Itt K a) H
variable {R : It → Hp → Prop} {wi : TI}
theorem r_for (k : wi σ H fun J H1 => ForB J g s1 D σ H1) : tFor wi g s1 D σ H := k
theorem r_iRng1 (k : tr σ H fun vs H1 => Rng1 vs H1 R) : iRng1 tr σ H R := k
theorem r_iRng2 (k : tr σ H fun vs H1 => Rng2 vs H1 R) : iRngL tr σ H R := k
theorem r_iList (k : te σ H fun x H1 => ItL K x H1 R) : iList K te σ H R := k
theorem r_iTup (k : te σ H fun x H1 => ItT K x H1 R) : iTup K te σ H R := k
theorem r_rng1 (h1 : -(2 ^ 62) ≤ i) (h2 : i < 2 ^ 62) (k : R (Itr 0 i.toNat) H) : Rng1 [.int i] H R := ⟨i, rfl, h1, h2, k⟩
theorem r_rng2 (h : -(2 ^ 62) ≤ i ∧ i < 2 ^ 62 ∧ -(2 ^ 62) ≤ j ∧ j < 2 ^ 62) (k : R (Itr i (j - i).toNat) H) : Rng2 [.int i, .int j] H R := ⟨i, j, rfl, k⟩
theorem r_rngL (k : R (Itr i (j - i).toNat) H) : Rng2 [.int i, .int j] H R := ⟨i, j, rfl, k⟩
theorem r_ItL {p : Addr} {xs : List V} (h : SqL K H p xs) (k : R (Itl K p) H) : ItL K (.ref p) H R := ⟨p, rfl, ⟨xs, h⟩, k⟩
theorem r_ItT {p : Addr} {xs : List V} (h : SqT K H p xs) (k : R (Itt K p) H) : ItT K (.ref p) H R := ⟨p, rfl, ⟨xs, h⟩, k⟩
theorem for_rng {lo : Int} {n j : Nat} (Pv : Nat → L2.St → Hp → Prop) (h0 : Pv 0 σ H)
    (hs : ∀ i σ H, i < n → Pv i σ H → s1 { D with nx := Pv (i + 1), ct := Pv (i + 1), bk := D.nx } (σ.set j (some (.int (lo + i)))) H) (hd : ∀ σ H, Pv n σ H → D.nx σ H) : ForB (Itr lo n) (gName j) s1 D σ H := for_range Pv h0 hs hd
theorem for_lst {a : Addr} {xs : List V} (Pv : Nat → L2.St → Hp → Prop) (h0 : Pv 0 σ H) (hl : ∀ i σ H, i ≤ xs.length → Pv i σ H → SqL K H a xs)
    (hs : ∀ i x σ H, xs[i]? = some x → Pv i σ H → g x σ H fun σ2 H2 => s1 { D with nx := Pv (i + 1), ct := Pv (i + 1), bk := D.nx } σ2 H2) (hd : ∀ σ H, Pv xs.length σ H → D.nx σ H) : ForB (Itl K a) g s1 D σ H := for_list Pv h0 hl hs hd
theorem for_tp {a : Addr} {xs : List V} (Pv : Nat → L2.St → Hp → Prop) (h0 : Pv 0 σ H) (hl : ∀ i σ H, i ≤ xs.length → Pv i σ H → SqT K H a xs)
    (hs : ∀ i x σ H, xs[i]? = some x → Pv i σ H → g x σ H fun σ2 H2 => s1 { D with nx := Pv (i + 1), ct := Pv (i + 1), bk := D.nx } σ2 H2) (hd : ∀ σ H, Pv xs.length σ H → D.nx σ H) : ForB (Itt K a) g s1 D σ H := for_tup Pv h0 hl hs hd
/-- a comprehension over J -/
def LcB (J : It) (g : TG) (tt : TT) (te : TE) (vs : List Nat) (σ : L2.St) (H1 : Hp) (Q : VK) : Prop := ∀ D, H1 D = none → ∃ W : Nat → Nat → Hp → Prop, (∃ m, W 0 m (upd H1 D (.lst []))) ∧ ∀ i m H, W i m H →
  (J.stop i H ∧ Q (.ref D) H) ∨ (J.go i H ∧ ∃ Nx : Hp → Prop, (∀ H', Nx H' → ∃ m', m' < m ∧ W (i + 1) m' H') ∧ ∀ x H', J.yld i H x H' → g x (wipe σ vs) H' fun σ2 H2 => wipe σ2 vs = wipe σ vs ∧ tt σ2 H2 fun b H3 =>
    if b = true then te σ2 H3 fun y H4 => ∃ acc, H4 D = some (.lst acc) ∧ acc.length < sizeLine ∧ Nx (upd H4 D (.lst (acc ++ [y]))) else Nx H3)
theorem r_lc {vs : List Nat} (k : wi σ H fun J H1 => LcB J g t te vs σ H1 Q) : tLc wi g t te vs σ H Q := k
end
/-! ranges of any size -/
theorem turn_long {P : Program} {w : World} {K : PySem.W.Frag} {tg : Expr} (it : Addr) (lo : Int) (n : Nat) : Turn P w K tg (Itr lo n) [it] it (fun i h => IsLongIter h it (lo + (i : Nat) * 1) ((n : Int) - (i : Nat)) 1) where
  mem := List.mem_cons_self
  obj := fun i h st b hb => by
    obtain rfl : b = it := by simpa using hb
    exact ⟨_, st, fun v z => by
      have z' : Data.fields _ = Data.cell v := z
      cases z'⟩
  keep := fun i h h' st k => k it List.mem_cons_self _ st
  item := by
    intro X hP hw hK hc i pins s σ H E I hf st hg
    subst hP hw hK
    obtain ⟨f0, f1, f2, f3, f4, f5⟩ := hf it List.mem_cons_self
    refine (Walks.longrange (prog := X.prog) (w := X.w) (I.ok.hd hc) it lo 1 n).item i s _ _ hg st fun v h' tk hv st' kk => ?_
    obtain ⟨t, rfl⟩ := hv
    have I1 : Inv X pins σ H { s with heap := h', toks := tk } := I.turned (fun b o hb e => kk b o (by simpa using hb) e) f0 f1 f3 f4 f5
    exact ⟨_, rfl, go_of (s := { s with heap := h', toks := tk }) (n := "longrange_iterator") st' rfl rfl (by decide) ⟨.int (lo + i), H, I1, ⟨t, by rw [Int.mul_one]⟩, ⟨rfl, rfl⟩, st', fun b hb => (hf b hb).1⟩⟩
  done := by
    intro X hP hw hK hc i pins s σ H E I hf st hg
    subst hP hw hK
    obtain ⟨f0, f1, f2, f3, f4, f5⟩ := hf it List.mem_cons_self
    have hg' : n ≤ i := hg
    exact wpAny_pyNext_long_end (I.ok.hd hc) st (by omega) fun h' eb => ⟨rfl, I.turned (t' := s.toks) (fun b o hb e => eb b o hb e) f0 f1 f3 f4 f5⟩
  self := fun _ _ _ _ _ st h => wpAny_pyIter_longiter st h
theorem size_0 {lo hi : Int} : (((hi - lo).toNat : Nat) : Int) - ((0 : Nat) : Int) = Builtin.Range.rangeSize lo hi 1 := by
  rw [rangeSize_one]
  split <;> omega
theorem rit_0 {h : Heap} {lo hi : Int} : IsRangeIter (h.push { cls := .type "range_iterator", data := .fields #[rawInt lo, rawInt (Builtin.Range.rangeSize lo hi 1), rawInt 1] }) h.objs.size (lo + ((0 : Nat) : Int) * 1) ((((hi - lo).toNat : Nat) : Int) - ((0 : Nat) : Int)) 1 := by
  have e1 : lo + ((0 : Nat) : Int) * 1 = lo := by omega
  rw [e1, size_0]
  exact Heap.get?_push_size _ rfl
theorem lit_0 {h : Heap} {lo hi : Int} : IsLongIter (h.push { cls := .type "longrange_iterator", data := .fields #[rawInt lo, rawInt (Builtin.Range.rangeSize lo hi 1), rawInt 1] }) h.objs.size (lo + ((0 : Nat) : Int) * 1) ((((hi - lo).toNat : Nat) : Int) - ((0 : Nat) : Int)) 1 := by
  have e1 : lo + ((0 : Nat) : Int) * 1 = lo := by omega
  rw [e1, size_0]
  exact Heap.get?_push_size _ rfl
theorem range_any {X : Cx} {tg : Expr} {pins : List (Addr × Obj)} {σ : L2.St} {H : Hp} {s : Shared} {R : It → Hp → Prop} {E : Value → Shared → Prop} {lo hi : Int} {t u v : Tok} {tk : Nat} (I : Inv X pins σ H s)
    (q : R (Itr lo (hi - lo).toNat) H) : wpAny (model X.prog X.w) X.A (pyIter (.ref s.heap.objs.size)) (PIE X pins σ tg R) E { s with heap := s.heap.push { cls := .type "range", data := .fields #[.int lo t, .int hi u, .int 1 v] }, toks := tk } := by
  have I1 : Inv X pins σ H { s with heap := s.heap.push { cls := .type "range", data := .fields #[.int lo t, .int hi u, .int 1 v] }, toks := tk } := I.kept fun b o e => Heap.get?_push_of_some _ e
  have fp : ∀ b ∈ [(s.heap.push { cls := .type "range", data := .fields #[.int lo t, .int hi u, .int 1 v] }).objs.size], FpOk X pins H b := fun b hb => by
    obtain rfl : b = (s.heap.push { cls := .type "range", data := .fields #[.int lo t, .int hi u, .int 1 v] }).objs.size := by simpa using hb
    exact I1.fpOk (Nat.le_refl _) (I1.hok.fresh (Nat.le_refl _))
  cases hs : Builtin.Range.small lo hi 1 with
  | true => exact wpAny_pyIter_range (IsRange.new ..) hs ⟨_, [_], _, _, H, rfl, I1.kept (t' := tk) fun b o e => Heap.get?_push_of_some _ e, turn_range _ lo (hi - lo).toNat, rit_0, fp, q⟩
  | false => exact wpAny_pyIter_longrange (IsRange.new ..) hs ⟨_, [_], _, _, H, rfl, I1.kept (t' := tk) fun b o e => Heap.get?_push_of_some _ e, turn_long _ lo (hi - lo).toNat, lit_0, fp, q⟩
theorem pi_rng2 {X : Cx} {tg : Expr} {a b : Expr} {ta : TA} {p pos : Pos} (hg : Gl X "range") (hm : X.mg "range" = none) (ha : PA X [a, b] ta) (hs : starEach [a, b] X.env = [(false, eval a X.env), (false, eval b X.env)] := by rfl) (hs2 : starEach [b] X.env = [(false, eval b X.env)] := by rfl) :
    PI X tg (.Call (.Name "range" p) [a, b] [] pos) (iRngL ta) := by
  refine ⟨fun pins s σ H R I h => Call_ (ld_blt I hg hm boot_range (PyProof.Rows.callWith_type1 (thn (ha.run pos pins s σ H _ I h) fun us s1 ⟨vs, H1, I1, r1, q1⟩ => ?_) (by rw [hs, hs2]) (by rw [hs2]; rfl)))⟩
  obtain ⟨i, j, rfl, q⟩ := q1
  cases r1 with
  | cons r rr =>
    cases rr with
    | cons r' rr =>
      cases rr
      obtain ⟨t, rfl⟩ := r
      obtain ⟨t', rfl⟩ := r'
      exact call_range_2 (range_any I1 q)
/-- what an expression gives without a change of what is tracked -/
def PureE (te : TE) (σ : L2.St) (H : Hp) (v : V) : Prop := ∀ H1, Ex H H1 → ∀ Q : VK, (∀ H2, Ex H1 H2 → Q v H2) → te σ H1 Q
section
variable {K : PySem.W.Frag} {σ : L2.St} {H : Hp} {Q : VK} {te : TE}
theorem tYes_k {F : Bool → Hp → Prop} (k : F true H) : tYes σ H F := k
theorem len_lt {n : Nat} (h : n ≤ 100000) : n < sizeLine := Nat.lt_of_le_of_lt h (by decide)
/-- [e for j in a range], e pure -/
theorem lc_rngP {lo : Int} {n j : Nat} {vs : List Nat} (f : Nat → V) (hn : n ≤ 100000) (hw : ∀ x, wipe ((wipe σ vs).set j (some x)) vs = wipe σ vs)
    (he : ∀ i : Nat, i < n → PureE te ((wipe σ vs).set j (some (.int (lo + i)))) H (f i)) (k : ∀ p H1, H p = none → Ex H H1 → H1 p = some (.lst ((List.range n).map f)) → Q (.ref p) H1) : LcB (Itr lo n) (gName j) tYes te vs σ H Q := fun Dl hD => by
  refine lc_range (fun i H' => Ex H H' ∧ H' Dl = some (.lst ((List.range i).map f))) ⟨Ex.new hD, upd_same⟩ (fun i H' hi p => ?_) (fun H' p => k Dl H' hD p.1 p.2)
  refine ⟨hw _, ?_⟩
  refine tYes_k ?_
  rw [if_pos rfl]
  refine he i hi H' p.1 _ fun H2 e2 => ⟨_, e2 _ _ p.2, ?_, ?_⟩
  · rw [List.length_map, List.length_range]
    exact len_lt (by omega)
  · refine ⟨fun a o ha => ?_, ?_⟩
    · rw [upd_ne (ne_of_none ha hD)]
      exact e2 _ _ (p.1 _ _ ha)
    · rw [upd_same, List.range_succ, List.map_append]
      rfl
theorem lc_lstP {a : Addr} {xs : List V} {j : Nat} {vs : List Nat} (f : V → V) (hx : SqL K H a xs) (hn : xs.length ≤ 100000) (hw : ∀ x, wipe ((wipe σ vs).set j (some x)) vs = wipe σ vs)
    (he : ∀ (i : Nat) x, xs[i]? = some x → PureE te ((wipe σ vs).set j (some x)) H (f x)) (k : ∀ p H1, H p = none → Ex H H1 → H1 p = some (.lst (xs.map f)) → Q (.ref p) H1) : LcB (Itl K a) (gName j) tYes te vs σ H Q := fun Dl hD => by
  refine lc_list (xs := xs) (fun i H' => Ex H H' ∧ H' Dl = some (.lst ((xs.take i).map f))) ⟨Ex.new hD, upd_same⟩ (fun i H' _ p => sql_up p.1 hx) (fun i x H' hi p => ?_) (fun H' p => k Dl H' hD p.1 (by rw [p.2, List.take_length]))
  refine ⟨hw _, ?_⟩
  refine tYes_k ?_
  rw [if_pos rfl]
  refine he i x hi H' p.1 _ fun H2 e2 => ⟨_, e2 _ _ p.2, ?_, ?_⟩
  · rw [List.length_map, List.length_take]
    exact len_lt (by omega)
  · refine ⟨fun a o ha => ?_, ?_⟩
    · rw [upd_ne (ne_of_none ha hD)]
      exact e2 _ _ (p.1 _ _ ha)
    · rw [upd_same, List.take_add_one, hi, List.map_append]
      rfl
theorem lc_tupP {a : Addr} {xs : List V} {j : Nat} {vs : List Nat} (f : V → V) (hx : SqT K H a xs) (hn : xs.length ≤ 100000) (hw : ∀ x, wipe ((wipe σ vs).set j (some x)) vs = wipe σ vs)
    (he : ∀ (i : Nat) x, xs[i]? = some x → PureE te ((wipe σ vs).set j (some x)) H (f x)) (k : ∀ p H1, H p = none → Ex H H1 → H1 p = some (.lst (xs.map f)) → Q (.ref p) H1) : LcB (Itt K a) (gName j) tYes te vs σ H Q := fun Dl hD => by
  refine lc_tup (xs := xs) (fun i H' => Ex H H' ∧ H' Dl = some (.lst ((xs.take i).map f))) ⟨Ex.new hD, upd_same⟩ (fun i H' _ p => sqt_up p.1 hx) (fun i x H' hi p => ?_) (fun H' p => k Dl H' hD p.1 (by rw [p.2, List.take_length]))
  refine ⟨hw _, ?_⟩
  refine tYes_k ?_
  rw [if_pos rfl]
  refine he i x hi H' p.1 _ fun H2 e2 => ⟨_, e2 _ _ p.2, ?_, ?_⟩
  · rw [List.length_map, List.length_take]
    exact len_lt (by omega)
  · refine ⟨fun a o ha => ?_, ?_⟩
    · rw [upd_ne (ne_of_none ha hD)]
      exact e2 _ _ (p.1 _ _ ha)
    · rw [upd_same, List.take_add_one, hi, List.map_append]
      rfl
end

theorem Sz.b2 {c : Prop} {_ : Decidable c} : Sz 1 (if c then 1 else 0) := by
  show (if c then (1 : Int) else 0).natAbs < 2 ^ 1
  split <;> decide
theorem div_mod_eq (x m : Int) : x / m * m + x % m = x := by
  have := Int.emod_add_mul_ediv x m
  rw [Int.mul_comm] at this
  omega
theorem Sz.small {x : Int} (h : x.natAbs < 1000000000000000000) : Sz 200 x := by
  show x.natAbs < 2 ^ 200
  omega
theorem at_ints {ns : List Int} {i : Int} (h0 : 0 ≤ i) (h1 : i < ns.length) : ∃ z, atI (ns.map V.int) i = some (.int z) ∧ ns[i.toNat]? = some z := by
  have hl : i.toNat < ns.length := by omega
  refine ⟨ns[i.toNat], ?_, List.getElem?_eq_getElem hl⟩
  refine at_of (j := i.toNat) (by omega) ?_
  rw [List.getElem?_map, List.getElem?_eq_getElem hl]
  rfl
theorem at_3 {x y z : V} {i : Int} (h0 : 0 ≤ i) (h1 : i < 3) : ∃ v, atI [x, y, z] i = some v ∧ (v = x ∨ v = y ∨ v = z) := by
  obtain rfl | rfl | rfl : i = 0 ∨ i = 1 ∨ i = 2 := by omega
  · exact ⟨_, rfl, .inl rfl⟩
  · exact ⟨_, rfl, .inr (.inl rfl)⟩
  · exact ⟨_, rfl, .inr (.inr rfl)⟩
theorem Sz.lt {n : Nat} {x y : Int} (h : Sz n y) (a : 0 ≤ x) (b : x < y) : Sz n x := by
  have h' : y.natAbs < 2 ^ n := h
  show x.natAbs < 2 ^ n
  omega
theorem Sz.abs {n : Nat} {x : Int} (h : Sz n x) : Sz n (x.natAbs : Int) := by
  show ((x.natAbs : Int)).natAbs < 2 ^ n
  exact h

section
variable {σ : L2.St} {H : Hp} {D : Ends} {t : TT} {s1 : TS}
/-- a while by its measure -/
theorem while_m (W : Nat → L2.St → Hp → Prop) (m0 : Nat) (h0 : W m0 σ H) (h : ∀ m σ H, W m σ H → t σ H fun b H1 => if b = true then ∃ N : L2.St → Hp → Prop, (∀ σ' H', N σ' H' → ∃ m', m' < m ∧ W m' σ' H') ∧ s1 { D with nx := N, ct := N, bk := D.nx } σ H1 else D.nx σ H1) : tWhile t s1 D σ H :=
  ⟨W, ⟨m0, h0⟩, fun m σ H w => h m σ H w⟩
theorem r_body {m : Nat} {W : Nat → L2.St → Hp → Prop} (N : L2.St → Hp → Prop) (hN : ∀ σ' H', N σ' H' → ∃ m', m' < m ∧ W m' σ' H') (k : s1 { D with nx := N, ct := N, bk := D.nx } σ H) :
    ∃ N : L2.St → Hp → Prop, (∀ σ' H', N σ' H' → ∃ m', m' < m ∧ W m' σ' H') ∧ s1 { D with nx := N, ct := N, bk := D.nx } σ H := ⟨N, hN, k⟩
end

/-- in a turn of the law, begun at H0, drawing from d -/
structure Lw (H0 : Hp) (d : Addr) (H : Hp) : Prop where
  e : Ex H0 H
  n : H0 d = none
  D : Dr H d
theorem Lw.ex {H0 H H' : Hp} {d : Addr} (w : Lw H0 d H) (e : Ex H H') : Lw H0 d H' := ⟨w.e.trans e, w.n, w.D.up e⟩
/-- a list of the turn's own is changed -/
theorem Lw.own {H0 H H' : Hp} {d l : Addr} (w : Lw H0 d H) (nf : H0 l = none) (ne : l ≠ d) (k : Kp l H H') : Lw H0 d H' := by
  obtain ⟨x, y, h, r⟩ := w.D
  exact ⟨w.e.kpd nf k, w.n, x, y, k _ _ (Ne.symm ne) h, r⟩
theorem Lw.kp {H0 H H' : Hp} {d : Addr} (w : Lw H0 d H) (k : Kp d H H') (D : Dr H' d) : Lw H0 d H' := ⟨w.e.kpd w.n k, w.n, D⟩

/-! data compared -/
theorem eqv_ints : ∀ xs ys : List Int, PyData.eqvAll (xs.map PyData.int) (ys.map PyData.int) = decide (xs = ys)
  | [], [] => by rw [decide_eq_true rfl]; rfl
  | [], y :: ys => by rw [decide_eq_false (by intro h; cases h)]; rfl
  | x :: xs, [] => by rw [decide_eq_false (by intro h; cases h)]; rfl
  | x :: xs, y :: ys => by
    show (PyData.eqv (.int x) (.int y) && PyData.eqvAll (xs.map PyData.int) (ys.map PyData.int)) = _
    rw [eqv_ints xs ys]
    show ((x == y) && decide (xs = ys)) = decide (x :: xs = y :: ys)
    by_cases h : x = y
    · subst h
      by_cases h2 : xs = ys
      · subst h2
        rw [decide_eq_true rfl, decide_eq_true rfl, beq_self_eq_true]
        rfl
      · rw [decide_eq_false h2, decide_eq_false (fun z => h2 (List.cons.inj z).2), Bool.and_false]
    · rw [beq_eq_false_iff_ne.mpr h, decide_eq_false (fun z => h (List.cons.inj z).1), Bool.false_and]
theorem lay_ints : ∀ xs : List Int, PyData.canLayAll0 (xs.map PyData.int) = true
  | [] => rfl
  | x :: xs => by
    show (PyData.canLay0 (.int x) && PyData.canLayAll0 (xs.map PyData.int)) = true
    rw [lay_ints xs]
    rfl
theorem dep_ints : ∀ xs : List Int, PyData.depthAll (xs.map PyData.int) ≤ 1
  | [] => Nat.zero_le _
  | x :: xs => by
    show max (PyData.depth (.int x)) (PyData.depthAll (xs.map PyData.int)) ≤ 1
    have h1 : PyData.depth (.int x) ≤ 1 := by
      unfold PyData.depth
      omega
    have := dep_ints xs
    omega
theorem shp_tup (xs : List Int) : SeqAt.shaped (.tuple (xs.map PyData.int)) = true := by
  unfold SeqAt.shaped
  rw [Bool.and_eq_true]
  refine ⟨?_, decide_eq_true ?_⟩
  · unfold PyData.canLay0
    exact lay_ints xs
  · unfold PyData.depth
    have := dep_ints xs
    omega
theorem shp_lst (xs : List Int) : SeqAt.shaped (.list (xs.map PyData.int)) = true := by
  unfold SeqAt.shaped
  rw [Bool.and_eq_true]
  refine ⟨?_, decide_eq_true ?_⟩
  · unfold PyData.canLay0
    exact lay_ints xs
  · unfold PyData.depth
    have := dep_ints xs
    omega
section
variable {K : PySem.W.Frag} {H : Hp} {Q : VK}
theorem dp_ints : ∀ xs : List Int, DpAll K H (xs.map V.int) (xs.map PyData.int)
  | [] => .nil
  | x :: xs => .cons (.int x) (dp_ints xs)
theorem r_eqD {x y : V} {d e : PyData} (hd : Dp K H x d) (he : Dp K H y e) (sd : SeqAt.shaped d = true) (se : SeqAt.shaped e = true) (k : Q (.bl (PyData.eqv d e)) H) : rEqD K x y H Q := ⟨d, e, hd, he, sd, se, k⟩
theorem r_neD {x y : V} {d e : PyData} (hd : Dp K H x d) (he : Dp K H y e) (sd : SeqAt.shaped d = true) (se : SeqAt.shaped e = true) (k : Q (.bl (!PyData.eqv d e)) H) : rNeD K x y H Q := ⟨d, e, hd, he, sd, se, k⟩
theorem eqvT (xs ys : List Int) : PyData.eqv (.tuple (xs.map PyData.int)) (.tuple (ys.map PyData.int)) = decide (xs = ys) := by
  unfold PyData.eqv
  exact eqv_ints xs ys
theorem eqvL (xs ys : List Int) : PyData.eqv (.list (xs.map PyData.int)) (.list (ys.map PyData.int)) = decide (xs = ys) := by
  unfold PyData.eqv
  exact eqv_ints xs ys
/-- two tuples of three whole numbers, two lists of whole numbers -/
theorem r_eqT3 {p q : Addr} {a b c a' b' c' : Int} (h : SqT K H p [.int a, .int b, .int c]) (h' : SqT K H q [.int a', .int b', .int c']) (k : Q (.bl (decide ([a, b, c] = [a', b', c']))) H) : rEqD K (.ref p) (.ref q) H Q :=
  r_eqD (.tup h (dp_ints [a, b, c])) (.tup h' (dp_ints [a', b', c'])) (shp_tup _) (shp_tup _) (by rw [eqvT]; exact k)
theorem r_neT3 {p q : Addr} {a b c a' b' c' : Int} (h : SqT K H p [.int a, .int b, .int c]) (h' : SqT K H q [.int a', .int b', .int c']) (k : Q (.bl (!decide ([a, b, c] = [a', b', c']))) H) : rNeD K (.ref p) (.ref q) H Q :=
  r_neD (.tup h (dp_ints [a, b, c])) (.tup h' (dp_ints [a', b', c'])) (shp_tup _) (shp_tup _) (by rw [eqvT]; exact k)
theorem r_eqL {p q : Addr} {xs ys : List Int} (h : SqL K H p (xs.map V.int)) (h' : SqL K H q (ys.map V.int)) (k : Q (.bl (decide (xs = ys))) H) : rEqD K (.ref p) (.ref q) H Q :=
  r_eqD (.lst h (dp_ints xs)) (.lst h' (dp_ints ys)) (shp_lst _) (shp_lst _) (by rw [eqvL]; exact k)
theorem r_neL {p q : Addr} {xs ys : List Int} (h : SqL K H p (xs.map V.int)) (h' : SqL K H q (ys.map V.int)) (k : Q (.bl (!decide (xs = ys))) H) : rNeD K (.ref p) (.ref q) H Q :=
  r_neD (.lst h (dp_ints xs)) (.lst h' (dp_ints ys)) (shp_lst _) (shp_lst _) (by rw [eqvL]; exact k)
end
theorem at_2 {x y : V} {i : Int} (h0 : 0 ≤ i) (h1 : i < 2) : ∃ v, atI [x, y] i = some v ∧ (v = x ∨ v = y) := by
  obtain rfl | rfl : i = 0 ∨ i = 1 := by omega
  · exact ⟨_, rfl, .inl rfl⟩
  · exact ⟨_, rfl, .inr rfl⟩
/-- what a test gives without a change of what is tracked -/
def PureT (tt : TT) (σ : L2.St) (H : Hp) (b : Bool) : Prop := ∀ H1, Ex H H1 → ∀ Q : Bool → Hp → Prop, (∀ H2, Ex H1 H2 → Q b H2) → tt σ H1 Q
section
variable {K : PySem.W.Frag} {σ : L2.St} {H : Hp} {Q : VK} {te : TE} {tt : TT}
/-- [e for j in a range if t], t and e pure -/
theorem lc_rngF {lo : Int} {n j : Nat} {vs : List Nat} (c : Nat → Bool) (f : Nat → V) (hn : n ≤ 100000) (hw : ∀ x, wipe ((wipe σ vs).set j (some x)) vs = wipe σ vs)
    (ht : ∀ i : Nat, i < n → PureT tt ((wipe σ vs).set j (some (.int (lo + i)))) H (c i))
    (he : ∀ i : Nat, i < n → c i = true → PureE te ((wipe σ vs).set j (some (.int (lo + i)))) H (f i)) (k : ∀ p H1, H p = none → Ex H H1 → H1 p = some (.lst (((List.range n).filter c).map f)) → Q (.ref p) H1) : LcB (Itr lo n) (gName j) tt te vs σ H Q := fun Dl hD => by
  refine lc_range (fun i H' => Ex H H' ∧ H' Dl = some (.lst (((List.range i).filter c).map f))) ⟨Ex.new hD, upd_same⟩ (fun i H' hi p => ?_) (fun H' p => k Dl H' hD p.1 p.2)
  refine ⟨hw _, ht i hi H' p.1 _ fun H2 e2 => ?_⟩
  cases hc : c i with
  | true =>
    rw [if_pos rfl]
    refine he i hi hc H2 (p.1.trans e2) _ fun H3 e3 => ⟨_, e3 _ _ (e2 _ _ p.2), ?_, ?_⟩
    · have l1 := List.length_filter_le c (List.range i)
      rw [List.length_range] at l1
      rw [List.length_map]
      exact len_lt (by omega)
    · refine ⟨fun a o ha => ?_, ?_⟩
      · rw [upd_ne (ne_of_none ha hD)]
        exact e3 _ _ (e2 _ _ (p.1 _ _ ha))
      · rw [upd_same, List.range_succ, List.filter_append, List.map_append]
        simp [hc]
  | false =>
    rw [if_neg Bool.false_ne_true]
    refine ⟨p.1.trans e2, ?_⟩
    rw [List.range_succ, List.filter_append, List.map_append]
    simp [hc, e2 _ _ p.2]
end
/-- a drawn stair -/
structure StB (a b m : Int) : Prop where
  m0 : 0 < m
  m1 : m ≤ 1000000000000000000000000000000000000000000000000000000000000
  za : Sz 620 a
  zb : Sz 620 b
theorem StB.zm {a b m : Int} (S : StB a b m) : Sz 200 m := by
  have := S.m0
  have := S.m1
  show m.natAbs < 2 ^ 200
  omega

section
variable {K : PySem.W.Frag} {σ : L2.St} {H : Hp} {Q : VK} {i : Int}
theorem r_sortI {a : Addr} {ns : List Int} (h : SqL K H a (ns.map V.int)) (k : ∀ (ns' : List Int) p H1, ns'.Perm ns → ns'.Pairwise (· ≤ ·) → H p = none → Ex H H1 → H1 p = some (.lst (ns'.map V.int)) → Q (.ref p) H1) : rSortedI K [.ref a] H Q :=
  ⟨a, ns, rfl, h, fun ns' p h1 h2 hp => k ns' p _ h1 h2 hp (Ex.new hp) upd_same⟩
theorem r_gLst {p : Addr} {xs : List V} {n : Nat} {g : TGs} {QS : L2.St → Hp → Prop} (h : SqL K H p xs) (l : xs.length = n) (k : g xs σ H QS) : gLst K n g (.ref p) σ H QS := ⟨p, xs, rfl, h, l, k⟩
end
theorem sort_2 {ns : List Int} {x y : Int} (h : ns.Perm [x, y]) (s : ns.Pairwise (· ≤ ·)) : ns = [min x y, max x y] := by
  have hl := h.length_eq
  match ns, hl with
  | [u, v], _ =>
    have m1 := h.mem_iff (a := u)
    have m2 := h.mem_iff (a := v)
    have m3 := h.mem_iff (a := x)
    have m4 := h.mem_iff (a := y)
    have huv : u ≤ v := by
      have := List.pairwise_cons.mp s
      exact this.1 v (by simp)
    simp at m1 m2 m3 m4
    have e1 : u = min x y := by omega
    have e2 : v = max x y := by omega
    rw [← e1, ← e2]
theorem sort_3 {ns : List Int} {x y z lo hi : Int} (h : ns.Perm [x, y, z]) (s : ns.Pairwise (· ≤ ·)) (h1 : lo ≤ x ∧ x ≤ hi) (h2 : lo ≤ y ∧ y ≤ hi) (h3 : lo ≤ z ∧ z ≤ hi) : ∃ u v w, ns = [u, v, w] ∧ lo ≤ u ∧ u ≤ v ∧ v ≤ w ∧ w ≤ hi := by
  have hl := h.length_eq
  match ns, hl with
  | [u, v, w], _ =>
    have m1 := h.mem_iff (a := u)
    have m3 := h.mem_iff (a := w)
    have p := List.pairwise_cons.mp s
    have huv : u ≤ v := p.1 v (by simp)
    have hvw : v ≤ w := (List.pairwise_cons.mp p.2).1 w (by simp)
    simp at m1 m3
    exact ⟨u, v, w, rfl, by omega, huv, hvw, by omega⟩
/-! none, True, membership -/
def rIsNn : R2 := fun x y H Q => y = .non ∧ Q (.bl (decide (x = .non))) H
def rNotNn : R2 := fun x y H Q => y = .non ∧ Q (.bl (!decide (x = .non))) H
theorem op_isNn {X : Cx} : OpR X (compareOp .Is) rIsNn := op_isN
theorem op_notNn {X : Cx} : OpR X (compareOp .IsNot) rNotNn := op_notN
section
variable {K : PySem.W.Frag} {H : Hp} {Q : VK} {x : V}
theorem r_isNnI {i : Int} (k : Q (.bl false) H) : rIsNn (.int i) .non H Q := ⟨rfl, k⟩
theorem r_isNnN (k : Q (.bl true) H) : rIsNn .non .non H Q := ⟨rfl, k⟩
theorem r_isNnR {a : Addr} (k : Q (.bl false) H) : rIsNn (.ref a) .non H Q := ⟨rfl, k⟩
theorem r_notNnI {i : Int} (k : Q (.bl true) H) : rNotNn (.int i) .non H Q := ⟨rfl, k⟩
theorem r_notNnN (k : Q (.bl false) H) : rNotNn .non .non H Q := ⟨rfl, k⟩
theorem r_notNnR {a : Addr} (k : Q (.bl true) H) : rNotNn (.ref a) .non H Q := ⟨rfl, k⟩
theorem all_flatI : ∀ ns : List Int, (ns.map V.int).all flatV = true
  | [] => rfl
  | n :: ns => by
    show (true && (ns.map V.int).all flatV) = true
    rw [all_flatI ns]
    rfl
theorem inV_ints (i : Int) : ∀ ns : List Int, inV (.int i) (ns.map V.int) = decide (i ∈ ns)
  | [] => rfl
  | n :: ns => by
    show (eqV (.int n) (.int i) || inV (.int i) (ns.map V.int)) = _
    rw [inV_ints i ns]
    show ((decide (n = i)) || _) = _
    by_cases h : n = i
    · subst h
      rw [decide_eq_true rfl, decide_eq_true (List.mem_cons_self ..)]
      rfl
    · rw [decide_eq_false h, Bool.false_or]
      by_cases h2 : i ∈ ns
      · rw [decide_eq_true h2, decide_eq_true (List.mem_cons_of_mem _ h2)]
      · rw [decide_eq_false h2, decide_eq_false]
        intro z
        rcases List.mem_cons.mp z with z | z
        · exact h z.symm
        · exact h2 z
theorem r_inI {i : Int} {ns : List Int} {p : Addr} (h : SqL K H p (ns.map V.int)) (k : Q (.bl (decide (i ∈ ns))) H) : rIn K false (.int i) (.ref p) H Q :=
  ⟨p, _, rfl, .inl h, rfl, all_flatI ns, by rw [inV_ints]; exact k⟩
end
/-! lists of rows of whole numbers -/
theorem Kp.tupL {H H' : Hp} {d p : Addr} {xs ys : List V} (k : Kp d H H') (D : H d = some (.lst ys)) (h : H p = some (.tup xs)) : H' p = some (.tup xs) :=
  k _ _ (ne_of h D (by intro z; cases z)) h
/-- each value a tuple of whole numbers -/
def RowsA (H : Hp) : List V → List (List Int) → Prop
  | [], [] => True
  | v :: vs, r :: rs => (∃ p, v = .ref p ∧ H p = some (.tup (r.map V.int))) ∧ RowsA H vs rs
  | _, _ => False
theorem RowsA.imp {H H' : Hp} (f : ∀ (p : Addr) (xs : List V), H p = some (.tup xs) → H' p = some (.tup xs)) : ∀ {vs : List V} {rs : List (List Int)}, RowsA H vs rs → RowsA H' vs rs
  | [], [], _ => trivial
  | _ :: _, _ :: _, ⟨⟨p, e, h⟩, r⟩ => ⟨⟨p, e, f _ _ h⟩, RowsA.imp f r⟩
  | [], _ :: _, h => h.elim
  | _ :: _, [], h => h.elim
theorem RowsA.ex {H H' : Hp} {vs : List V} {rs : List (List Int)} (h : RowsA H vs rs) (e : Ex H H') : RowsA H' vs rs := h.imp fun p xs q => e p _ q
theorem RowsA.kp {H H' : Hp} {d : Addr} {vs : List V} {rs : List (List Int)} (h : RowsA H vs rs) (k : Kp d H H') (D : Dr H d) : RowsA H' vs rs := h.imp fun _ _ q => k.tup D q
theorem RowsA.kpL {H H' : Hp} {d : Addr} {ys vs : List V} {rs : List (List Int)} (h : RowsA H vs rs) (k : Kp d H H') (D : H d = some (.lst ys)) : RowsA H' vs rs := h.imp fun _ _ q => k.tupL D q
theorem RowsA.len {H : Hp} : ∀ {vs : List V} {rs : List (List Int)}, RowsA H vs rs → vs.length = rs.length
  | [], [], _ => rfl
  | _ :: _, _ :: _, ⟨_, r⟩ => by
    rw [List.length_cons, List.length_cons, RowsA.len r]
  | [], _ :: _, h => h.elim
  | _ :: _, [], h => h.elim
theorem RowsA.app {H : Hp} {p : Addr} {r : List Int} (hp : H p = some (.tup (r.map V.int))) : ∀ {vs : List V} {rs : List (List Int)}, RowsA H vs rs → RowsA H (vs ++ [.ref p]) (rs ++ [r])
  | [], [], _ => ⟨⟨p, rfl, hp⟩, trivial⟩
  | _ :: _, _ :: _, ⟨h, r⟩ => ⟨h, RowsA.app hp r⟩
  | [], _ :: _, h => h.elim
  | _ :: _, [], h => h.elim
theorem RowsA.get {H : Hp} : ∀ {vs : List V} {rs : List (List Int)} {i : Nat} {v : V}, RowsA H vs rs → vs[i]? = some v → ∃ p r, v = .ref p ∧ rs[i]? = some r ∧ H p = some (.tup (r.map V.int))
  | _ :: _, r :: _, 0, _, ⟨⟨p, e, h⟩, _⟩, g => ⟨p, r, (Option.some.inj g).symm.trans e, rfl, h⟩
  | _ :: _, _ :: _, i + 1, _, ⟨_, h⟩, g => RowsA.get (i := i) h g
  | [], _, _, _, _, g => by simp at g
  | _ :: _, [], _, _, h, _ => h.elim
/-- a list of rows stands at l -/
def RwL (H : Hp) (l : Addr) (rs : List (List Int)) : Prop := ∃ vs, H l = some (.lst vs) ∧ RowsA H vs rs
theorem RwL.ex {H H' : Hp} {l : Addr} {rs : List (List Int)} (h : RwL H l rs) (e : Ex H H') : RwL H' l rs := by
  obtain ⟨vs, h1, h2⟩ := h
  exact ⟨vs, e _ _ h1, h2.ex e⟩
theorem RwL.kp {H H' : Hp} {d l : Addr} {rs : List (List Int)} (h : RwL H l rs) (k : Kp d H H') (D : Dr H d) (n : l ≠ d) : RwL H' l rs := by
  obtain ⟨vs, h1, h2⟩ := h
  exact ⟨vs, k _ _ n h1, h2.kp k D⟩
theorem RwL.app {H H' : Hp} {l p : Addr} {vs : List V} {rs : List (List Int)} {r : List Int} (h0 : H l = some (.lst vs)) (h : RowsA H vs rs) (hp : H p = some (.tup (r.map V.int))) (k : Kp l H H') (h1 : H' l = some (.lst (vs ++ [.ref p]))) : RwL H' l (rs ++ [r]) :=
  ⟨_, h1, RowsA.app (k.tupL h0 hp) (h.kpL k h0)⟩
theorem cutV_whole {xs : List V} {lo hi : Option Int} (w : HT.sIx xs.length 0 lo = 0 ∧ HT.sIx xs.length xs.length hi = xs.length) : cutV xs lo hi = xs := by
  unfold cutV
  rw [w.1, w.2, List.drop_zero, Nat.sub_zero, List.take_length]
theorem mem_cutV {xs : List V} {lo hi : Option Int} {v : V} (h : v ∈ cutV xs lo hi) : v ∈ xs := List.mem_of_mem_drop (List.mem_of_mem_take h)
def rListOf (K : PySem.W.Frag) : List V → Hp → VK → Prop := fun xs H Q => ∃ p ys, xs = [.ref p] ∧ (SqL K H p ys ∨ SqT K H p ys) ∧ ∀ l, H l = none → Q (.ref l) (upd H l (.lst ys))
theorem cl_listOf {X : Cx} : CallR X (.type "list") (rListOf X.K) := call_list_of
section
variable {K : PySem.W.Frag} {σ : L2.St} {H : Hp} {Q : VK} {ta te : TE} {t : TA} {p q l : Addr} {xs ys : List V} {tl th : TO}
theorem r_listL (h : SqL K H p ys) (k : ∀ l H1, H l = none → Ex H H1 → H1 l = some (.lst ys) → Q (.ref l) H1) : rListOf K [.ref p] H Q :=
  ⟨p, ys, rfl, .inl h, fun l n => k l _ n (Ex.new n) upd_same⟩
theorem r_listT (h : SqT K H p ys) (k : ∀ l H1, H l = none → Ex H H1 → H1 l = some (.lst ys) → Q (.ref l) H1) : rListOf K [.ref p] H Q :=
  ⟨p, ys, rfl, .inr h, fun l n => k l _ n (Ex.new n) upd_same⟩
theorem r_bm {T : String} {r : V → List V → Hp → VK → Prop} (k : ta σ H fun x H1 => tyV K T x H1 ∧ t σ H1 fun xs H2 => r x xs H2 Q) : tBM K T r ta t σ H Q := k
theorem r_tyL {R : Prop} (h : SqL K H p xs) (k : R) : tyV K "list" (.ref p) H ∧ R := ⟨.inl ⟨rfl, _, h⟩, k⟩
theorem r_app {y : V} (h : H l = some (.lst xs)) (n : xs.length ≤ 100000) (k : ∀ H1, Kp l H H1 → H1 l = some (.lst (xs ++ [y])) → Q .non H1) : rAppend (.ref l) [y] H Q :=
  ⟨l, xs, y, rfl, rfl, h, len_lt n, k _ Kp.upd upd_same⟩
theorem r_sl {r : V → Option Int → Option Int → Hp → VK → Prop} (k : te σ H fun x H1 => tl σ H1 fun l H2 => th σ H2 fun u H3 => r x l u H3 Q) : tSl r te tl th σ H Q := k
theorem r_noP {R : Option Int → Hp → Prop} (k : R none H) : tNoPart σ H R := k
theorem r_part {R : Option Int → Hp → Prop} (k : te σ H fun x H1 => ∃ i, x = .int i ∧ R (some i) H1) : tPart te σ H R := k
theorem r_partI {i : Int} {R : Int → Prop} (k : R i) : ∃ j, V.int i = .int j ∧ R j := ⟨i, rfl, k⟩
theorem r_slA {lo hi : Option Int} (h : H p = some (.tup xs)) (k : ∀ q H1, Ex H H1 → H1 q = some (.tup (cutV xs lo hi)) → Q (.ref q) H1) : rSlA K (.ref p) lo hi H Q :=
  ⟨p, xs, rfl, SqT.of h, fun w => k p H Ex.refl (by rw [cutV_whole w]; exact h), fun _ q hq => k q _ (Ex.new hq) upd_same⟩
theorem r_sl4 {a b c d e : V} (h : SqT K H p [a, b, c, d, e]) (k : ∀ q H1, H q = none → Ex H H1 → H1 q = some (.tup [a, b, c, d]) → Q (.ref q) H1) : rSlA K (.ref p) none (some 4) H Q :=
  ⟨p, _, rfl, h, fun w => absurd (show (4 : Nat) = 5 from w.2) (by decide), fun _ q hq => k q _ hq (Ex.new hq) upd_same⟩
theorem r_catA (h : H p = some (.tup xs)) (h2 : H q = some (.tup ys)) (n : xs.length + ys.length ≤ sizeLine) (k : ∀ l H1, Ex H H1 → H1 l = some (.tup (xs ++ ys)) → Q (.ref l) H1) : rCatA K (.ref p) (.ref q) H Q :=
  ⟨p, q, xs, ys, rfl, rfl, SqT.of h, SqT.of h2, n, fun e => k q H Ex.refl (by subst e; exact h2), fun _ e => k p H Ex.refl (by subst e; rw [List.append_nil]; exact h), fun _ _ l hl => k l _ (Ex.new hl) upd_same⟩
theorem r_catT {x y : V} {xs ys : List V} (h : SqT K H p (x :: xs)) (h2 : SqT K H q (y :: ys)) (n : (x :: xs).length + (y :: ys).length ≤ sizeLine) (k : ∀ l H1, H l = none → Ex H H1 → H1 l = some (.tup (x :: xs ++ y :: ys)) → Q (.ref l) H1) : rCatA K (.ref p) (.ref q) H Q :=
  ⟨p, q, x :: xs, y :: ys, rfl, rfl, h, h2, n, fun z => absurd z (List.cons_ne_nil _ _), fun _ z => absurd z (List.cons_ne_nil _ _), fun _ _ l hl => k l _ hl (Ex.new hl) upd_same⟩
theorem r_cat13 {x a b c : V} (h : SqT K H p [x]) (h2 : SqT K H q [a, b, c]) (k : ∀ l H1, H l = none → Ex H H1 → H1 l = some (.tup [x, a, b, c]) → Q (.ref l) H1) : rCatA K (.ref p) (.ref q) H Q :=
  r_catT h h2 (show 4 ≤ sizeLine by decide) k
theorem r_cat41 {x a b c y : V} (h : SqT K H p [x, a, b, c]) (h2 : SqT K H q [y]) (k : ∀ l H1, H l = none → Ex H H1 → H1 l = some (.tup [x, a, b, c, y]) → Q (.ref l) H1) : rCatA K (.ref p) (.ref q) H Q :=
  r_catT h h2 (show 5 ≤ sizeLine by decide) k
theorem r_slL {lo hi : Option Int} (h : H p = some (.lst xs)) (k : ∀ q H1, H q = none → Ex H H1 → H1 q = some (.lst (cutV xs lo hi)) → Q (.ref q) H1) : rSlL K (.ref p) lo hi H Q :=
  ⟨p, xs, rfl, SqL.of h, fun q hq => k q _ hq (Ex.new hq) upd_same⟩
theorem r_catL (h : H p = some (.lst xs)) (h2 : H q = some (.lst ys)) (n : xs.length + ys.length ≤ 100000) (k : ∀ l H1, H l = none → Ex H H1 → H1 l = some (.lst (xs ++ ys)) → Q (.ref l) H1) : rCat (.ref p) (.ref q) H Q :=
  ⟨p, q, xs, ys, rfl, rfl, h, h2, Nat.le_of_lt (len_lt n), fun l hl => k l _ hl (Ex.new hl) upd_same⟩
def rRev (K : PySem.W.Frag) (x : V) (H : Hp) (Q : VK) : Prop := ∃ a xs, x = .ref a ∧ SqL K H a xs ∧ ∀ p, H p = none → Q (.ref p) (upd H p (.lst xs.reverse))
theorem r_rev (k : te σ H fun x H1 => rRev K x H1 Q) : tRevL K te σ H Q := k
theorem r_revL (h : H p = some (.lst xs)) (k : ∀ q H1, H q = none → Ex H H1 → H1 q = some (.lst xs.reverse) → Q (.ref q) H1) : rRev K (.ref p) H Q :=
  ⟨p, xs, rfl, SqL.of h, fun q hq => k q _ hq (Ex.new hq) upd_same⟩
theorem ixN_in {n : Nat} {i : Int} (h0 : 0 ≤ i) (h1 : i < n) : ixN n i = some i.toNat := by
  unfold ixN
  rw [if_pos h0, if_pos h1]
theorem r_neT4 {a b c d a' b' c' d' : Int} (h : SqT K H p [.int a, .int b, .int c, .int d]) (h' : SqT K H q [.int a', .int b', .int c', .int d']) (k : Q (.bl (!decide ([a, b, c, d] = [a', b', c', d']))) H) : rNeD K (.ref p) (.ref q) H Q :=
  r_neD (.tup h (dp_ints [a, b, c, d])) (.tup h' (dp_ints [a', b', c', d'])) (shp_tup _) (shp_tup _) (by rw [eqvT]; exact k)
theorem r_notB {a b : Bool} (k : Q (.bl (!decide (a = b))) H) : rNotB (.bl a) (.bl b) H Q := ⟨a, b, rfl, rfl, k⟩
theorem r_isB {a b : Bool} (k : Q (.bl (decide (a = b))) H) : rIsB (.bl a) (.bl b) H Q := ⟨a, b, rfl, rfl, k⟩
end
/-! lists of rows compared -/
def rowD (r : List Int) : PyData := .tuple (r.map PyData.int)
theorem dp_rows {K : PySem.W.Frag} {H : Hp} : ∀ {vs : List V} {rs : List (List Int)}, RowsA H vs rs → DpAll K H vs (rs.map rowD)
  | [], [], _ => .nil
  | _ :: _, r :: _, ⟨⟨p, e, h⟩, g⟩ => by
    subst e
    exact .cons (.tup (SqT.of h) (dp_ints r)) (dp_rows g)
  | [], _ :: _, h => h.elim
  | _ :: _, [], h => h.elim
theorem lay_rows : ∀ rs : List (List Int), PyData.canLayAll0 (rs.map rowD) = true
  | [] => rfl
  | r :: rs => by
    show (PyData.canLay0 (rowD r) && PyData.canLayAll0 (rs.map rowD)) = true
    rw [lay_rows rs]
    show (PyData.canLay0 (.tuple (r.map PyData.int)) && true) = true
    unfold PyData.canLay0
    rw [lay_ints]
    rfl
theorem dep_rows : ∀ rs : List (List Int), PyData.depthAll (rs.map rowD) ≤ 2
  | [] => Nat.zero_le _
  | r :: rs => by
    show max (PyData.depth (rowD r)) (PyData.depthAll (rs.map rowD)) ≤ 2
    have h1 : PyData.depth (rowD r) ≤ 2 := by
      unfold rowD PyData.depth
      have := dep_ints r
      omega
    have := dep_rows rs
    omega
theorem shp_rows (rs : List (List Int)) : SeqAt.shaped (.list (rs.map rowD)) = true := by
  unfold SeqAt.shaped
  rw [Bool.and_eq_true]
  refine ⟨?_, decide_eq_true ?_⟩
  · unfold PyData.canLay0
    exact lay_rows rs
  · unfold PyData.depth
    have := dep_rows rs
    omega
theorem eqv_rows : ∀ xs ys : List (List Int), PyData.eqvAll (xs.map rowD) (ys.map rowD) = decide (xs = ys)
  | [], [] => by rw [decide_eq_true rfl]; rfl
  | [], y :: ys => by rw [decide_eq_false (by intro h; cases h)]; rfl
  | x :: xs, [] => by rw [decide_eq_false (by intro h; cases h)]; rfl
  | x :: xs, y :: ys => by
    show (PyData.eqv (rowD x) (rowD y) && PyData.eqvAll (xs.map rowD) (ys.map rowD)) = _
    rw [eqv_rows xs ys, show PyData.eqv (rowD x) (rowD y) = decide (x = y) from eqvT x y]
    by_cases h : x = y
    · subst h
      by_cases h2 : xs = ys
      · subst h2
        rw [decide_eq_true rfl, decide_eq_true rfl, decide_eq_true rfl]
        rfl
      · rw [decide_eq_false h2, decide_eq_false (fun z => h2 (List.cons.inj z).2), Bool.and_false]
    · rw [decide_eq_false h, decide_eq_false (fun z => h (List.cons.inj z).1), Bool.false_and]
theorem eqvR (xs ys : List (List Int)) : PyData.eqv (.list (xs.map rowD)) (.list (ys.map rowD)) = decide (xs = ys) := by
  unfold PyData.eqv
  exact eqv_rows xs ys
theorem r_neR {K : PySem.W.Frag} {H : Hp} {Q : VK} {p q : Addr} {xs ys : List (List Int)} (h : RwL H p xs) (h' : RwL H q ys) (k : Q (.bl (!decide (xs = ys))) H) : rNeD K (.ref p) (.ref q) H Q := by
  obtain ⟨vs, h1, h2⟩ := h
  obtain ⟨us, g1, g2⟩ := h'
  exact r_neD (.lst (SqL.of h1) (dp_rows h2)) (.lst (SqL.of g1) (dp_rows g2)) (shp_rows _) (shp_rows _) (by rw [eqvR]; exact k)
theorem r_eqR {K : PySem.W.Frag} {H : Hp} {Q : VK} {p q : Addr} {xs ys : List (List Int)} (h : RwL H p xs) (h' : RwL H q ys) (k : Q (.bl (decide (xs = ys))) H) : rEqD K (.ref p) (.ref q) H Q := by
  obtain ⟨vs, h1, h2⟩ := h
  obtain ⟨us, g1, g2⟩ := h'
  exact r_eqD (.lst (SqL.of h1) (dp_rows h2)) (.lst (SqL.of g1) (dp_rows g2)) (shp_rows _) (shp_rows _) (by rw [eqvR]; exact k)
/-- [e for v in a list], e pure, by places -/
theorem lc_lstI {K : PySem.W.Frag} {σ : L2.St} {H : Hp} {Q : VK} {te : TE} {a : Addr} {xs : List V} {j : Nat} {vs : List Nat} (f : Nat → V) (hx : SqL K H a xs) (hn : xs.length ≤ 100000) (hw : ∀ x, wipe ((wipe σ vs).set j (some x)) vs = wipe σ vs)
    (he : ∀ (i : Nat) x, xs[i]? = some x → PureE te ((wipe σ vs).set j (some x)) H (f i)) (k : ∀ p H1, H p = none → Ex H H1 → H1 p = some (.lst ((List.range xs.length).map f)) → Q (.ref p) H1) : LcB (Itl K a) (gName j) tYes te vs σ H Q := fun Dl hD => by
  refine lc_list (xs := xs) (fun i H' => Ex H H' ∧ H' Dl = some (.lst ((List.range i).map f))) ⟨Ex.new hD, upd_same⟩ (fun i H' _ p => sql_up p.1 hx) (fun i x H' hi p => ?_) (fun H' p => k Dl H' hD p.1 p.2)
  refine ⟨hw _, ?_⟩
  refine tYes_k ?_
  rw [if_pos rfl]
  have hl : i < xs.length := (List.getElem?_eq_some_iff.mp hi).1
  refine he i x hi H' p.1 _ fun H2 e2 => ⟨_, e2 _ _ p.2, ?_, ?_⟩
  · rw [List.length_map, List.length_range]
    exact len_lt (by omega)
  · refine ⟨fun a o ha => ?_, ?_⟩
    · rw [upd_ne (ne_of_none ha hD)]
      exact e2 _ _ (p.1 _ _ ha)
    · rw [upd_same, List.range_succ, List.map_append]
      rfl
def RowsZ (rs : List (List Int)) : Prop := ∀ r ∈ rs, ∃ n a b m s : Int, r = [n, a, b, m, s] ∧ 0 < m ∧ Sz 3300 n ∧ Sz 3300 a ∧ Sz 3300 b ∧ Sz 3300 m ∧ Sz 3300 s
theorem RowsZ.at {rs : List (List Int)} {i : Nat} {r : List Int} (h : RowsZ rs) (g : rs[i]? = some r) : ∃ n a b m s : Int, r = [n, a, b, m, s] ∧ 0 < m ∧ Sz 3300 n ∧ Sz 3300 a ∧ Sz 3300 b ∧ Sz 3300 m ∧ Sz 3300 s :=
  h r (List.mem_of_getElem? g)
def RowsY (rs : List (List Int)) : Prop := ∀ r ∈ rs, ∃ n a b m s : Int, r = [n, a, b, m, s] ∧ Sz 6900 n ∧ Sz 6900 a ∧ Sz 6900 b ∧ Sz 6900 m ∧ Sz 6900 s
theorem RowsY.at {rs : List (List Int)} {i : Nat} {r : List Int} (h : RowsY rs) (g : rs[i]? = some r) : ∃ n a b m s : Int, r = [n, a, b, m, s] ∧ Sz 6900 n ∧ Sz 6900 a ∧ Sz 6900 b ∧ Sz 6900 m ∧ Sz 6900 s :=
  h r (List.mem_of_getElem? g)
theorem RowsZ.y {rs : List (List Int)} (h : RowsZ rs) : RowsY rs := fun r hr => by
  obtain ⟨n, a, b, m, s, e, _, z1, z2, z3, z4, z5⟩ := h r hr
  exact ⟨n, a, b, m, s, e, z1.mono (by decide), z2.mono (by decide), z3.mono (by decide), z4.mono (by decide), z5.mono (by decide)⟩
theorem RowsZ.app {rs : List (List Int)} {n a b m s : Int} (h : RowsZ rs) (hm : 0 < m) (zn : Sz 3300 n) (za : Sz 3300 a) (zb : Sz 3300 b) (zm : Sz 3300 m) (zs : Sz 3300 s) : RowsZ (rs ++ [[n, a, b, m, s]]) := fun r hr => by
  rcases List.mem_append.mp hr with hr | hr
  · exact h r hr
  · rw [List.mem_singleton.mp hr]
    exact ⟨n, a, b, m, s, rfl, hm, zn, za, zb, zm, zs⟩
theorem Dr.lst {H : Hp} {d : Addr} (D : Dr H d) : ∃ xs, H d = some (.lst xs) := by
  obtain ⟨x, y, h, _⟩ := D
  exact ⟨_, h⟩
theorem Dr.kp {H H' : Hp} {d l : Addr} (D : Dr H d) (n : d ≠ l) (k : Kp l H H') : Dr H' d := by
  obtain ⟨x, y, h, r⟩ := D
  exact ⟨x, y, k _ _ n h, r⟩
/-- l fresh, then changed: all but d kept -/
theorem Kp.via {H H1 H2 : Hp} {d l : Addr} (k : Kp d H H1) (n : H l = none) (k2 : Kp l H1 H2) : Kp d H H2 := fun x o hx h => k2 x o (ne_of_none h n) (k x o hx h)
/-! the same within a comprehension -/
section
variable {X : Cx} {K : PySem.W.Frag}
theorem pg_tupK {es : List Expr} {k : Nat} {t : TGs} {n : Nat} {pos : Pos} (hc : X.calm = true) (h : PGs X es t) (hK : X.K = K := by rfl)
    (hn : (assignEach es X.env).length = n := by rfl) (hst : (assignEach es X.env).findIdx? (·.1) = none := by rfl) : PG X (.Tuple es k pos) (gTup K n t) := hK ▸ pg_tup hc h hn hst
theorem ix_listK (h : X.K = K := by rfl) : IxR X (rIxL K) := h ▸ ix_list
theorem ix_tupK (h : X.K = K := by rfl) : IxR X (rIxT K) := h ▸ ix_tup
theorem sl_tupAK (h : X.K = K := by rfl) : SlR X (rSlA K) := h ▸ sl_tupA
theorem sl_listK (h : X.K = K := by rfl) : SlR X (rSlL K) := h ▸ sl_list
theorem op_eqDK (hu : X.A.units + 64 < cLine) (h : X.K = K := by rfl) : OpR X (compareOp .Eq) (rEqD K) := h ▸ op_eqD hu
theorem op_neDK (hu : X.A.units + 64 < cLine) (h : X.K = K := by rfl) : OpR X (compareOp .NotEq) (rNeD K) := h ▸ op_neD hu
theorem op_in_seqK (h : X.K = K := by rfl) : OpR X (compareOp .In) (rIn K false) := h ▸ op_in_seq
theorem op_notIn_seqK (h : X.K = K := by rfl) : OpR X (compareOp .NotIn) (rIn K true) := h ▸ op_notIn_seq
theorem pi_listK {tg l : Expr} {tl : TE} (hl : PE X l tl) (h : X.K = K := by rfl) : PI X tg l (iList K tl) := h ▸ pi_list hl
theorem pi_tupK {tg l : Expr} {tl : TE} (hl : PE X l tl) (h : X.K = K := by rfl) : PI X tg l (iTup K tl) := h ▸ pi_tup hl
theorem cl_lenK (h : X.K = K := by rfl) : CallR X (.builtin "len") (rLen K) := h ▸ cl_len
theorem pe_bmK {o e : Expr} {es : List Expr} {to : TE} {t : TA} {name : Str} {apos cpos : Pos} {T id : String} {r : V → List V → Hp → VK → Prop} (pa : PlainAttrs T) (slot : Slot T name id) (hty : typeOf (.builtin id) = pure (.type "method_descriptor")) (hm : MtR X id r) (ho : PE X o to) (ha : PA X (e :: es) t)
    (h : X.K = K := by rfl)
    (hbase : attributeBase o name X.env (eval o X.env) = eval o X.env := by rfl)
    (hfew : ((backTo cpos (starEach (e :: es) X.env)).all (fun x => !x.1) && (backToKw cpos (keywordEach [] X.env)).all (fun x => x.1.isSome)
      && decide ((e :: es).length + ([] : List Keyword).length + (if ([] : List Keyword).isEmpty then 0 else 1) < 30)) = true := by rfl)
    (hline : (apos.endLine == cpos.line) = true := by rfl) (hs : starEach (e :: es) X.env = (false, eval e X.env) :: starEach es X.env := by rfl) (hplain : (backTo cpos (starEach es X.env)).any (·.1) = false := by rfl) :
    PE X (.Call (.Attribute o name apos) (e :: es) [] cpos) (tBM K T r to t) := h ▸ pe_bm pa slot hty hm ho ha hbase hfew hline hs hplain
end
/-- [.. for v in a tuple if t], t never -/
theorem lc_tupN {K : PySem.W.Frag} {σ : L2.St} {H : Hp} {Q : VK} {te : TE} {tt : TT} {a : Addr} {xs : List V} {j : Nat} {vs : List Nat} (hx : SqT K H a xs) (hw : ∀ x, wipe ((wipe σ vs).set j (some x)) vs = wipe σ vs)
    (ht : ∀ (i : Nat) x, xs[i]? = some x → PureT tt ((wipe σ vs).set j (some x)) H false) (k : ∀ p H1, H p = none → Ex H H1 → H1 p = some (.lst []) → Q (.ref p) H1) : LcB (Itt K a) (gName j) tt te vs σ H Q := fun Dl hD => by
  refine lc_tup (xs := xs) (fun i H' => Ex H H' ∧ H' Dl = some (.lst [])) ⟨Ex.new hD, upd_same⟩ (fun i H' _ p => sqt_up p.1 hx) (fun i x H' hi p => ?_) (fun H' p => k Dl H' hD p.1 p.2)
  refine ⟨hw _, ht i x hi H' p.1 _ fun H2 e2 => ?_⟩
  rw [if_neg Bool.false_ne_true]
  exact ⟨p.1.trans e2, e2 _ _ p.2⟩
theorem sz_n {n : Int} (h0 : 0 ≤ n) (h1 : n < 1000000000000000000000000000000) : Sz 110 n := by
  show n.natAbs < 2 ^ 110
  omega
/-- values that are rows of five numbers -/
def RY (k : Nat) (H : Hp) (vs : List V) : Prop := ∀ v ∈ vs, ∃ (p : Addr) (n a b m s : Int), v = .ref p ∧ H p = some (.tup [.int n, .int a, .int b, .int m, .int s]) ∧ Sz k n ∧ Sz k a ∧ Sz k b ∧ Sz k m ∧ Sz k s
theorem RY.imp {k : Nat} {H H' : Hp} {vs : List V} (h : RY k H vs) (f : ∀ (p : Addr) (xs : List V), H p = some (.tup xs) → H' p = some (.tup xs)) : RY k H' vs := fun v hv => by
  obtain ⟨p, n, a, b, m, s, e, hp, z⟩ := h v hv
  exact ⟨p, n, a, b, m, s, e, f _ _ hp, z⟩
theorem RY.ex {k : Nat} {H H' : Hp} {vs : List V} (h : RY k H vs) (e : Ex H H') : RY k H' vs := h.imp fun p _ q => e p _ q
theorem RY.kp {k : Nat} {H H' : Hp} {d : Addr} {vs : List V} (h : RY k H vs) (kp : Kp d H H') (D : Dr H d) : RY k H' vs := h.imp fun _ _ q => kp.tup D q
theorem RY.kpL {k : Nat} {H H' : Hp} {d : Addr} {vs ys : List V} (h : RY k H vs) (kp : Kp d H H') (D : H d = some (.lst ys)) : RY k H' vs := h.imp fun _ _ q => kp.tupL D q
theorem RY.sub {k : Nat} {H : Hp} {vs us : List V} (h : RY k H vs) (f : ∀ v ∈ us, v ∈ vs) : RY k H us := fun v hv => h v (f v hv)
theorem RY.app {k : Nat} {H : Hp} {vs us : List V} (h : RY k H vs) (h' : RY k H us) : RY k H (vs ++ us) := fun v hv => (List.mem_append.mp hv).elim (h v) (h' v)
theorem RY.rows {H : Hp} : ∀ {vs : List V}, RY 6900 H vs → ∃ rs, RowsA H vs rs ∧ RowsY rs
  | [], _ => ⟨[], trivial, fun _ h => by cases h⟩
  | v :: vs, h => by
    obtain ⟨rs, h1, h2⟩ := RY.rows (H := H) (vs := vs) fun u hu => h u (List.mem_cons_of_mem _ hu)
    obtain ⟨p, n, a, b, m, s, e, hp, z⟩ := h v (List.mem_cons_self ..)
    refine ⟨[n, a, b, m, s] :: rs, ⟨⟨p, e, hp⟩, h1⟩, fun r hr => ?_⟩
    rcases List.mem_cons.mp hr with hr | hr
    · exact ⟨n, a, b, m, s, hr, z⟩
    · exact h2 r hr
theorem RowsA.ry {H : Hp} : ∀ {vs : List V} {rs : List (List Int)}, RowsA H vs rs → RowsZ rs → RY 3300 H vs
  | [], [], _, _ => fun _ h => by cases h
  | v :: vs, r :: rs, ⟨⟨p, e, hp⟩, h⟩, z => fun u hu => by
    rcases List.mem_cons.mp hu with hu | hu
    · obtain ⟨n, a, b, m, s, er, _, z'⟩ := z r (List.mem_cons_self ..)
      subst er
      exact ⟨p, n, a, b, m, s, hu.trans e, hp, z'⟩
    · exact RowsA.ry h (fun r hr => z r (List.mem_cons_of_mem _ hr)) u hu
  | [], _ :: _, h, _ => h.elim
  | _ :: _, [], h, _ => h.elim
theorem RY.mono {k j : Nat} {H : Hp} {vs : List V} (h : RY k H vs) (l : k ≤ j) : RY j H vs := fun v hv => by
  obtain ⟨p, n, a, b, m, s, e, hp, z1, z2, z3, z4, z5⟩ := h v hv
  exact ⟨p, n, a, b, m, s, e, hp, z1.mono l, z2.mono l, z3.mono l, z4.mono l, z5.mono l⟩
/-- a paper by a value -/
def PpV (H : Hp) (d : Addr) (v : V) : Prop := ∃ (l : Addr) (vs : List V), v = .ref l ∧ l ≠ d ∧ H l = some (.lst vs) ∧ RY 6900 H vs ∧ vs.length ≤ 6000
theorem PpV.ex {H H' : Hp} {d : Addr} {v : V} (h : PpV H d v) (e : Ex H H') : PpV H' d v := by
  obtain ⟨l, vs, e1, n, h1, h2, h3⟩ := h
  exact ⟨l, vs, e1, n, e _ _ h1, h2.ex e, h3⟩
theorem PpV.kp {H H' : Hp} {d : Addr} {v : V} (h : PpV H d v) (k : Kp d H H') (D : Dr H d) : PpV H' d v := by
  obtain ⟨l, vs, e1, n, h1, h2, h3⟩ := h
  exact ⟨l, vs, e1, n, k _ _ n h1, h2.kp k D, h3⟩
theorem PpV.kpL {H H' : Hp} {d q : Addr} {v : V} {ys : List V} (h : PpV H d v) (k : Kp q H H') (D : H q = some (.lst ys)) (n : v ≠ .ref q) : PpV H' d v := by
  obtain ⟨l, vs, e1, nd, h1, h2, h3⟩ := h
  exact ⟨l, vs, e1, nd, k _ _ (fun z => n (by rw [e1, z])) h1, h2.kpL k D, h3⟩
theorem r_sum {K : PySem.W.Frag} {H : Hp} {Q : VK} {p : Addr} {ns : List Int} (h : SqL K H p (ns.map V.int)) (k : Q (.int ns.sum) H) : rSum K [.ref p] H Q := ⟨p, ns, rfl, h, k⟩
theorem r_tyS {K : PySem.W.Frag} {H : Hp} {z : Str} {R : Prop} (k : R) : tyV K "str" (.str z) H ∧ R := ⟨rfl, k⟩
/-- sep.join(a list of texts) -/
def rJoin (K : PySem.W.Frag) : V → List V → Hp → VK → Prop := fun x xs H Q => ∃ a p, ∃ ys : List Str, x = .str a ∧ xs = [.ref p] ∧ (SqL K H p (ys.map V.str) ∨ SqT K H p (ys.map V.str)) ∧ (ys.map (·.length)).sum + ys.length * a.length ≤ 16777216 ∧ Q (.str (Txt.join a ys)) H
theorem mt_joinR {X : Cx} : MtR X "str.join" (rJoin X.K) := mt_join
theorem mt_joinRK {X : Cx} {K : PySem.W.Frag} (h : X.K = K := by rfl) : MtR X "str.join" (rJoin K) := h ▸ mt_joinR
theorem r_join {K : PySem.W.Frag} {H : Hp} {Q : VK} {a : Str} {p : Addr} {ys : List Str} (h : SqL K H p (ys.map V.str)) (n : (ys.map (·.length)).sum + ys.length * a.length ≤ 16777216) (k : Q (.str (Txt.join a ys)) H) : rJoin K (.str a) [.ref p] H Q := ⟨a, p, ys, rfl, rfl, .inl h, n, k⟩
theorem r_iZip {K : PySem.W.Frag} {ta : TA} {σ : L2.St} {H : Hp} {R : It → Hp → Prop} (k : ta σ H fun vs H1 => ∃ a b xs ys, vs = [.ref a, .ref b] ∧ SqL K H1 a xs ∧ SqL K H1 b ys ∧ R (Itz K a b) H1) : iZip K ta σ H R := k
/-- [e for x, y in zip(two lists of whole numbers)] -/
theorem lc_zipI {K : PySem.W.Frag} {σ : L2.St} {H : Hp} {Q : VK} {te : TE} {a b : Addr} {xs ys : List Int} {j1 j2 : Nat} {vs : List Nat} (f : Int → Int → V) (ha : SqL K H a (xs.map V.int)) (hb : SqL K H b (ys.map V.int)) (hn : xs.length ≤ 100000)
    (hw : ∀ x y, wipe (((wipe σ vs).set j1 (some x)).set j2 (some y)) vs = wipe σ vs)
    (he : ∀ (i : Nat) x y, xs[i]? = some x → ys[i]? = some y → PureE te (((wipe σ vs).set j1 (some (.int x))).set j2 (some (.int y))) H (f x y))
    (k : ∀ p H1, H p = none → Ex H H1 → H1 p = some (.lst ((xs.zip ys).map fun q => f q.1 q.2)) → Q (.ref p) H1) : LcB (Itz K a b) (gTup K 2 (gCons (gName j1) (gCons (gName j2) gNil))) tYes te vs σ H Q := fun Dl hD => by
  have lz : (xs.zip ys).length = min xs.length ys.length := List.length_zip
  refine ⟨fun i m H' => m = (xs.zip ys).length - i ∧ i ≤ (xs.zip ys).length ∧ Ex H H' ∧ H' Dl = some (.lst (((xs.zip ys).take i).map fun q => f q.1 q.2)), ⟨_, rfl, Nat.zero_le _, Ex.new hD, by rw [upd_same]; rfl⟩, ?_⟩
  rintro i m H' ⟨rfl, hi, e, hd⟩
  by_cases hx : i = (xs.zip ys).length
  · subst hx
    refine .inl ⟨⟨_, _, sql_up e ha, sql_up e hb, by rw [List.length_map, List.length_map]; omega⟩, ?_⟩
    rw [List.take_length] at hd
    exact k Dl H' hD e hd
  · have h1 : i < xs.length := by omega
    have h2 : i < ys.length := by omega
    have g1 : (xs.map V.int)[i]? = some (.int xs[i]) := by rw [List.getElem?_map, List.getElem?_eq_getElem h1]; rfl
    have g2 : (ys.map V.int)[i]? = some (.int ys[i]) := by rw [List.getElem?_map, List.getElem?_eq_getElem h2]; rfl
    have gz : (xs.zip ys)[i]? = some (xs[i], ys[i]) := by
      rw [List.getElem?_eq_getElem (by omega), List.getElem_zip]
    refine .inr ⟨⟨_, _, _, _, sql_up e ha, sql_up e hb, g1, g2⟩, fun H3 => Ex H H3 ∧ H3 Dl = some (.lst (((xs.zip ys).take (i + 1)).map fun q => f q.1 q.2)), fun H3 p => ⟨(xs.zip ys).length - (i + 1), by omega, rfl, by omega, p⟩, ?_⟩
    rintro x H2 ⟨T, x1, y1, rfl, hT, rfl, q1, q2⟩
    have e1 : x1 = .int xs[i] := Option.some.inj ((q1 _ (sql_up e ha)).symm.trans g1)
    have e2 : y1 = .int ys[i] := Option.some.inj ((q2 _ (sql_up e hb)).symm.trans g2)
    subst e1 e2
    refine ⟨T, _, rfl, SqT.of upd_same, rfl, _, _, rfl, _, _, rfl, rfl, hw _ _, ?_⟩
    have eT : Ex H' (upd H' T (.tup [.int xs[i], .int ys[i]])) := Ex.new hT
    refine tYes_k ?_
    rw [if_pos rfl]
    refine he i xs[i] ys[i] (List.getElem?_eq_getElem h1) (List.getElem?_eq_getElem h2) _ (e.trans eT) _ fun H4 e4 => ⟨_, e4 _ _ (eT _ _ hd), ?_, ?_⟩
    · rw [List.length_map, List.length_take]
      exact len_lt (by omega)
    · refine ⟨fun a o ho => ?_, ?_⟩
      · rw [upd_ne (ne_of_none ho hD)]
        exact e4 _ _ (eT _ _ (e _ _ ho))
      · rw [upd_same, List.take_add_one, gz, List.map_append]
        rfl
theorem cut_1 (xs : List V) (h : 1 ≤ xs.length) : cutV xs (some 1) none = xs.drop 1 := by
  have e1 : HT.sIx xs.length 0 (some 1) = 1 := by
    unfold HT.sIx
    simp
    omega
  have e2 : HT.sIx xs.length xs.length none = xs.length := rfl
  unfold cutV
  rw [e1, e2, List.take_of_length_le (by rw [List.length_drop]; omega)]
/-- [e for x in a list of whole numbers if t] -/
theorem lc_lstFI {K : PySem.W.Frag} {σ : L2.St} {H : Hp} {Q : VK} {te : TE} {tt : TT} {a : Addr} {ns : List Int} {j : Nat} {vs : List Nat} (c : Int → Bool) (f : Int → V) (hx : SqL K H a (ns.map V.int)) (hn : ns.length ≤ 100000) (hw : ∀ x, wipe ((wipe σ vs).set j (some x)) vs = wipe σ vs)
    (ht : ∀ x ∈ ns, PureT tt ((wipe σ vs).set j (some (.int x))) H (c x)) (he : ∀ x ∈ ns, c x = true → PureE te ((wipe σ vs).set j (some (.int x))) H (f x))
    (k : ∀ p H1, H p = none → Ex H H1 → H1 p = some (.lst ((ns.filter c).map f)) → Q (.ref p) H1) : LcB (Itl K a) (gName j) tt te vs σ H Q := fun Dl hD => by
  refine lc_list (xs := ns.map V.int) (fun i H' => Ex H H' ∧ H' Dl = some (.lst (((ns.take i).filter c).map f))) ⟨Ex.new hD, upd_same⟩ (fun i H' _ p => sql_up p.1 hx) (fun i x H' hi p => ?_) (fun H' p => k Dl H' hD p.1 (by rw [p.2, List.length_map, List.take_length]))
  rw [List.getElem?_map] at hi
  obtain ⟨z, hz, rfl⟩ := Option.map_eq_some_iff.mp hi
  have mem := List.mem_of_getElem? hz
  have tk : ns.take (i + 1) = ns.take i ++ [z] := by rw [List.take_add_one, hz]; rfl
  refine ⟨hw _, ht z mem H' p.1 _ fun H2 e2 => ?_⟩
  cases hc : c z with
  | true =>
    rw [if_pos rfl]
    refine he z mem hc H2 (p.1.trans e2) _ fun H3 e3 => ⟨_, e3 _ _ (e2 _ _ p.2), ?_, ?_⟩
    · rw [List.length_map]
      have := List.length_filter_le c (ns.take i)
      rw [List.length_take] at this
      exact len_lt (by omega)
    · refine ⟨fun b o hb => ?_, ?_⟩
      · rw [upd_ne (ne_of_none hb hD)]
        exact e3 _ _ (e2 _ _ (p.1 _ _ hb))
      · rw [upd_same, tk, List.filter_append, List.map_append]
        simp [hc]
  | false =>
    rw [if_neg Bool.false_ne_true]
    refine ⟨p.1.trans e2, ?_⟩
    rw [tk, List.filter_append, List.map_append]
    simp [hc, e2 _ _ p.2]
/-! ### a def that calls itself: one frame a turn -/
structure RmD (j : Nat) (A : Around) : Prop where
  hd : A.handled = none
  dp : A.depth + j + 20 < recursionLimit
  un : A.units + 3 * j + 300 < cLine
theorem RmD.room {j : Nat} {A : Around} (r : RmD j A) : Room 5 A := ⟨r.hd, by have := r.dp; omega, by have := r.un; omega⟩
theorem RmD.deeper {j : Nat} {A : Around} (r : RmD (j + 1) A) (env : Env) : RmD j (A.deeper env) :=
  ⟨r.hd, by have := r.dp; show A.depth + 1 + j + 20 < _; omega, by have := r.un; show A.units + 3 + 3 * j + 300 < _; omega⟩
theorem RmD.of {k j : Nat} {A : Around} (r : Room k A) (h : j + 40 ≤ 3 * k) : RmD j A := ⟨r.hd, by have := r.dp; omega, by have := r.un; omega⟩
/-- the def named x keeps the promise sp where there is room for j turns -/
def HasD (P : Program) (w : World) (K : PySem.W.Frag) (mg : Str → Option Value) (base : Heap) (j : Nat) (x : Str) (ps : List Str) (sp : Sp) : Prop :=
  ∃ f fd, mg x = some (.ref f) ∧ PySem.W.keepIn K (.ref f) = true ∧ Binds K fd ps [] ∧ (∀ vs H Q E, sp vs H Q E → vs.length = ps.length) ∧
    ∀ (A : Around) (outer : List Env) (s : Shared) (H : Hp) (args : Args) (us : List Value) (vs : List V) (Q : VK) (E : XK), RmD j A → Env0 P w K mg base A outer s H → BindsTo s fd args (ps.zip us) → Vals vs us → sp vs H Q E →
      codeAny (model P w) A (.call (.ref f) args) (CR CX0 outer P w H s Q E) s
section
variable {P : Program} {w : World} {K : PySem.W.Frag} {mg : Str → Option Value} {base : Heap}
theorem DefAt.okD {x : Str} {st : Stmt} {N ps : List Str} {j : Nat} {sp : Sp} (D : DefAt K mg x st ps) (S : FnScope N ps (defScope st)) (len : ∀ vs H Q E, sp vs H Q E → vs.length = ps.length)
    (hbody : ∀ (f : Addr) (cdv : Value) (A : Around) (outer : List Env) (s : Shared) (H : Hp) (vs : List V) (Q : VK) (E : XK), RmD j (A.deeper (envOfC x (defScope st) s.heap.objs.size f cdv)) → sp vs H Q E →
      ∃ t, PSs (cxOf CX0 P w K mg base N x (defScope st) f cdv A outer s H E).nox (defBody st) t ∧ t { nx := fun _ H' => Q .non H', rt := Q } (start N vs) H) : HasD P w K mg base (j + 1) x ps sp := by
  obtain ⟨f, fd, F, m, b⟩ := D
  refine ⟨f, fd, m, F.kp, b, len, fun A outer s H args us vs Q E rm e0 hb rv hs => ?_⟩
  obtain ⟨_, _, _, _, _, _, cdv, _, _, rfl, lk, cd⟩ := F.ex
  have grown : ∀ (a : Addr) (o : Obj), base.get? a = some o → s.heap.get? a = some o := fun a o h => (e0.bs a o h).1
  have locals : ∀ y ∈ ps.zip us, (defScope st).names.lookup y.1 = some .local ∨ ((defScope st).names.lookup y.1 = some .cell ∧ ((cellsFrom (s.heap.objs.size + 1) (defScope st).names []).lookup y.1).isSome = true) := by
    rintro ⟨y, u⟩ hy
    exact (S.par y (List.of_mem_zip hy).1).imp id fun c => ⟨c, PySem.W.cellsFrom_some _ _ _ (.inl c)⟩
  refine codeAny_call_function (by have := rm.dp; omega) (e0.mod.kin.keeps grown _ _ lk) rfl S.co S.gen rfl (PySem.W.codeRec_of (e0.mod.kin.keeps grown) cd) (hb _ _ _ _ ?_)
  refine wpAny_newFunctionEnv_cells S.kind locals ?_
  rintro env rfl s1 ic
  refine ⟨(e0.mod.nolimit.keeps grown).keeps ic.toInCall.keep, codeAny_func ?_⟩
  obtain ⟨t, ht, hq⟩ := hbody f cdv A outer s H vs Q E (rm.deeper _) hs
  refine wpAny_mono (ht.nox.run [] s1 (start N vs) H _ (inv_start S rm.hd e0 (len _ _ _ _ hs) rv ic) hq) (fun fl s' h => ?_) fun _ _ h => h
  cases fl with
  | ret u =>
    obtain ⟨v, _, H', J, r, q⟩ := h
    exact ⟨v, H', J.os, J.bare, J.base, J.hok, r, q⟩
  | next =>
    obtain ⟨_, H', J, q⟩ := h
    exact ⟨.non, H', J.os, J.bare, J.base, J.hok, rfl, q⟩
  | brk =>
    obtain ⟨_, _, _, q⟩ := h
    exact q.elim
  | cont =>
    obtain ⟨_, _, _, q⟩ := h
    exact q.elim
/-- nothing is promised of what never is -/
theorem DefAt.none {x : Str} {st : Stmt} {ps : List Str} {j : Nat} {sp : Sp} (D : DefAt K mg x st ps) (no : ∀ vs H Q E, ¬ sp vs H Q E) : HasD P w K mg base j x ps sp := by
  obtain ⟨f, fd, F, m, b⟩ := D
  exact ⟨f, fd, m, F.kp, b, fun _ _ _ _ h => (no _ _ _ _ h).elim, fun _ _ _ _ _ _ _ _ _ _ _ _ _ h => (no _ _ _ _ h).elim⟩
theorem HasD.has {x : Str} {ps : List Str} {j k : Nat} {sp : Sp} (G : HasD P w K mg base j x ps sp) (h : j + 40 ≤ 3 * k) : Has P w K mg base CX0 k x ps sp := by
  obtain ⟨f, fd, m, kp, b, len, r⟩ := G
  exact ⟨f, fd, m, kp, b, len, fun A outer s H args us vs Q E hr => r A outer s H args us vs Q E (.of hr h)⟩
end
section
variable {X : Cx} {x : Str} {p pos : Pos} {e : Expr} {es : List Expr} {t : TA} {j : Nat} {ps : List Str} {sp : Sp}
/-- f(e, ..), f itself -/
theorem pcallD (G : HasD X.prog X.w X.K X.mg X.base j x ps sp) (rm : RmD j X.A) (ha : PA X (e :: es) t) (hg : Gl X x := by rfl)
    (hdb : (x == ("__debug__" : Str)) = false := by decide) (he : starEach (e :: es) X.env = (false, eval e X.env) :: starEach es X.env := by rfl) (hpl : (backTo pos (starEach es X.env)).any (·.1) = false := by rfl) :
    PE X (.Call (.Name x p) (e :: es) [] pos) (tCal sp E0 t) := by
  obtain ⟨f, fd, m, kp, b, len, run⟩ := G
  refine ⟨fun pins s σ H Q I h => wpAny_Call_Name_kw (ld_glob I hg m ?_ hdb)⟩
  have h' : t σ H fun vs H1 => sp vs H1 Q E0 := h
  refine PySem.W.callWith_K (h₀ := X.base) I.ok.mod.kin kp (thn (ha.run pos pins s σ H _ I h') fun us s1 ⟨vs, H1, I1, rv, q⟩ => ⟨I1.kIn, ?_⟩) he hpl
  have hu : us.length = ps.length := by rw [← rv.length]; exact len _ _ _ _ q
  have hb := b s1 us I1.kIn (by rw [List.append_nil]; exact hu)
  rw [List.append_nil] at hb
  refine wpAny_call (codeAny_mono (run X.A X.stack s1 H1 ⟨us, []⟩ us vs Q E0 rm I1.env0 hb rv q) fun r s2 hr => ?_)
  match r, hr with
  | .error err, hr => exact pass0 pins σ H1 s1 err s2 I1 hr
  | .ok (.ret u), hr => exact I1.after hr
  | .ok .next, hr => exact hr.elim
  | .ok .brk, hr => exact hr.elim
  | .ok .cont, hr => exact hr.elim
end
/-- a tuple of the module -/
def TupC (K : PySem.W.Frag) (mg : Str → Option Value) (x : Str) (a : Addr) (xs : List V) : Prop := mg x = some (.ref a) ∧ ∀ H, SqT K H a xs
theorem sqt_k {K : PySem.W.Frag} {H : Hp} {a : Addr} {xs : List V} {od : Option Addr} {it : Array Value} {n : Nat} {sl : Array (Option Value)} (L : K.lookup a = some ⟨.type "tuple", od, .seq it n, sl⟩) (v : Vals xs it.toList) (z : it.size ≤ sizeLine) : SqT K H a xs := .inr ⟨_, it, n, L, rfl, rfl, z, v⟩
def rTupOf (K : PySem.W.Frag) : List V → Hp → VK → Prop := fun xs H Q => ∃ p ys, xs = [.ref p] ∧ ((SqL K H p ys ∧ ∀ l, H l = none → Q (.ref l) (upd H l (.tup ys))) ∨ (SqT K H p ys ∧ Q (.ref p) H))
theorem cl_tupOf {X : Cx} : CallR X (.type "tuple") (rTupOf X.K) := call_tuple_of
theorem cl_tupOfK {X : Cx} {K : PySem.W.Frag} (h : X.K = K := by rfl) : CallR X (.type "tuple") (rTupOf K) := h ▸ cl_tupOf
theorem r_tupL {K : PySem.W.Frag} {H : Hp} {Q : VK} {p : Addr} {ys : List V} (h : SqL K H p ys) (k : ∀ l H1, H l = none → Ex H H1 → H1 l = some (.tup ys) → Q (.ref l) H1) : rTupOf K [.ref p] H Q :=
  ⟨p, ys, rfl, .inl ⟨h, fun l n => k l _ n (Ex.new n) upd_same⟩⟩
def ZipAs (K : PySem.W.Frag) (R : It → Hp → Prop) (vs : List V) (H1 : Hp) : Prop := ∃ a b xs ys, vs = [.ref a, .ref b] ∧ ((SqL K H1 a xs ∧ SqL K H1 b ys ∧ R (Itz K a b) H1) ∨ (SqT K H1 a xs ∧ SqT K H1 b ys ∧ R (RZ.ItzT K a b) H1))
theorem r_zipT {K : PySem.W.Frag} {H : Hp} {R : It → Hp → Prop} {a b : Addr} {xs ys : List V} (ha : SqT K H a xs) (hb : SqT K H b ys) (k : R (RZ.ItzT K a b) H) : ZipAs K R [.ref a, .ref b] H := ⟨a, b, xs, ys, rfl, .inr ⟨ha, hb, k⟩⟩
theorem r_iZipA {K : PySem.W.Frag} {ta : TA} {σ : L2.St} {H : Hp} {R : It → Hp → Prop} (k : ta σ H fun vs H1 => ZipAs K R vs H1) : RZ.iZipA K ta σ H R := k
/-- [e for x, y in zip(two tuples of whole numbers)] -/
theorem lc_zipT {K : PySem.W.Frag} {σ : L2.St} {H : Hp} {Q : VK} {te : TE} {a b : Addr} {xs ys : List Int} {j1 j2 : Nat} {vs : List Nat} (f : Int → Int → V) (ha : SqT K H a (xs.map V.int)) (hb : SqT K H b (ys.map V.int)) (hn : xs.length ≤ 100000)
    (hw : ∀ x y, wipe (((wipe σ vs).set j1 (some x)).set j2 (some y)) vs = wipe σ vs)
    (he : ∀ (i : Nat) x y, xs[i]? = some x → ys[i]? = some y → PureE te (((wipe σ vs).set j1 (some (.int x))).set j2 (some (.int y))) H (f x y))
    (k : ∀ p H1, H p = none → Ex H H1 → H1 p = some (.lst ((xs.zip ys).map fun q => f q.1 q.2)) → Q (.ref p) H1) : LcB (RZ.ItzT K a b) (gTup K 2 (gCons (gName j1) (gCons (gName j2) gNil))) tYes te vs σ H Q := fun Dl hD => by
  have lz : (xs.zip ys).length = min xs.length ys.length := List.length_zip
  refine ⟨fun i m H' => m = (xs.zip ys).length - i ∧ i ≤ (xs.zip ys).length ∧ Ex H H' ∧ H' Dl = some (.lst (((xs.zip ys).take i).map fun q => f q.1 q.2)), ⟨_, rfl, Nat.zero_le _, Ex.new hD, by rw [upd_same]; rfl⟩, ?_⟩
  rintro i m H' ⟨rfl, hi, e, hd⟩
  by_cases hx : i = (xs.zip ys).length
  · subst hx
    refine .inl ⟨⟨_, _, sqt_up e ha, sqt_up e hb, by rw [List.length_map, List.length_map]; omega⟩, ?_⟩
    rw [List.take_length] at hd
    exact k Dl H' hD e hd
  · have h1 : i < xs.length := by omega
    have h2 : i < ys.length := by omega
    have g1 : (xs.map V.int)[i]? = some (.int xs[i]) := by rw [List.getElem?_map, List.getElem?_eq_getElem h1]; rfl
    have g2 : (ys.map V.int)[i]? = some (.int ys[i]) := by rw [List.getElem?_map, List.getElem?_eq_getElem h2]; rfl
    have gz : (xs.zip ys)[i]? = some (xs[i], ys[i]) := by
      rw [List.getElem?_eq_getElem (by omega), List.getElem_zip]
    refine .inr ⟨⟨_, _, _, _, sqt_up e ha, sqt_up e hb, g1, g2⟩, fun H3 => Ex H H3 ∧ H3 Dl = some (.lst (((xs.zip ys).take (i + 1)).map fun q => f q.1 q.2)), fun H3 p => ⟨(xs.zip ys).length - (i + 1), by omega, rfl, by omega, p⟩, ?_⟩
    rintro x H2 ⟨T, x1, y1, rfl, hT, rfl, q1, q2⟩
    have e1 : x1 = .int xs[i] := Option.some.inj ((q1 _ (sqt_up e ha)).symm.trans g1)
    have e2 : y1 = .int ys[i] := Option.some.inj ((q2 _ (sqt_up e hb)).symm.trans g2)
    subst e1 e2
    refine ⟨T, _, rfl, SqT.of upd_same, rfl, _, _, rfl, _, _, rfl, rfl, hw _ _, ?_⟩
    have eT : Ex H' (upd H' T (.tup [.int xs[i], .int ys[i]])) := Ex.new hT
    refine tYes_k ?_
    rw [if_pos rfl]
    refine he i xs[i] ys[i] (List.getElem?_eq_getElem h1) (List.getElem?_eq_getElem h2) _ (e.trans eT) _ fun H4 e4 => ⟨_, e4 _ _ (eT _ _ hd), ?_, ?_⟩
    · rw [List.length_map, List.length_take]
      exact len_lt (by omega)
    · refine ⟨fun a o ho => ?_, ?_⟩
      · rw [upd_ne (ne_of_none ho hD)]
        exact e4 _ _ (eT _ _ (e _ _ ho))
      · rw [upd_same, List.take_add_one, gz, List.map_append]
        rfl
theorem r_neT2 {K : PySem.W.Frag} {H : Hp} {Q : VK} {p q : Addr} {a b a' b' : Int} (h : H p = some (.tup [.int a, .int b])) (h' : H q = some (.tup [.int a', .int b'])) (k : Q (.bl (!decide ([a, b] = [a', b']))) H) : rNeD K (.ref p) (.ref q) H Q :=
  r_neD (.tup (SqT.of h) (dp_ints [a, b])) (.tup (SqT.of h') (dp_ints [a', b'])) (shp_tup _) (shp_tup _) (by rw [eqvT]; exact k)
theorem r_eqT2 {K : PySem.W.Frag} {H : Hp} {Q : VK} {p q : Addr} {a b a' b' : Int} (h : H p = some (.tup [.int a, .int b])) (h' : H q = some (.tup [.int a', .int b'])) (k : Q (.bl (decide ([a, b] = [a', b']))) H) : rEqD K (.ref p) (.ref q) H Q :=
  r_eqD (.tup (SqT.of h) (dp_ints [a, b])) (.tup (SqT.of h') (dp_ints [a', b'])) (shp_tup _) (shp_tup _) (by rw [eqvT]; exact k)
/-- a comprehension within a comprehension -/
theorem blkN {N : List Str} {q : Str} {sc scope0 scope : Scope} {n f : Addr} {cd : Value} {own : List (Str × Nat)} (h : blkC N (relabel scope0 (envOfC "" sc 0 0 .none)) scope own = true) : BlkOk N (relabel scope0 (envOfC q sc n f cd)) scope own := blkOk_by (sc := relabel scope0 (envOfC "" sc 0 0 .none)) h
/-! ### classes -/
def NAs (K : PySem.W.Frag) (C : Addr) : List Str → Prop
  | [] => True
  | f :: fs => NoAttr K C f ∧ NAs K C fs
/-- the class x of the module, objects of it with the attributes fs -/
structure TxC (K : PySem.W.Frag) (mg : Str → Option Value) (x : Str) (C : Addr) (fs : List Str) : Prop where
  cl : Cls K C
  g : mg x = some (.ref C)
  na : NAs K C fs
def MetAt (K : PySem.W.Frag) (C : Addr) (m q : Str) (st : Stmt) (ps : List Str) : Prop := ∃ f fd, Fun K m q st f fd ∧ Meth K C m f ∧ Binds K fd ps []
def IniAt (K : PySem.W.Frag) (C : Addr) (q : Str) (st : Stmt) (ps : List Str) : Prop := ∃ f fd, Fun K "__init__" q st f fd ∧ Mk K C f ∧ Binds K fd ps []
def HasM (P : Program) (w : World) (K : PySem.W.Frag) (mg : Str → Option Value) (base : Heap) (CX : CXT) (k : Nat) (C : Addr) (m : Str) (ps : List Str) (sp : Sp) : Prop := ∃ f fd, Meth K C m f ∧ Binds K fd ps [] ∧ FnOk P w K mg base CX k f fd ps sp
def HasI (P : Program) (w : World) (K : PySem.W.Frag) (mg : Str → Option Value) (base : Heap) (CX : CXT) (k : Nat) (C : Addr) (ps : List Str) (sp : Sp) : Prop := ∃ f fd, Mk K C f ∧ Binds K fd ps [] ∧ FnOk P w K mg base CX k f fd ps sp
section
variable {P : Program} {w : World} {K : PySem.W.Frag} {mg : Str → Option Value} {base : Heap}
theorem met_mk {C : Addr} {m q : Str} {st : Stmt} {ps : List Str} {f : Addr} {oc : Value} {od an : Option Addr} {osl : Array (Option Value)} {kV doc pm cdv ct : Value}
    (a : PySem.W.findIn K (.ref C) m = some (some (.ref f))) (i : PySem.W.isFn K (.ref f) = true) (l : K.lookup f = some ⟨oc, od, .func (PySem.W.fnOf m q (defArgs st) (defBody st) (defScope st) .none kV doc pm an cdv ct), osl⟩)
    (c : PySem.W.codeIn K cdv q = true) (k : PySem.W.keepIn K (.ref f) = true)
    (b : ∀ (kV doc pm : Value) (an : Option Addr) (cdv ct : Value) (us : List Value), us.length = ps.length → bindArgs (PySem.W.fnOf m q (defArgs st) (defBody st) (defScope st) .none kV doc pm an cdv ct) ⟨us, []⟩ = pure (ps.zip us)) : MetAt K C m q st ps :=
  ⟨f, _, fun_mk l c k, ⟨a, i, k⟩, (fun_mk l c k).binds b⟩
theorem ini_mk {C : Addr} {q : Str} {st : Stmt} {ps : List Str} {f : Addr} {oc : Value} {od an : Option Addr} {osl : Array (Option Value)} {kV doc pm cdv ct : Value} (mk : PySem.W.makesIn K C = true) (kc : PySem.W.keepIn K (.ref C) = true)
    (a : PySem.W.findIn K (.ref C) "__init__" = some (some (.ref f))) (i : PySem.W.isFn K (.ref f) = true) (l : K.lookup f = some ⟨oc, od, .func (PySem.W.fnOf "__init__" q (defArgs st) (defBody st) (defScope st) .none kV doc pm an cdv ct), osl⟩)
    (c : PySem.W.codeIn K cdv q = true) (k : PySem.W.keepIn K (.ref f) = true)
    (b : ∀ (kV doc pm : Value) (an : Option Addr) (cdv ct : Value) (us : List Value), us.length = ps.length → bindArgs (PySem.W.fnOf "__init__" q (defArgs st) (defBody st) (defScope st) .none kV doc pm an cdv ct) ⟨us, []⟩ = pure (ps.zip us)) : IniAt K C q st ps :=
  ⟨f, _, fun_mk l c k, ⟨mk, a, i, kc⟩, (fun_mk l c k).binds b⟩
theorem MetAt.ok {C : Addr} {m q : Str} {st : Stmt} {N ps : List Str} {k : Nat} {sp : Sp} (D : MetAt K C m q st ps) (S : FnScope N ps (defScope st)) (len : ∀ vs H Q E, sp vs H Q E → vs.length = ps.length)
    (hbody : ∀ (f : Addr) (cdv : Value) (A : Around) (outer : List Env) (s : Shared) (H : Hp) (vs : List V) (Q : VK) (E : XK), Room k (A.deeper (envOfC q (defScope st) s.heap.objs.size f cdv)) → sp vs H Q E →
      ∃ t, PSs (cxOf CX0 P w K mg base N q (defScope st) f cdv A outer s H E).nox (defBody st) t ∧ t { nx := fun _ H' => Q .non H', rt := Q } (start N vs) H) : HasM P w K mg base CX0 (k + 1) C m ps sp := by
  obtain ⟨f, fd, F, m, b⟩ := D
  exact ⟨f, fd, m, b, F.ok S len fun cdv A outer s H vs Q E hr h => hbody f cdv A outer s H vs Q E hr h⟩
theorem IniAt.ok {C : Addr} {q : Str} {st : Stmt} {N ps : List Str} {k : Nat} {sp : Sp} (D : IniAt K C q st ps) (S : FnScope N ps (defScope st)) (len : ∀ vs H Q E, sp vs H Q E → vs.length = ps.length)
    (hbody : ∀ (f : Addr) (cdv : Value) (A : Around) (outer : List Env) (s : Shared) (H : Hp) (vs : List V) (Q : VK) (E : XK), Room k (A.deeper (envOfC q (defScope st) s.heap.objs.size f cdv)) → sp vs H Q E →
      ∃ t, PSs (cxOf CX0 P w K mg base N q (defScope st) f cdv A outer s H E).nox (defBody st) t ∧ t { nx := fun _ H' => Q .non H', rt := Q } (start N vs) H) : HasI P w K mg base CX0 (k + 1) C ps sp := by
  obtain ⟨f, fd, F, m, b⟩ := D
  exact ⟨f, fd, m, b, F.ok S len fun cdv A outer s H vs Q E hr h => hbody f cdv A outer s H vs Q E hr h⟩
end
/-- x is an object of the class at C without an attribute m -/
def MObj (C : Addr) (m : Str) (x : V) (H : Hp) (R : Prop) : Prop := ∃ a dx fs, x = .ref a ∧ H a = some (.ins C dx fs) ∧ fs.lookup m = none ∧ R
def tMC (C : Addr) (m : Str) (sp : Sp) (E : XK) (ta : TE) (t : TA) : TE := fun σ H Q => ta σ H fun x H1 => MObj C m x H1 (t σ H1 fun vs H2 => sp (x :: vs) H2 Q E)
/-- a new object of the class at C -/
def NewO (C : Addr) (R : Addr → Hp → Prop) (H : Hp) : Prop := ∀ x dx, H x = none → H dx = none → dx ≠ x → R x (upd (upd H dx (.own x)) x (.ins C dx []))
def tMkC (C : Addr) (sp : Sp) (E : XK) (t : TA) : TE := fun σ H Q => t σ H fun vs H1 => NewO C (fun x H2 => sp (.ref x :: vs) H2 (fun v H3 => v = .non ∧ Q (.ref x) H3) E) H1
theorem tMC_of {K : PySem.W.Frag} {C : Addr} {m : Str} {sp : Sp} {E : XK} {ta : TE} {t : TA} {σ : L2.St} {H : Hp} {Q : VK} (h : tMC C m sp E ta t σ H Q) : tMeth C m sp [] E ta t σ H Q := by
  have h' : ta σ H fun x H1 => ∃ a dx fs, x = .ref a ∧ H1 a = some (.ins C dx fs) ∧ fs.lookup m = none ∧ t σ H1 fun vs H2 => sp (x :: vs) H2 Q E := h
  show ta σ H fun x H1 => ∃ a dx fs, x = .ref a ∧ H1 a = some (.ins C dx fs) ∧ fs.lookup m = none ∧ t σ H1 fun vs H2 => sp (x :: (vs ++ [])) H2 Q E
  simp only [List.append_nil]
  exact h'
theorem tMkC_of {C : Addr} {sp : Sp} {E : XK} {t : TA} {σ : L2.St} {H : Hp} {Q : VK} (h : tMkC C sp E t σ H Q) : tMake C sp [] E t σ H Q := by
  have h' : t σ H fun vs H1 => ∀ x dx, H1 x = none → H1 dx = none → dx ≠ x → sp (.ref x :: vs) (upd (upd H1 dx (.own x)) x (.ins C dx [])) (fun v H2 => v = .non ∧ Q (.ref x) H2) E := h
  show t σ H fun vs H1 => ∀ x dx, H1 x = none → H1 dx = none → dx ≠ x → sp (.ref x :: (vs ++ [])) (upd (upd H1 dx (.own x)) x (.ins C dx [])) (fun v H2 => v = .non ∧ Q (.ref x) H2) E
  simp only [List.append_nil]
  exact h'
section
variable {X : Cx} {x m : Str} {C : Addr} {p pos apos : Pos} {o e : Expr} {es : List Expr} {ta : TE} {t : TA} {k : Nat} {ps : List Str} {sp : Sp} {pl : Sem Bool}
theorem pmeth (c : Cls X.K C) (G : HasM X.prog X.w X.K X.mg X.base CX0 k C m ps sp) (hr : Room k X.A) (ho : PE X o ta) (ha : PA X (e :: es) t)
    (hst : starEach (e :: es) X.env = (false, eval e X.env) :: starEach es X.env := by rfl) (hpl : (backTo pos (starEach es X.env)).any (·.1) = false := by rfl)
    (ht : eval (.Call (.Attribute o m apos) (e :: es) [] pos) X.env = (do
      let ov ← eval o X.env
      standAt apos.atName
      let (f, first) ← holding [ov] (getMethod ov m pl)
      callWith pos f first (backTo pos (starEach (e :: es) X.env)) (backToKw pos (keywordEach [] X.env))) := by rfl) :
    PE X (.Call (.Attribute o m apos) (e :: es) [] pos) (tMC C m sp E0 ta t) := by
  obtain ⟨f, fd, hm, b, F⟩ := G
  have q := pe_meth (pl := pl) (pos := pos) (apos := apos) ho c hm F hr b (dvs := []) .nil pass0 ha hst hpl ht
  exact ⟨fun pins s σ H Q I h => q.run pins s σ H Q I (tMC_of (K := X.K) h)⟩
theorem pmeth0 (c : Cls X.K C) (G : HasM X.prog X.w X.K X.mg X.base CX0 k C m ps sp) (hr : Room k X.A) (ho : PE X o ta)
    (ht : eval (.Call (.Attribute o m apos) [] [] pos) X.env = (do
      let ov ← eval o X.env
      standAt apos.atName
      let (f, first) ← holding [ov] (getMethod ov m pl)
      callWith pos f first (backTo pos (starEach [] X.env)) (backToKw pos (keywordEach [] X.env))) := by rfl) :
    PE X (.Call (.Attribute o m apos) [] [] pos) (tMC C m sp E0 ta tNil) := by
  obtain ⟨f, fd, hm, b, F⟩ := G
  have q := pe_meth0 (pl := pl) (pos := pos) (apos := apos) ho c hm F hr b (dvs := []) .nil pass0 ht
  exact ⟨fun pins s σ H Q I h => q.run pins s σ H Q I (tMC_of (K := X.K) h)⟩
theorem pmake (hm : X.mg x = some (.ref C)) (G : HasI X.prog X.w X.K X.mg X.base CX0 k C ps sp) (hr : Room (k + 1) X.A) (ha : PA X (e :: es) t) (hg : Gl X x := by rfl)
    (hdb : (x == ("__debug__" : Str)) = false := by decide) (he : starEach (e :: es) X.env = (false, eval e X.env) :: starEach es X.env := by rfl) (hpl : (backTo pos (starEach es X.env)).any (·.1) = false := by rfl) :
    PE X (.Call (.Name x p) (e :: es) [] pos) (tMkC C sp E0 t) := by
  obtain ⟨f, fd, M, b, F⟩ := G
  have q := pe_make (p := p) M F hr hg hm b (dvs := []) .nil pass0 ha hdb he hpl
  exact ⟨fun pins s σ H Q I h => q.run pins s σ H Q I (tMkC_of h)⟩
theorem pmake0 (hm : X.mg x = some (.ref C)) (G : HasI X.prog X.w X.K X.mg X.base CX0 k C ps sp) (hr : Room (k + 1) X.A) (hg : Gl X x := by rfl)
    (hdb : (x == ("__debug__" : Str)) = false := by decide) : PE X (.Call (.Name x p) [] [] pos) (tMkC C sp E0 tNil) := by
  obtain ⟨f, fd, M, b, F⟩ := G
  have q := pe_make0 (p := p) (pos := pos) M F hr hg hm b (dvs := []) .nil pass0 hdb
  exact ⟨fun pins s σ H Q I h => q.run pins s σ H Q I (tMkC_of h)⟩
end
def FldR (K : PySem.W.Frag) (f : Str) (x : V) (H : Hp) (Q : VK) : Prop := ∃ a C dx fs v, x = .ref a ∧ H a = some (.ins C dx fs) ∧ Cls K C ∧ NoAttr K C f ∧ fs.lookup f = some v ∧ Q v H
def FldW (K : PySem.W.Frag) (f : Str) (x y : V) (H : Hp) (R : Hp → Prop) : Prop := ∃ a C dx fs, x = .ref a ∧ H a = some (.ins C dx fs) ∧ Cls K C ∧ NoAttr K C f ∧ fs.length < 1000 ∧ R (upd H a (.ins C dx (putF f y fs)))
def FldA (K : PySem.W.Frag) (f : Str) (x : V) (H : Hp) (R : Addr → Addr → V → Prop) : Prop := ∃ a C dx fs v, x = .ref a ∧ H a = some (.ins C dx fs) ∧ Cls K C ∧ NoAttr K C f ∧ fs.lookup f = some v ∧ R a C v
def FldA2 (f : Str) (a C : Addr) (z : V) (H : Hp) (R : Hp → Prop) : Prop := ∃ dx fs, H a = some (.ins C dx fs) ∧ fs.length < 1000 ∧ R (upd H a (.ins C dx (putF f z fs)))
section
variable {K : PySem.W.Frag} {σ : L2.St} {H : Hp} {Q : VK} {ta tv : TE} {t : TA} {a C dx : Addr} {fs fs' : List (Str × V)} {f m : Str} {v y : V} {D : Ends} {sp : Sp} {E : XK} {R : Hp → Prop}
theorem r_meth (k : ta σ H fun x H1 => MObj C m x H1 (t σ H1 fun vs H2 => sp (x :: vs) H2 Q E)) : tMC C m sp E ta t σ H Q := k
theorem r_mobj {R : Prop} (h : H a = some (.ins C dx fs)) (l : fs.lookup m = none) (k : R) : MObj C m (.ref a) H R := ⟨a, dx, fs, rfl, h, l, k⟩
theorem r_make (k : t σ H fun vs H1 => NewO C (fun x H2 => sp (.ref x :: vs) H2 (fun v H3 => v = .non ∧ Q (.ref x) H3) E) H1) : tMkC C sp E t σ H Q := k
theorem r_newO {R : Addr → Hp → Prop} (k : ∀ x dx H', H x = none → Ex H H' → H' x = some (.ins C dx []) → R x H') : NewO C R H := fun x dx hx hd n => k x dx _ hx ((Ex.new hd).trans (Ex.new (by rw [upd_ne (Ne.symm n)]; exact hx))) upd_same
theorem r_fldE (k : ta σ H fun x H1 => FldR K f x H1 Q) : tFld K ta f σ H Q := k
theorem r_fld (h : H a = some (.ins C dx fs)) (c : Cls K C) (n : NoAttr K C f) (l : fs.lookup f = some v) (k : Q v H) : FldR K f (.ref a) H Q := ⟨a, C, dx, fs, v, rfl, h, c, n, l, k⟩
theorem r_fldS (k : tv σ H fun y H1 => ta σ H1 fun x H2 => FldW K f x y H2 (D.nx σ)) : sFld K ta tv f D σ H := k
theorem r_fldW (h : H a = some (.ins C dx fs)) (c : Cls K C) (n : NoAttr K C f) (l : fs.length < 1000) (e : putF f y fs = fs') (k : ∀ H', Kp a H H' → H' a = some (.ins C dx fs') → R H') : FldW K f (.ref a) y H R :=
  ⟨a, C, dx, fs, rfl, h, c, n, l, k _ Kp.upd (by rw [e]; exact upd_same)⟩
theorem r_fldAug {rd : V → V → Hp → VK → Prop} (k : ta σ H fun x H1 => FldA K f x H1 fun a C v => tv σ H1 fun y H2 => rd v y H2 fun z H3 => FldA2 f a C z H3 (D.nx σ)) : sFldAug K ta tv rd f D σ H := k
theorem r_fldA {R : Addr → Addr → V → Prop} (h : H a = some (.ins C dx fs)) (c : Cls K C) (n : NoAttr K C f) (l : fs.lookup f = some v) (k : R a C v) : FldA K f (.ref a) H R := ⟨a, C, dx, fs, v, rfl, h, c, n, l, k⟩
theorem r_fldA2 (h : H a = some (.ins C dx fs)) (l : fs.length < 1000) (e : putF f y fs = fs') (k : ∀ H', Kp a H H' → H' a = some (.ins C dx fs') → R H') : FldA2 f a C y H R := ⟨dx, fs, h, l, k _ Kp.upd (by rw [e]; exact upd_same)⟩
theorem r_rAdd {i j : Int} (k : Q (.int (i + j)) H) : rAdd (.int i) (.int j) H Q := ⟨i, j, rfl, rfl, k⟩
theorem r_rSub {i j : Int} (k : Q (.int (i - j)) H) : rSub (.int i) (.int j) H Q := ⟨i, j, rfl, rfl, k⟩
end
/-- all but what stands at some addresses is kept -/
def Kq (ds : List Addr) (H H' : Hp) : Prop := ∀ a o, a ∉ ds → H a = some o → H' a = some o
theorem Kq.trans {ds : List Addr} {H H1 H2 : Hp} (a : Kq ds H H1) (b : Kq ds H1 H2) : Kq ds H H2 := fun x o n h => b x o n (a x o n h)
theorem Ex.kq {ds : List Addr} {H H' : Hp} (e : Ex H H') : Kq ds H H' := fun a o _ h => e a o h
theorem Kp.kq {d : Addr} {ds : List Addr} {H H' : Hp} (k : Kp d H H') (h : d ∈ ds) : Kq ds H H' := fun a o n e => k a o (fun z => n (by rw [z]; exact h)) e
theorem Kq.refl {ds : List Addr} {H : Hp} : Kq ds H H := fun _ _ _ h => h
theorem rPop_is {l : Addr} {xs : List V} {y : V} {H : Hp} {Q : VK} (h : H l = some (.lst xs)) (e : xs[xs.length - 1]? = some y) (k : ∀ H', Kp l H H' → H' l = some (.lst xs.dropLast) → Q y H') : rPop (.ref l) [] H Q := ⟨l, xs, y, rfl, rfl, h, e, k _ Kp.upd upd_same⟩
theorem r_bm0 {K : PySem.W.Frag} {σ : L2.St} {H : Hp} {Q : VK} {ta : TE} {T : String} {r : V → List V → Hp → VK → Prop} (k : ta σ H fun x H1 => tyV K T x H1 ∧ r x [] H1 Q) : tBM0 K T r ta σ H Q := k
/-! flat data compared: whole numbers, texts, none -/
inductive Fd where
  | i (x : Int)
  | s (x : Str)
  | n
  deriving DecidableEq
def Fd.v : Fd → V
  | .i x => .int x
  | .s x => .str x
  | .n => .non
def Fd.d : Fd → PyData
  | .i x => .int x
  | .s x => .str x
  | .n => .none
theorem eqv_fd : ∀ x y : Fd, PyData.eqv x.d y.d = decide (x = y)
  | .i x, .i y => by
    show (x == y) = _
    by_cases h : x = y
    · subst h
      rw [beq_self_eq_true, decide_eq_true rfl]
    · rw [beq_eq_false_iff_ne.mpr h, decide_eq_false (fun z => h (Fd.i.inj z))]
  | .s x, .s y => by
    show (x == y) = _
    by_cases h : x = y
    · subst h
      rw [beq_self_eq_true, decide_eq_true rfl]
    · rw [beq_eq_false_iff_ne.mpr h, decide_eq_false (fun z => h (Fd.s.inj z))]
  | .n, .n => rfl
  | .i _, .s _ => rfl
  | .i _, .n => rfl
  | .s _, .i _ => rfl
  | .s _, .n => rfl
  | .n, .i _ => rfl
  | .n, .s _ => rfl
theorem eqv_fds : ∀ xs ys : List Fd, PyData.eqvAll (xs.map Fd.d) (ys.map Fd.d) = decide (xs = ys)
  | [], [] => by rw [decide_eq_true rfl]; rfl
  | [], y :: ys => by rw [decide_eq_false (by intro h; cases h)]; rfl
  | x :: xs, [] => by rw [decide_eq_false (by intro h; cases h)]; rfl
  | x :: xs, y :: ys => by
    show (PyData.eqv x.d y.d && PyData.eqvAll (xs.map Fd.d) (ys.map Fd.d)) = _
    rw [eqv_fds xs ys, eqv_fd x y]
    by_cases h : x = y
    · subst h
      by_cases h2 : xs = ys
      · subst h2
        rw [decide_eq_true rfl, decide_eq_true rfl, decide_eq_true rfl]
        rfl
      · rw [decide_eq_false h2, decide_eq_false (fun z => h2 (List.cons.inj z).2), Bool.and_false]
    · rw [decide_eq_false h, decide_eq_false (fun z => h (List.cons.inj z).1), Bool.false_and]
def Fd.ok : Fd → Bool
  | .s x => PyData.canLay0 (.str x)
  | _ => true
theorem lay_fds : ∀ xs : List Fd, xs.all Fd.ok = true → PyData.canLayAll0 (xs.map Fd.d) = true
  | [], _ => rfl
  | x :: xs, h => by
    rw [List.all_cons, Bool.and_eq_true] at h
    show (PyData.canLay0 x.d && PyData.canLayAll0 (xs.map Fd.d)) = true
    rw [lay_fds xs h.2, Bool.and_true]
    have h1 := h.1
    cases x with
    | i _ => rfl
    | s _ => exact h1
    | n => rfl
theorem dep_fds : ∀ xs : List Fd, PyData.depthAll (xs.map Fd.d) ≤ 1
  | [] => Nat.zero_le _
  | x :: xs => by
    show max (PyData.depth x.d) (PyData.depthAll (xs.map Fd.d)) ≤ 1
    have h1 : PyData.depth x.d ≤ 1 := by
      cases x <;> (unfold Fd.d PyData.depth; omega)
    have := dep_fds xs
    omega
theorem shp_fdT (xs : List Fd) (ok : xs.all Fd.ok = true) : SeqAt.shaped (.tuple (xs.map Fd.d)) = true := by
  unfold SeqAt.shaped
  rw [Bool.and_eq_true]
  refine ⟨?_, decide_eq_true ?_⟩
  · unfold PyData.canLay0
    exact lay_fds xs ok
  · unfold PyData.depth
    have := dep_fds xs
    omega
theorem dp_fds {K : PySem.W.Frag} {H : Hp} : ∀ xs : List Fd, DpAll K H (xs.map Fd.v) (xs.map Fd.d)
  | [] => .nil
  | .i x :: xs => .cons (.int x) (dp_fds xs)
  | .s x :: xs => .cons (.str x) (dp_fds xs)
  | .n :: xs => .cons .non (dp_fds xs)
theorem eqv_fdT (xs ys : List Fd) : PyData.eqv (.tuple (xs.map Fd.d)) (.tuple (ys.map Fd.d)) = decide (xs = ys) := by
  unfold PyData.eqv
  exact eqv_fds xs ys
theorem r_neF {K : PySem.W.Frag} {H : Hp} {Q : VK} {p q : Addr} {xs ys : List Fd} (h : SqT K H p (xs.map Fd.v)) (h' : SqT K H q (ys.map Fd.v)) (ok : xs.all Fd.ok = true) (ok' : ys.all Fd.ok = true) (k : Q (.bl (!decide (xs = ys))) H) : rNeD K (.ref p) (.ref q) H Q :=
  r_neD (.tup h (dp_fds xs)) (.tup h' (dp_fds ys)) (shp_fdT _ ok) (shp_fdT _ ok') (by rw [eqv_fdT]; exact k)
theorem r_eqF {K : PySem.W.Frag} {H : Hp} {Q : VK} {p q : Addr} {xs ys : List Fd} (h : SqT K H p (xs.map Fd.v)) (h' : SqT K H q (ys.map Fd.v)) (ok : xs.all Fd.ok = true) (ok' : ys.all Fd.ok = true) (k : Q (.bl (decide (xs = ys))) H) : rEqD K (.ref p) (.ref q) H Q :=
  r_eqD (.tup h (dp_fds xs)) (.tup h' (dp_fds ys)) (shp_fdT _ ok) (shp_fdT _ ok') (by rw [eqv_fdT]; exact k)
theorem at_lastI (fo : List Int) (k : Int) : atI ((fo ++ [k]).map V.int) (-1) = some (.int k) := by
  have hl : ((fo ++ [k]).map V.int).length = fo.length + 1 := by simp
  unfold atI ixN
  rw [if_neg (by decide), if_pos (by omega), hl]
  show ((fo ++ [k]).map V.int)[((-1 : Int) + ((fo.length + 1 : Nat) : Int)).toNat]? = some (.int k)
  rw [show ((-1 : Int) + ((fo.length + 1 : Nat) : Int)).toNat = fo.length by omega]
  simp
theorem ok_iS {x : Int} {z : Str} (h : PyData.canLay0 (.str z) = true := by decide +kernel) : [Fd.i x, Fd.s z].all Fd.ok = true := by
  show (true && (PyData.canLay0 (.str z) && true)) = true
  rw [h]
  rfl
theorem ok_nS {z : Str} (h : PyData.canLay0 (.str z) = true := by decide +kernel) : [Fd.n, Fd.s z].all Fd.ok = true := by
  show (true && (PyData.canLay0 (.str z) && true)) = true
  rw [h]
  rfl
theorem ok_SS {y z : Str} (h : PyData.canLay0 (.str y) = true := by decide +kernel) (h' : PyData.canLay0 (.str z) = true := by decide +kernel) : [Fd.s y, Fd.s z].all Fd.ok = true := by
  show (PyData.canLay0 (.str y) && (PyData.canLay0 (.str z) && true)) = true
  rw [h, h']
  rfl
theorem rPop_I {l : Addr} {fo : List Int} {k : Int} {H : Hp} {Q : VK} (h : H l = some (.lst ((fo ++ [k]).map V.int))) (q : ∀ H', Kp l H H' → H' l = some (.lst (fo.map V.int)) → Q (.int k) H') : rPop (.ref l) [] H Q :=
  rPop_is h (by simp) fun H' kp h' => q H' kp (by rw [h']; simp)
theorem at_last2 (fo : List Int) (k k' : Int) : atI ((fo ++ [k] ++ [k']).map V.int) (-2) = some (.int k) := by
  have hl : ((fo ++ [k] ++ [k']).map V.int).length = fo.length + 2 := by simp
  unfold atI ixN
  rw [if_neg (by decide), if_pos (by omega), hl]
  show ((fo ++ [k] ++ [k']).map V.int)[((-2 : Int) + ((fo.length + 2 : Nat) : Int)).toNat]? = some (.int k)
  rw [show ((-2 : Int) + ((fo.length + 2 : Nat) : Int)).toNat = fo.length by omega]
  simp
theorem at_0 {v : V} {vs : List V} : atI (v :: vs) 0 = some v := at_of (j := 0) rfl rfl
/-- o.f as a target -/
def gFld (K : PySem.W.Frag) (to : TE) (f : Str) : TG := fun v σ H Q => to σ H fun x H1 => FldW K f x v H1 (Q σ)
theorem pg_fld {X : Cx} {o : Expr} {f : Str} {pos : Pos} {to : TE} (ho : PE X o to) : PG X (.Attribute o f pos) (gFld X.K to f) := by
  refine ⟨fun pins s σ H v u Q I r h => ?_⟩
  rw [PySem.assign_Attribute]
  refine wpAny_bind (wpAny_holding (thn (ho.run pins s σ H _ I h) fun ov s1 ⟨x, H1, I1, r1, q1⟩ => ?_))
  obtain ⟨a, C, dx, fs, ex, ea, c, n, l, q⟩ := q1
  subst ex
  obtain rfl : ov = Value.ref a := r1
  refine wpAny_bind (wpAny_standAt (wpAny_bind (wpAny_holding (setattr_ok I1 ea c n l r fun s2 I2 => ?_))))
  exact wpAny_release ⟨σ, _, I2, q⟩
theorem r_gFld {K : PySem.W.Frag} {σ : L2.St} {H : Hp} {to : TE} {f : Str} {v : V} {Q : L2.St → Hp → Prop} (k : to σ H fun x H1 => FldW K f x v H1 (Q σ)) : gFld K to f v σ H Q := k
end Sd

namespace Sd
open PySem PySem.Spec PyProof.Rows L2
def topS (i : Nat) : Stmt := PySem.Challenge.pw_stairsum_k35_whole_points_moved.main.body.getD i (.Pass ⟨0, 0, 0, 0⟩)
local macro_rules | `(tactic| walk_at "pos") => `(tactic| first | assumption | decide | omega | fail "no step")
local macro_rules | `(tactic| walk_at "sz") => `(tactic| first
  | assumption
  | (with_reducible refine Sz.lit ?_; decide)
  | with_reducible exact Sz.b2
  | (with_reducible refine Sz.mul (n := ?n) (m := ?m) ?a ?b; (case a => walk_at "sz"); (case b => walk_at "sz"))
  | (with_reducible refine Sz.add (n := ?n) (m := ?m) ?a ?b; (case a => walk_at "sz"); (case b => walk_at "sz"))
  | (with_reducible refine Sz.sub (n := ?n) (m := ?m) ?a ?b; (case a => walk_at "sz"); (case b => walk_at "sz"))
  | (with_reducible refine Sz.neg (n := ?n) ?a; (case a => walk_at "sz"))
  | (with_reducible refine Sz.abs (n := ?n) ?a; (case a => walk_at "sz"))
  | (with_reducible refine Sz.div (n := ?n) ?a ?b; (case a => walk_at "sz"); (case b => walk_at "pos"))
  | (with_reducible refine Sz.mod (n := ?n) ?a ?b; (case a => walk_at "sz"); (case b => walk_at "pos"))
  | fail "no step")
local macro_rules | `(tactic| walk_at "mulW") => `(tactic| first
  | exact mulR ⟨by decide, by decide⟩
  | exact mulL ⟨by decide, by decide⟩
  | (refine mulX (n := ?n) (m := ?m) ?a ?b ?h; (case a => walk_at "sz"); (case b => walk_at "sz"); (case h => decide))
  | fail "no step")
local macro_rules | `(tactic| walk_at "divW") => `(tactic| (refine divW (n := ?n) ?p ?a ?h; (case p => walk_at "pos"); (case a => walk_at "sz"); (case h => decide)))
/- H a = some _ at the heap at hand -/
local macro_rules | `(tactic| walk_at "at") => `(tactic| first
  | assumption
  | (with_reducible refine Kp.tup (H := ?H) (d := ?d) ?k ?D ?_; (case k => assumption); (case D => assumption); walk_at "at")
  | (with_reducible refine Ex.at (H := ?H) ?k ?_; (case k => assumption); walk_at "at")
  | fail "no step")
local macro_rules | `(tactic| walk_at "sqt") => `(tactic| first
  | assumption
  | exact SqT.of (by walk_at "at")
  | (with_reducible refine sqt_kp (H := ?H) (d := ?d) ?k ?D ?_; (case k => assumption); (case D => assumption); walk_at "sqt")
  | (with_reducible refine sqt_up (H := ?H) ?k ?_; (case k => assumption); walk_at "sqt")
  | fail "no step")
local macro_rules | `(tactic| walk_at "sql") => `(tactic| first
  | assumption
  | exact SqL.of (by walk_at "at")
  | (with_reducible refine sql_up (H := ?H) ?k ?_; (case k => assumption); walk_at "sql")
  | fail "no step")
local macro_rules | `(tactic| walk_at "dec_f") => `(tactic| first
  | with_reducible rfl | with_reducible assumption
  | (with_reducible refine not_f ?_; walk_at "dec_t")
  | (with_reducible refine decide_eq_false ?_; first | with_reducible assumption | omega | (simp only [List.length_cons, List.length_nil]; omega))
  | fail "no step")
local macro_rules | `(tactic| walk_at "dec_t") => `(tactic| first
  | with_reducible rfl | with_reducible assumption
  | (with_reducible refine not_t ?_; walk_at "dec_f")
  | (with_reducible refine decide_eq_true ?_; first | with_reducible assumption | with_reducible rfl | omega | (simp only [List.length_cons, List.length_nil]; omega))
  | fail "no step")
local macro_rules | `(tactic| walk_at "sets") => `(tactic| first
  | with_reducible exact set_z
  | ((with_reducible refine set_s (l' := ?l) ?a); (case a => walk_at "sets"))
  | ((with_reducible refine set_in (e' := ?e) ?a ?b); (case a => walk_at "sets"); (case b => walk_at "sets"))
  | fail "no step")
local macro_rules | `(tactic| walk_at "lk") => `(tactic| fail "no step")
local macro_rules | `(tactic| walk_at "go1") => `(tactic| first
  | ((with_reducible refine r_nxS (l' := ?l) ?h ?_); (case h => walk_at "sets"))
  | with_reducible refine r_seq ?_
  | with_reducible refine r_asg ?_
  | ((with_reducible refine r_var (v := ?v) ?h ?_); (case h => exact rfl))
  | with_reducible refine r_c ?_
  | with_reducible refine r_nx ?_
  | with_reducible refine r_rt ?_
  | with_reducible refine r_op ?_
  | with_reducible refine r_cons ?_
  | with_reducible refine r_nil ?_
  | with_reducible refine r_cal ?_
  | with_reducible refine r_I0 ?_
  | ((with_reducible refine r_mul ?c ?_); (case c => walk_at "mulW"))
  | ((with_reducible refine r_div ?c ?_); (case c => walk_at "divW"))
  | ((with_reducible refine r_mod ?c ?_); (case c => walk_at "pos"))
  | with_reducible refine r_p6 ?_
  | with_reducible refine r_p18 ?_
  | with_reducible refine r_p29 ?_
  | with_reducible refine r_p30 ?_
  | with_reducible refine r_p60 ?_
  | with_reducible refine r_p15 ?_
  | with_reducible refine r_p24 ?_
  | ((with_reducible refine r_pow ?c ?_); (case c => exact ⟨by decide, by decide, by decide⟩))
  | with_reducible refine r_ifS ?_
  | with_reducible refine r_test ?_
  | with_reducible refine r_tB ?_
  | with_reducible refine r_bl ?_
  | with_reducible refine r_eqI ?_
  | with_reducible refine r_neI ?_
  | with_reducible refine r_not ?_
  | with_reducible refine r_and ?_
  | with_reducible refine r_or ?_
  | with_reducible refine r_notV ?_
  | with_reducible refine r_andV ?_
  | with_reducible refine r_orV ?_
  | with_reducible refine r_blV ?_
  | with_reducible refine r_chain ?_
  | with_reducible refine r_ret ?_
  | with_reducible refine r_retN ?_
  | with_reducible refine r_drop ?_
  | with_reducible refine r_next ?_
  | with_reducible refine r_un ?_
  | with_reducible refine r_U ?_
  | with_reducible refine r_tup ?_
  | with_reducible refine r_lst ?_
  | ((with_reducible refine r_newT ?l ?_); (case l => exact Nat.le_of_ble_eq_true rfl); intro _ _ _ _ _)
  | ((with_reducible refine r_newL ?l ?_); (case l => exact Nat.le_of_ble_eq_true rfl); intro _ _ _ _ _)
  | ((with_reducible refine r_ixT (xs := ?x) (v := ?v) ?h ?a ?_); (case h => walk_at "sqt"); (case a => exact rfl))
  | ((with_reducible refine r_ixL (xs := ?x) (v := ?v) ?h ?a ?_); (case h => walk_at "sql"); (case a => exact rfl))
  | with_reducible refine r_asgG ?_
  | ((with_reducible refine r_gTup (xs := ?x) ?h ?l ?_); (case h => walk_at "sqt"); (case l => exact rfl))
  | with_reducible refine r_gCons ?_
  | with_reducible refine r_gNil ?_
  | with_reducible refine r_gName ?_
  | with_reducible refine r_gSub ?_
  | with_reducible refine r_par ?_
  | with_reducible refine r_parE ?_
  | with_reducible refine r_par3 ?_
  | with_reducible refine r_parE3 ?_
  | ((with_reducible refine r_aug (i := ?i) ?h ?_); (case h => exact rfl))
  | with_reducible refine r_ipI ?_
  | with_reducible refine r_if ?_
  | with_reducible refine r_chain3 ?_
  | ((with_reducible refine r_gLst (xs := ?x) ?h ?l ?_); (case h => walk_at "sql"); (case l => exact rfl))
  | with_reducible refine r_CB ?_
  | with_reducible refine r_isII ?_
  | with_reducible refine r_isIB ?_
  | ((with_reducible refine r_isTT (xs := ?x) ?h ?_); (case h => walk_at "at"))
  | with_reducible refine r_tyS ?_
  | with_reducible refine r_isSS ?_
  | with_reducible refine r_iZip ?_
  | with_reducible refine r_iZipA ?_
  | ((with_reducible refine r_isLL (xs := ?x) ?h ?_); (case h => walk_at "at"))
  | ((with_reducible refine r_lenL (ys := ?x) ?h ?_); (case h => walk_at "sql"))
  | ((with_reducible refine r_lenT (ys := ?x) ?h ?_); (case h => walk_at "sqt"))
  | with_reducible refine r_abs ?_
  | with_reducible refine r_max2 ?_
  | with_reducible refine r_min2 ?_
  | with_reducible refine r_min3 ?_
  | with_reducible refine r_intI ?_
  | with_reducible refine r_intB ?_
  | with_reducible refine r_isBB ?_
  | with_reducible refine r_for ?_
  | ((with_reducible refine r_eqT3 (a := ?a) (b := ?b) (c := ?c) (a' := ?a') (b' := ?b') (c' := ?c') ?h ?h' ?_); (case h => walk_at "sqt"); (case h' => walk_at "sqt"))
  | ((with_reducible refine r_neT3 (a := ?a) (b := ?b) (c := ?c) (a' := ?a') (b' := ?b') (c' := ?c') ?h ?h' ?_); (case h => walk_at "sqt"); (case h' => walk_at "sqt"))
  | with_reducible refine r_notB ?_
  | with_reducible refine r_isB ?_
  | with_reducible refine r_bm ?_
  | ((with_reducible refine r_tyL (xs := ?x) ?h ?_); (case h => walk_at "sql"))
  | with_reducible refine r_sl ?_
  | with_reducible refine r_noP ?_
  | with_reducible refine r_part ?_
  | with_reducible refine r_partI ?_
  | ((with_reducible refine r_sl4 (a := ?a) (b := ?b) (c := ?c) (d := ?d) (e := ?e) ?h ?_); (case h => walk_at "sqt"); intro _ _ _ _ _)
  | ((with_reducible refine r_cat13 (x := ?x) (a := ?a) (b := ?b) (c := ?c) ?h ?h2 ?_); (case h => walk_at "sqt"); (case h2 => walk_at "sqt"); intro _ _ _ _ _)
  | ((with_reducible refine r_cat41 (x := ?x) (a := ?a) (b := ?b) (c := ?c) (y := ?y) ?h ?h2 ?_); (case h => walk_at "sqt"); (case h2 => walk_at "sqt"); intro _ _ _ _ _)
  | ((with_reducible refine r_neT4 (a := ?a) (b := ?b) (c := ?c) (d := ?d) (a' := ?a') (b' := ?b') (c' := ?c') (d' := ?d') ?h ?h' ?_); (case h => walk_at "sqt"); (case h' => walk_at "sqt"))
  | ((with_reducible refine r_listL (ys := ?y) ?h ?_); (case h => walk_at "sql"); intro _ _ _ _ _)
  | with_reducible refine r_rev ?_
  | with_reducible refine r_isNnI ?_
  | with_reducible refine r_isNnR ?_
  | with_reducible refine r_isNnN ?_
  | with_reducible refine r_notNnI ?_
  | with_reducible refine r_notNnR ?_
  | with_reducible refine r_notNnN ?_
  | with_reducible refine r_iRng1 ?_
  | with_reducible refine r_iRng2 ?_
  | with_reducible refine r_iList ?_
  | with_reducible refine r_iTup ?_
  | with_reducible refine r_lc ?_
  | ((with_reducible refine r_ItL (xs := ?x) ?h ?_); (case h => walk_at "sql"))
  | ((with_reducible refine r_ItT (xs := ?x) ?h ?_); (case h => walk_at "sqt"))
  | with_reducible refine r_fldE ?_
  | ((with_reducible refine r_fld (C := ?C) (dx := ?dx) (fs := ?fs) (v := ?v) ?h ?c ?n ?l ?_); (case h => walk_at "at"); (case c => assumption); (case n => assumption); (case l => walk_at "lk"))
  | with_reducible refine r_fldS ?_
  | with_reducible refine r_gFld ?_
  | with_reducible refine r_fldAug ?_
  | ((with_reducible refine r_fldA (C := ?C) (dx := ?dx) (fs := ?fs) (v := ?v) ?h ?c ?n ?l ?_); (case h => walk_at "at"); (case c => assumption); (case n => assumption); (case l => walk_at "lk"))
  | with_reducible refine r_rAdd ?_
  | with_reducible refine r_rSub ?_
  | with_reducible refine r_meth ?_
  | ((with_reducible refine r_mobj (dx := ?dx) (fs := ?fs) ?h ?l ?_); (case h => walk_at "at"); (case l => walk_at "lk"))
  | with_reducible refine r_make ?_
  | with_reducible refine r_bm0 ?_
  | ((with_reducible refine if_T ?h ?_); (case h => walk_at "dec_t"))
  | ((with_reducible refine if_F ?h ?_); (case h => walk_at "dec_f"))
  | fail "no step")
local macro_rules | `(tactic| walk_at "go") => `(tactic| repeat walk_at "go1")
local macro_rules | `(tactic| walk_at "szm") => `(tactic| (refine Sz.mono (n := ?n) ?a ?h; (case a => walk_at "sz"); (case h => decide)))
def sp_law_draws (K : PySem.W.Frag) : Sp := fun vs H Q _ => ∃ (a : Addr) (ns : List Int) (k : Int), vs = [.ref a, .int k] ∧ SqL K H a (ns.map V.int) ∧ 0 ≤ k ∧ k ≤ 1000 ∧ ∀ d H', H d = none → Ex H H' → Dr H' d → Q (.ref d) H'
theorem use_law_draws {K : PySem.W.Frag} {H : Hp} {Q : VK} {E : XK} {a : Addr} {ns : List Int} {k : Int} (h : SqL K H a (ns.map V.int)) (h0 : 0 ≤ k) (h1 : k ≤ 1000) (q : ∀ d H', H d = none → Ex H H' → Dr H' d → Q (.ref d) H') : sp_law_draws K [.ref a, .int k] H Q E := ⟨a, ns, k, rfl, h, h0, h1, q⟩
abbrev s_law_draws : Stmt := topS 24
abbrev nm_law_draws : List Str := ["script", "k", "cell"]
theorem sc_law_draws : FnScope nm_law_draws ["script", "k"] (defScope s_law_draws) := ⟨rfl, rfl, rfl, by decide +kernel, rfl, by decide +kernel, by decide +kernel⟩
theorem st_law_draws {v0 v1 : V} : start nm_law_draws [v0, v1] = [some v0, some v1, none] := rfl
section
variable {P : Program} {w : World} {K : PySem.W.Frag} {mg : Str → Option Value} {base : Heap}
theorem ok_law_draws (D : DefAt K mg "_law_draws" s_law_draws ["script", "k"]) (B_len : mg "len" = none) (B_int : mg "int" = none) : Has P w K mg base CX0 2 "_law_draws" ["script", "k"] (sp_law_draws K) := by
  refine D.ok sc_law_draws (by rintro _ _ _ _ ⟨_, _, _, rfl, _⟩; rfl) (fun f cdv A outer s H vs Q E hr h => ?_)
  obtain ⟨a, ns, k, rfl, hS, h0, h1, q⟩ := h
  have zk : Sz 200 k := Sz.small (by omega)
  refine ⟨_, (pss_cons (ps_set (i := 2) sc_law_draws.nd rfl (Or.inl rfl) (pe_op op_mulX pe_int (pv 1)))
      (pcut (ps_if (pt_cmpR op_lt (pv 1) (pe_callB cl_len (by rfl) B_len (by decide +kernel) (pa_cons (pv 0) pa_nil)) (nomark _)) (pss_one (ps_set (i := 2) sc_law_draws.nd rfl (Or.inl rfl) (pe_op op_mod (pe_ix ix_list (pv 0) (pv 1) (fun _ _ => rfl)) (pe_op op_mulX (pe_op op_pow pe_int pe_int) (pe_op op_pow pe_int pe_int))))) (pss_one (ps_if (pt_cmpR op_gt (pe_callB cl_len (by rfl) B_len (by decide +kernel) (pa_cons (pv 0) pa_nil)) pe_int (nomark _)) (pss_one (ps_set (i := 2) sc_law_draws.nd rfl (Or.inl rfl) (pe_op op_add (pe_op op_mod (pe_ix ix_list (pv 0) (pe_op op_mod (pv 1) (pe_callB cl_len (by rfl) B_len (by decide +kernel) (pa_cons (pv 0) pa_nil))) (fun _ _ => rfl)) (pe_op op_pow pe_int pe_int)) (pe_op op_mulX pe_int (pv 1))))) pss_nil)))
      (pss_one (ps_ret (pe_lst (pa_cons (pe_op op_mulX (pv 2) (pe_callTy cl_int1 (by rfl) B_int (by decide +kernel) (pa_cons (pe_cmpR op_ge (pv 2) (pe_op op_pow pe_int pe_int) (nomark _)) pa_nil))) (pa_cons (pe_op op_add pe_int (pe_op op_mod (pe_op op_add (pe_op op_mulX (pv 2) pe_int) (pe_op op_mulX pe_int (pe_op op_add (pv 1) pe_int))) pe_int)) pa_nil))))))), ?_⟩
  rw [st_law_draws]
  try dsimp only [Cx.nox, Cx.wish, Cx.blk, cx_K]
  walk_at "go"
  refine r_cut (fun σ H' => H' = H ∧ ∃ c : Int, σ = [some (.ref a), some (.int k), some (.int c)] ∧ Sz 500 c) ?_ ?_
  · walk_at "go"
    refine if_2 (fun hx => ?_) (fun hx => ?_)
    · have hx := of_decide_eq_true hx
      rw [List.length_map] at hx
      obtain ⟨z, hz, _⟩ := at_ints h0 hx
      walk_at "go"
      refine r_ixL hS hz ?_
      walk_at "go"
      exact ⟨rfl, _, rfl, by walk_at "szm"⟩
    · have hx := of_decide_eq_false hx
      rw [List.length_map] at hx
      walk_at "go"
      refine if_2 (fun hy => ?_) (fun hy => ?_)
      · have hy := of_decide_eq_true hy
        obtain ⟨z, hz, _⟩ := at_ints (ns := ns) (i := k % ((ns.map V.int).length : Nat)) (Int.emod_nonneg _ (by omega)) (by
          have := Int.emod_lt_of_pos k hy
          rw [List.length_map] at this ⊢
          exact this)
        walk_at "go"
        refine r_ixL hS hz ?_
        walk_at "go"
        refine ⟨rfl, _, rfl, (Sz.small ?_).mono (by decide)⟩
        omega
      · walk_at "go"
        refine ⟨rfl, _, rfl, (Sz.small ?_).mono (by decide)⟩
        omega
  rintro σ H' ⟨rfl, c, rfl, zc⟩
  walk_at "go"
  rename_i d H1 nd e1 hd
  exact q _ _ nd e1 ⟨_, _, hd, by omega, by omega⟩

end
/-- a digit below n is drawn -/
def sp_law_draw (_ : PySem.W.Frag) : Sp := fun vs H Q _ => ∃ (d : Addr) (n : Int), vs = [.ref d, .int n] ∧ Dr H d ∧ 0 < n ∧ Sz 4000 n ∧ ∀ v H', 0 ≤ v → v < n → Kp d H H' → Dr H' d → Q (.int v) H'
theorem use_law_draw {K : PySem.W.Frag} {H : Hp} {Q : VK} {E : XK} {d : Addr} {n : Int} (D : Dr H d) (p : 0 < n) (z : Sz 4000 n) (k : ∀ v H', 0 ≤ v → v < n → Kp d H H' → Dr H' d → Q (.int v) H') : sp_law_draw K [.ref d, .int n] H Q E := ⟨d, n, rfl, D, p, z, k⟩
abbrev s_law_draw : Stmt := topS 25
abbrev nm_law_draw : List Str := ["draws", "many", "found"]
theorem sc_law_draw : FnScope nm_law_draw ["draws", "many"] (defScope s_law_draw) := ⟨rfl, rfl, rfl, by decide +kernel, rfl, by decide +kernel, by decide +kernel⟩
theorem st_law_draw {v0 v1 : V} : start nm_law_draw [v0, v1] = [some v0, some v1, none] := rfl
section
variable {P : Program} {w : World} {K : PySem.W.Frag} {mg : Str → Option Value} {base : Heap}
theorem ok_law_draw (D : DefAt K mg "_law_draw" s_law_draw ["draws", "many"]) : Has P w K mg base CX0 2 "_law_draw" ["draws", "many"] (sp_law_draw K) := by
  refine D.ok sc_law_draw (by rintro _ _ _ _ ⟨_, _, rfl, _⟩; rfl) (fun f cdv A outer s H vs Q E hr h => ?_)
  obtain ⟨d, n, rfl, ⟨x, y, hd, y0, y1⟩, hn, zn, k⟩ := h
  have zy : Sz 200 y := by
    show y.natAbs < 2 ^ 200
    omega
  refine ⟨_, (pss_cons (ps_if (pt_cmpR op_gt (pe_ix ix_list (pv 0) pe_int (fun _ _ => rfl)) pe_int (nomark _)) (pss_cons (ps_set (i := 2) sc_law_draw.nd rfl (Or.inl rfl) (pe_op op_mod (pe_ix ix_list (pv 0) pe_int (fun _ _ => rfl)) (pv 1)))
        (pss_cons (ps_asg (pe_op op_fdivW (pe_ix ix_list (pv 0) pe_int (fun _ _ => rfl)) (pv 1)) (pg_sub (pv 0) pe_int set_list))
        (pss_one (ps_ret (pv 2))))) pss_nil)
      (pss_cons (ps_asg (pe_op op_mod (pe_op op_mulX (pe_ix ix_list (pv 0) pe_int (fun _ _ => rfl)) pe_int) pe_int) (pg_sub (pv 0) pe_int set_list))
      (pss_one (ps_ret (pe_op op_mod (pe_op op_fdivW (pe_op op_mod (pe_op op_mulX (pe_ix ix_list (pv 0) pe_int (fun _ _ => rfl)) (pe_op op_add (pe_op op_fdivW (pe_ix ix_list (pv 0) pe_int (fun _ _ => rfl)) pe_int) pe_int)) pe_int) pe_int) (pv 1)))))), ?_⟩
  rw [st_law_draw]
  try dsimp only [Cx.nox, Cx.wish, Cx.blk, cx_K]
  walk_at "go"
  refine if_2 (fun hx => ?_) (fun hx => ?_)
  · walk_at "go"
    refine r_setL (k0 := 0) hd (by rfl) ?_
    walk_at "go"
    exact k _ _ (Int.emod_nonneg _ (by omega)) (Int.emod_lt_of_pos _ hn) Kp.upd ⟨_, _, upd_same, y0, y1⟩
  · walk_at "go"
    refine r_setL (k0 := 1) hd (by rfl) ?_
    have hd2 : (upd H d (.lst [.int x, .int (y * 69621 % 2147483647)])) d = some (.lst [.int x, .int (y * 69621 % 2147483647)]) := upd_same
    walk_at "go"
    exact k _ _ (Int.emod_nonneg _ (by omega)) (Int.emod_lt_of_pos _ hn) Kp.upd ⟨_, _, upd_same, Int.emod_nonneg _ (by decide), Int.emod_lt_of_pos _ (by decide)⟩

end
/-! whole parts -/
theorem div_split (a b k : Int) {m : Int} (hm : 0 < m) : (a * k + b) / m = a / m * k + b / m + (a % m * k + b % m) / m := by
  have ea := Int.emod_add_mul_ediv a m
  have eb := Int.emod_add_mul_ediv b m
  have e : a * k + b = (a % m * k + b % m) + m * (a / m * k + b / m) := by
    have h1 : a * k = a % m * k + m * (a / m) * k := by
      rw [← Int.add_mul, ea]
    rw [h1, Int.mul_add, Int.mul_assoc]
    omega
  rw [e, Int.add_mul_ediv_left _ _ (by omega : m ≠ 0)]
  omega
theorem mod_split (a b k : Int) {m : Int} : (a * k + b) % m = (a % m * k + b % m) % m := by
  have ea := Int.emod_add_mul_ediv a m
  have eb := Int.emod_add_mul_ediv b m
  have e : a * k + b = (a % m * k + b % m) + m * (a / m * k + b / m) := by
    have h1 : a * k = a % m * k + m * (a / m) * k := by
      rw [← Int.add_mul, ea]
    rw [h1, Int.mul_add, Int.mul_assoc]
    omega
  rw [e, Int.add_mul_emod_self_left]

--@ needs Div
/-! common divisors -/
theorem gcd_step (x y : Nat) : Nat.gcd y (x % y) = Nat.gcd x y := by
  rw [Nat.gcd_comm x y, Nat.gcd_rec y x, Nat.gcd_comm]
/-- the stair made least -/
def lsA (a m : Int) : Int := a / (Int.gcd a m : Int)
def lsM (a m : Int) : Int := m / (Int.gcd a m : Int)
def lsB (a b m : Int) : Int := b / (Int.gcd a m : Int)
theorem gcd_pos {a m : Int} (hm : 0 < m) : 0 < (Int.gcd a m : Int) := by
  have : 0 < Int.gcd a m := Int.gcd_pos_of_ne_zero_right a (by omega)
  omega
theorem lsA_mul (a m : Int) : lsA a m * (Int.gcd a m : Int) = a := Int.ediv_mul_cancel (Int.gcd_dvd_left a m)
theorem lsM_mul (a m : Int) : lsM a m * (Int.gcd a m : Int) = m := Int.ediv_mul_cancel (Int.gcd_dvd_right a m)
theorem lsM_pos {a m : Int} (hm : 0 < m) : 0 < lsM a m := by
  have h := lsM_mul a m
  have g := gcd_pos (a := a) hm
  refine Int.pos_of_mul_pos_left (b := (Int.gcd a m : Int)) ?_ g
  omega
theorem ls_height (a b k : Int) {m : Int} (hm : 0 < m) : (lsA a m * k + lsB a b m) / lsM a m = (a * k + b) / m := by
  have g := gcd_pos (a := a) hm
  have ha := lsA_mul a m
  have hM := lsM_mul a m
  generalize lsA a m = A at *
  generalize lsM a m = M at *
  unfold lsB
  generalize (Int.gcd a m : Int) = G at *
  subst ha
  subst hM
  rw [Int.mul_comm M G, ← Int.ediv_ediv_of_nonneg (by omega), show A * G * k + b = b + G * (A * k) by rw [Int.mul_comm A G, Int.mul_assoc]; omega, Int.add_mul_ediv_left _ _ (by omega : G ≠ 0), Int.add_comm]
theorem ls_cop {a m : Int} (hm : 0 < m) : Int.gcd (lsA a m) (lsM a m) = 1 := by
  have g := gcd_pos (a := a) hm
  unfold lsA lsM
  exact Int.gcd_ediv_gcd_ediv_gcd (by omega)
/-- only 1 divides both: no lesser place is a period -/
theorem cop_no {a m k : Int} (h : Int.gcd a m = 1) (k0 : 0 < k) (k1 : k < m) : a * k % m ≠ 0 := by
  intro z
  have d : m ∣ a * k := Int.dvd_of_emod_eq_zero z
  have d2 : m ∣ k := by
    have d3 := Int.dvd_gcd_mul_iff_dvd_mul.mpr d
    rw [Int.gcd_comm, h] at d3
    rw [show ((1 : Nat) : Int) * k = k by omega] at d3
    exact d3
  have := Int.le_of_dvd k0 d2
  omega

def sp_law_common (_ : PySem.W.Frag) : Sp := fun vs H Q _ => ∃ (x y : Int), vs = [.int x, .int y] ∧ Q (.int (Int.gcd x y : Int)) H
theorem use_law_common {K : PySem.W.Frag} {H : Hp} {Q : VK} {E : XK} {x y : Int} (q : Q (.int (Int.gcd x y : Int)) H) : sp_law_common K [.int x, .int y] H Q E := ⟨x, y, rfl, q⟩
abbrev s_law_common : Stmt := topS 22
abbrev nm_law_common : List Str := ["one", "other"]
theorem sc_law_common : FnScope nm_law_common ["one", "other"] (defScope s_law_common) := ⟨rfl, rfl, rfl, by decide +kernel, rfl, by decide +kernel, by decide +kernel⟩
theorem st_law_common {v0 v1 : V} : start nm_law_common [v0, v1] = [some v0, some v1] := rfl
section
variable {P : Program} {w : World} {K : PySem.W.Frag} {mg : Str → Option Value} {base : Heap}
theorem ok_law_common (D : DefAt K mg "_law_common" s_law_common ["one", "other"]) (B_abs : mg "abs" = none) : Has P w K mg base CX0 2 "_law_common" ["one", "other"] (sp_law_common K) := by
  refine D.ok sc_law_common (by rintro _ _ _ _ ⟨_, _, rfl, _⟩; rfl) (fun f cdv A outer s H vs Q E hr h => ?_)
  obtain ⟨x, y, rfl, q⟩ := h
  refine ⟨_, (pss_cons (ps_set (i := 0) sc_law_common.nd rfl (Or.inl rfl) (pe_callB cl_abs (by rfl) B_abs (by decide +kernel) (pa_cons (pv 0) pa_nil)))
      (pss_cons (ps_set (i := 1) sc_law_common.nd rfl (Or.inl rfl) (pe_callB cl_abs (by rfl) B_abs (by decide +kernel) (pa_cons (pv 1) pa_nil)))
      (pss_cons (ps_while PassesOwn.never (pt_cmpR op_gt (pv 1) pe_int (nomark _)) (pss_one (ps_par (i := 0) (j := 1) (by rfl) sc_law_common.nd rfl rfl (by decide) rfl rfl (pa_cons (pv 1) (pa_cons (pe_op op_mod (pv 0) (pv 1)) pa_nil)) (by rfl))))
      (pss_one (ps_ret (pv 0)))))), ?_⟩
  rw [st_law_common]
  try dsimp only [Cx.nox, Cx.wish, Cx.blk, cx_K]
  walk_at "go"
  refine while_m (fun μ σ H' => H' = H ∧ ∃ (u v : Nat), σ = [some (.int (u : Int)), some (.int (v : Int))] ∧ μ = v ∧ Nat.gcd u v = Int.gcd x y) y.natAbs ⟨rfl, x.natAbs, y.natAbs, rfl, rfl, rfl⟩ ?_
  rintro v σ H1 ⟨eH, u, v', rfl, rfl, e⟩
  walk_at "go"
  refine if_2 (fun hx => ?_) (fun hx => ?_)
  · have hx := of_decide_eq_true hx
    refine r_body (fun σ H' => H' = H ∧ σ = [some (.int (v : Int)), some (.int ((u % v : Nat) : Int))]) ?_ ?_
    · rintro σ H2 ⟨e2, rfl⟩
      exact ⟨u % v, Nat.mod_lt _ (by omega), e2, v, u % v, rfl, rfl, by rw [gcd_step, e]⟩
    walk_at "go"
    exact ⟨eH, rfl⟩
  · have hx := of_decide_eq_false hx
    walk_at "go"
    have ev : v = 0 := by omega
    subst ev
    rw [Nat.gcd_zero_right] at e
    rw [e, eH]
    exact q

end
/-! rings of corners: what lies at the left hand of all edges -/
abbrev Pt := Rat × Rat
/-- above 0 where r lies at the left hand of the way from p to q -/
def cr (p q r : Pt) : Rat := (q.1 - p.1) * (r.2 - p.2) - (q.2 - p.2) * (r.1 - p.1)
/-- corner number k, counted round -/
def cor (P : List Pt) (k : Nat) : Pt := (P[k % P.length]?).getD (0, 0)
def RingP (P : List Pt) : Prop := 3 ≤ P.length ∧ ∀ k, k < P.length → ∀ j, j < P.length → j ≠ k → j ≠ (k + 1) % P.length → 0 < cr (cor P k) (cor P (k + 1)) (cor P j)
/-- at no edge's right hand -/
def InsP (P : List Pt) (q : Pt) : Prop := ∀ k, k < P.length → 0 ≤ cr (cor P k) (cor P (k + 1)) q
theorem cor_mod (P : List Pt) (k : Nat) : cor P (k % P.length) = cor P k := by
  unfold cor
  rw [Nat.mod_mod]
theorem cor_succ_mod (P : List Pt) (k : Nat) : cor P (k % P.length + 1) = cor P (k + 1) := by
  unfold cor
  rw [Nat.mod_add_mod]
theorem cor_lt {P : List Pt} {k : Nat} (h : k < P.length) : P[k]? = some (cor P k) := by
  unfold cor
  rw [Nat.mod_eq_of_lt h, List.getElem?_eq_getElem h]
  rfl
theorem cr_same1 (p q : Pt) : cr p q p = 0 := by unfold cr; grind
theorem cr_same2 (p q : Pt) : cr p q q = 0 := by unfold cr; grind
/-- no corner lies at an edge's right hand -/
theorem RingP.weak {P : List Pt} (R : RingP P) (k j : Nat) : 0 ≤ cr (cor P k) (cor P (k + 1)) (cor P j) := by
  have n0 : 0 < P.length := by have := R.1; omega
  rw [← cor_mod P k, ← cor_succ_mod P k, ← cor_mod P j]
  have hk := Nat.mod_lt k n0
  have hj := Nat.mod_lt j n0
  by_cases h1 : j % P.length = k % P.length
  · rw [h1, cr_same1]; decide
  · by_cases h2 : j % P.length = (k % P.length + 1) % P.length
    · rw [h2, cor_mod P (k % P.length + 1), cr_same2]; decide
    · exact Rat.le_of_lt (R.2 _ hk _ hj h1 h2)
theorem InsP.all {P : List Pt} {q : Pt} (h : InsP P q) (n0 : 0 < P.length) (k : Nat) : 0 ≤ cr (cor P k) (cor P (k + 1)) q := by
  rw [← cor_mod P k, ← cor_succ_mod P k]
  exact h _ (Nat.mod_lt k n0)
/-- what is handed on round the ring holds all round -/
theorem round_all {P : List Pt} {W : Nat → Prop} (n0 : 0 < P.length) (hm : ∀ k, W k ↔ W (k % P.length)) (hs : ∀ k, W k → W (k + 1)) {i : Nat} (h : W i) (j : Nat) : W j := by
  have all : ∀ t, W (i + t) := by
    intro t
    induction t with
    | zero => exact h
    | succ t ih => exact hs _ ih
  have := all (j + (P.length - 1) * i + 0)
  rw [hm] at this ⊢
  rw [show i + (j + (P.length - 1) * i + 0) = j + P.length * i by
    have : P.length * i = (P.length - 1) * i + i := by
      obtain ⟨m, hm⟩ : ∃ m, P.length = m + 1 := ⟨P.length - 1, by omega⟩
      rw [hm, Nat.add_sub_cancel, Nat.add_mul, Nat.one_mul]
    omega, Nat.add_mul_mod_self_left] at this
  exact this
/-- an edge to the right by which x is reached -/
theorem edge_to {P : List Pt} (n0 : 0 < P.length) {x : Rat} {i j : Nat} (hi : (cor P i).1 < x) (hj : x ≤ (cor P j).1) : ∃ k, k < P.length ∧ (cor P k).1 < x ∧ x ≤ (cor P (k + 1)).1 := by
  apply Classical.byContradiction
  intro no
  have := round_all (P := P) (W := fun k => (cor P k).1 < x) n0 (fun k => by rw [cor_mod]) (fun k h => by
    apply Classical.byContradiction
    intro h2
    refine no ⟨k % P.length, Nat.mod_lt _ n0, ?_, ?_⟩
    · rw [cor_mod]; exact h
    · rw [cor_succ_mod]; exact Rat.not_lt.mp h2) hi j
  exact absurd hj (Rat.not_le.mpr this)
/-- an edge to the right by which x is left -/
theorem edge_from {P : List Pt} (n0 : 0 < P.length) {x : Rat} {i j : Nat} (hi : (cor P i).1 ≤ x) (hj : x < (cor P j).1) : ∃ k, k < P.length ∧ (cor P k).1 ≤ x ∧ x < (cor P (k + 1)).1 := by
  apply Classical.byContradiction
  intro no
  have := round_all (P := P) (W := fun k => (cor P k).1 ≤ x) n0 (fun k => by rw [cor_mod]) (fun k h => by
    apply Classical.byContradiction
    intro h2
    refine no ⟨k % P.length, Nat.mod_lt _ n0, ?_, ?_⟩
    · rw [cor_mod]; exact h
    · rw [cor_succ_mod]; exact Rat.not_le.mp h2) hi j
  exact absurd hj (Rat.not_lt.mpr this)
/-- the same for edges to the left -/
theorem back_to {P : List Pt} (n0 : 0 < P.length) {x : Rat} {i j : Nat} (hi : (cor P i).1 < x) (hj : x ≤ (cor P j).1) : ∃ k, k < P.length ∧ (cor P (k + 1)).1 < x ∧ x ≤ (cor P k).1 := by
  apply Classical.byContradiction
  intro no
  have := round_all (P := P) (W := fun k => x ≤ (cor P k).1) n0 (fun k => by rw [cor_mod]) (fun k h => by
    apply Classical.byContradiction
    intro h2
    refine no ⟨k % P.length, Nat.mod_lt _ n0, ?_, ?_⟩
    · rw [cor_succ_mod]; exact Rat.not_le.mp h2
    · rw [cor_mod]; exact h) hj i
  exact absurd hi (Rat.not_lt.mpr this)
theorem back_from {P : List Pt} (n0 : 0 < P.length) {x : Rat} {i j : Nat} (hi : (cor P i).1 ≤ x) (hj : x < (cor P j).1) : ∃ k, k < P.length ∧ (cor P (k + 1)).1 ≤ x ∧ x < (cor P k).1 := by
  apply Classical.byContradiction
  intro no
  have := round_all (P := P) (W := fun k => x < (cor P k).1) n0 (fun k => by rw [cor_mod]) (fun k h => by
    apply Classical.byContradiction
    intro h2
    refine no ⟨k % P.length, Nat.mod_lt _ n0, ?_, ?_⟩
    · rw [cor_succ_mod]; exact Rat.not_lt.mp h2
    · rw [cor_mod]; exact h) hj i
  exact absurd hi (Rat.not_le.mpr this)
/-- some corners have unlike x -/
theorem RingP.wide {P : List Pt} (R : RingP P) (i : Nat) : ∃ j, (cor P j).1 ≠ (cor P i).1 := by
  apply Classical.byContradiction
  intro no
  have al : ∀ j, (cor P j).1 = (cor P i).1 := fun j => Classical.byContradiction fun h => no ⟨j, h⟩
  have n3 := R.1
  have := R.2 0 (by omega) 2 (by omega) (by omega) (by rw [Nat.mod_eq_of_lt (by omega)]; omega)
  unfold cr at this
  rw [al 2, al 0, al (0 + 1)] at this
  have z : ((cor P i).1 - (cor P i).1) = 0 := by grind
  rw [z] at this
  grind
theorem nn_mul {d c : Rat} (hd : 0 < d) (h : 0 ≤ d * c) : 0 ≤ c := by
  apply Classical.byContradiction
  intro n
  have : 0 < d * (-c) := Rat.mul_pos hd (by grind)
  grind
/-- from the line to the left, where both its ends are -/
theorem cr_between {p q a b : Pt} {x y : Rat} (pa : 0 ≤ cr p q a) (pb : 0 ≤ cr p q b) (ax : a.1 ≤ x) (xb : x ≤ b.1) (ab : a.1 < b.1) (h : cr a b (x, y) = 0) : 0 ≤ cr p q (x, y) := by
  have e : (b.1 - a.1) * cr p q (x, y) = (b.1 - x) * cr p q a + (x - a.1) * cr p q b + (q.1 - p.1) * cr a b (x, y) := by
    unfold cr; grind
  have d : 0 < b.1 - a.1 := by grind
  have t1 : 0 ≤ (b.1 - x) * cr p q a := Rat.mul_nonneg (by grind) pa
  have t2 : 0 ≤ (x - a.1) * cr p q b := Rat.mul_nonneg (by grind) pb
  rw [h] at e
  have : 0 ≤ (b.1 - a.1) * cr p q (x, y) := by grind
  exact nn_mul d this
/-- the height of a line at x -/
def onL (a b : Pt) (x : Rat) : Rat := a.2 + (b.2 - a.2) * (x - a.1) / (b.1 - a.1)
theorem cr_onL {a b : Pt} (x : Rat) (ab : b.1 - a.1 ≠ 0) : cr a b (x, onL a b x) = 0 := by
  unfold cr onL
  have := Rat.mul_inv_cancel _ ab
  rw [Rat.div_def]
  grind
theorem cr_move {p q : Pt} (x y z : Rat) : cr p q (x, y) = cr p q (x, z) + (q.1 - p.1) * (y - z) := by
  unfold cr; grind
/-- within: above a lower edge, and below an upper edge -/
theorem RingP.ins_iff {P : List Pt} (R : RingP P) {x y : Rat} {k l : Nat} (k1 : (cor P k).1 ≤ x) (k2 : x ≤ (cor P (k + 1)).1) (k3 : (cor P k).1 < (cor P (k + 1)).1)
    (l1 : (cor P (l + 1)).1 ≤ x) (l2 : x ≤ (cor P l).1) (l3 : (cor P (l + 1)).1 < (cor P l).1) :
    InsP P (x, y) ↔ 0 ≤ cr (cor P k) (cor P (k + 1)) (x, y) ∧ 0 ≤ cr (cor P l) (cor P (l + 1)) (x, y) := by
  have n0 : 0 < P.length := by have := R.1; omega
  constructor
  · intro h
    exact ⟨h.all n0 k, h.all n0 l⟩
  · rintro ⟨hk, hl⟩ j _
    have z0 := cr_onL (a := cor P k) (b := cor P (k + 1)) x (by grind)
    have z1 := cr_onL (a := cor P (l + 1)) (b := cor P l) x (by grind)
    have b0 := cr_between (R.weak j k) (R.weak j (k + 1)) k1 k2 k3 z0
    have b1 := cr_between (R.weak j (l + 1)) (R.weak j l) l1 l2 l3 z1
    have m0 := cr_move (p := cor P k) (q := cor P (k + 1)) x y (onL (cor P k) (cor P (k + 1)) x)
    have m1 := cr_move (p := cor P (l + 1)) (q := cor P l) x y (onL (cor P (l + 1)) (cor P l) x)
    generalize onL (cor P k) (cor P (k + 1)) x = y0 at *
    generalize onL (cor P (l + 1)) (cor P l) x = y1 at *
    have g0 : 0 ≤ y - y0 := nn_mul (d := (cor P (k + 1)).1 - (cor P k).1) (by grind) (by rw [m0, z0] at hk; grind)
    have g1 : 0 ≤ y1 - y := nn_mul (d := (cor P l).1 - (cor P (l + 1)).1) (by grind) (by
      have : cr (cor P l) (cor P (l + 1)) (x, y) = -cr (cor P (l + 1)) (cor P l) (x, y) := by unfold cr; grind
      rw [this, m1, z1] at hl; grind)
    have e0 := cr_move (p := cor P j) (q := cor P (j + 1)) x y y0
    have e1 := cr_move (p := cor P j) (q := cor P (j + 1)) x y y1
    rcases Rat.le_total (a := (cor P j).1) (b := (cor P (j + 1)).1) with d | d
    · have : 0 ≤ ((cor P (j + 1)).1 - (cor P j).1) * (y - y0) := Rat.mul_nonneg (by grind) g0
      grind
    · have : 0 ≤ ((cor P j).1 - (cor P (j + 1)).1) * (y1 - y) := Rat.mul_nonneg (by grind) g1
      grind
/-- two lower edges have one height where both are -/
theorem RingP.one_low {P : List Pt} (R : RingP P) {x y : Rat} {k l : Nat} (k1 : (cor P k).1 ≤ x) (k2 : x ≤ (cor P (k + 1)).1) (k3 : (cor P k).1 < (cor P (k + 1)).1)
    (l3 : (cor P l).1 < (cor P (l + 1)).1) (h : 0 ≤ cr (cor P k) (cor P (k + 1)) (x, y)) : 0 ≤ cr (cor P l) (cor P (l + 1)) (x, y) := by
  have z0 := cr_onL (a := cor P k) (b := cor P (k + 1)) x (by grind)
  have b0 := cr_between (R.weak l k) (R.weak l (k + 1)) k1 k2 k3 z0
  have m0 := cr_move (p := cor P k) (q := cor P (k + 1)) x y (onL (cor P k) (cor P (k + 1)) x)
  have e0 := cr_move (p := cor P l) (q := cor P (l + 1)) x y (onL (cor P k) (cor P (k + 1)) x)
  generalize onL (cor P k) (cor P (k + 1)) x = y0 at *
  have g0 : 0 ≤ y - y0 := nn_mul (d := (cor P (k + 1)).1 - (cor P k).1) (by grind) (by rw [m0, z0] at h; grind)
  have : 0 ≤ ((cor P (l + 1)).1 - (cor P l).1) * (y - y0) := Rat.mul_nonneg (by grind) g0
  grind
theorem RingP.one_high {P : List Pt} (R : RingP P) {x y : Rat} {k l : Nat} (k1 : (cor P (k + 1)).1 ≤ x) (k2 : x ≤ (cor P k).1) (k3 : (cor P (k + 1)).1 < (cor P k).1)
    (l3 : (cor P (l + 1)).1 < (cor P l).1) (h : 0 ≤ cr (cor P k) (cor P (k + 1)) (x, y)) : 0 ≤ cr (cor P l) (cor P (l + 1)) (x, y) := by
  have z0 := cr_onL (a := cor P (k + 1)) (b := cor P k) x (by grind)
  have b0 := cr_between (R.weak l (k + 1)) (R.weak l k) k1 k2 k3 z0
  have m0 := cr_move (p := cor P (k + 1)) (q := cor P k) x y (onL (cor P (k + 1)) (cor P k) x)
  have e0 := cr_move (p := cor P l) (q := cor P (l + 1)) x y (onL (cor P (k + 1)) (cor P k) x)
  generalize onL (cor P (k + 1)) (cor P k) x = y0 at *
  have g0 : 0 ≤ y0 - y := nn_mul (d := (cor P k).1 - (cor P (k + 1)).1) (by grind) (by
    have : cr (cor P k) (cor P (k + 1)) (x, y) = -cr (cor P (k + 1)) (cor P k) (x, y) := by unfold cr; grind
    rw [this, m0, z0] at h; grind)
  have : 0 ≤ ((cor P l).1 - (cor P (l + 1)).1) * (y0 - y) := Rat.mul_nonneg (by grind) g0
  grind
/-- as seen from a point that lies at the left of all corners (or the right), the slopes rise round the ring: none can be within -/
theorem slopes_round {P : List Pt} (n0 : 0 < P.length) {q : Pt} (h : InsP P q) (sd : ∀ k, 0 < ((cor P k).1 - q.1) * ((cor P (k + 1)).1 - q.1)) (nz : ∀ k, (cor P k).1 - q.1 ≠ 0) (i j : Nat) :
    ((cor P i).2 - q.2) / ((cor P i).1 - q.1) ≤ ((cor P j).2 - q.2) / ((cor P j).1 - q.1) := by
  refine round_all (P := P) (W := fun k => ((cor P i).2 - q.2) / ((cor P i).1 - q.1) ≤ ((cor P k).2 - q.2) / ((cor P k).1 - q.1)) n0 (fun k => by rw [cor_mod]) (fun k hk => ?_) (i := i) Rat.le_refl j
  have a := h.all n0 k
  have s := sd k
  have i1 := Rat.mul_inv_cancel _ (nz k)
  have i2 := Rat.mul_inv_cancel _ (nz (k + 1))
  rw [Rat.div_def] at hk ⊢
  rw [Rat.div_def] at hk ⊢
  refine Rat.le_trans hk ?_
  have e : ((cor P k).1 - q.1) * ((cor P (k + 1)).1 - q.1) * (((cor P (k + 1)).2 - q.2) * ((cor P (k + 1)).1 - q.1)⁻¹ - ((cor P k).2 - q.2) * ((cor P k).1 - q.1)⁻¹) = cr (cor P k) (cor P (k + 1)) q := by
    unfold cr; grind
  have := nn_mul s (by rw [e]; exact a)
  grind
theorem RingP.not_beside {P : List Pt} (R : RingP P) {q : Pt} (h : InsP P q) (sd : ∀ k, 0 < ((cor P k).1 - q.1) * ((cor P (k + 1)).1 - q.1)) (nz : ∀ k, (cor P k).1 - q.1 ≠ 0) : False := by
  have n3 := R.1
  have n0 : 0 < P.length := by omega
  have S := slopes_round n0 h sd nz
  have p := R.2 0 (by omega) 2 (by omega) (by omega) (by rw [Nat.mod_eq_of_lt (by omega)]; omega)
  have e1 := S 0 1
  have e2 := S 1 0
  have e3 := S 0 2
  have e4 := S 2 0
  have i0 := Rat.mul_inv_cancel _ (nz 0)
  have i1 := Rat.mul_inv_cancel _ (nz 1)
  have i2 := Rat.mul_inv_cancel _ (nz 2)
  simp only [Rat.div_def] at e1 e2 e3 e4
  unfold cr at p
  rw [show (0 + 1 : Nat) = 1 from rfl] at p
  generalize (cor P 0).1 = x0 at *
  generalize (cor P 0).2 = y0 at *
  generalize (cor P 1).1 = x1 at *
  generalize (cor P 1).2 = y1 at *
  generalize (cor P 2).1 = x2 at *
  generalize (cor P 2).2 = y2 at *
  have f1 : (y1 - q.2) * (x1 - q.1)⁻¹ = (y0 - q.2) * (x0 - q.1)⁻¹ := Rat.le_antisymm e2 e1
  have f2 : (y2 - q.2) * (x2 - q.1)⁻¹ = (y0 - q.2) * (x0 - q.1)⁻¹ := Rat.le_antisymm e4 e3
  have g1 : y1 - q.2 = (y0 - q.2) * (x0 - q.1)⁻¹ * (x1 - q.1) := by grind
  have g2 : y2 - q.2 = (y0 - q.2) * (x0 - q.1)⁻¹ * (x2 - q.1) := by grind
  have g0 : y0 - q.2 = (y0 - q.2) * (x0 - q.1)⁻¹ * (x0 - q.1) := by grind
  generalize (y0 - q.2) * (x0 - q.1)⁻¹ = s at *
  have : (x1 - x0) * (y2 - y0) - (y1 - y0) * (x2 - x0) = 0 := by grind
  grind
/-- what is within is not beside the ring -/
theorem RingP.ins_wide {P : List Pt} (R : RingP P) {x y : Rat} (h : InsP P (x, y)) : (∃ i, (cor P i).1 ≤ x) ∧ ∃ j, x ≤ (cor P j).1 := by
  constructor
  · apply Classical.byContradiction
    intro no
    have al : ∀ k, 0 < (cor P k).1 - x := fun k => Classical.byContradiction fun h => no ⟨k, by grind⟩
    exact R.not_beside h (fun k => Rat.mul_pos (al k) (al (k + 1))) (fun k => by have := al k; show (cor P k).1 - x ≠ 0; grind)
  · apply Classical.byContradiction
    intro no
    have al : ∀ k, 0 < x - (cor P k).1 := fun k => Classical.byContradiction fun h => no ⟨k, by grind⟩
    exact R.not_beside h (fun k => by
      have := Rat.mul_pos (al k) (al (k + 1))
      show 0 < ((cor P k).1 - x) * ((cor P (k + 1)).1 - x)
      grind) (fun k => by have := al k; show (cor P k).1 - x ≠ 0; grind)
/-- over each x of the ring there are a lower and an upper edge -/
theorem RingP.low_at {P : List Pt} (R : RingP P) {x : Rat} {i j : Nat} (hi : (cor P i).1 ≤ x) (hj : x ≤ (cor P j).1) : ∃ k, k < P.length ∧ (cor P k).1 ≤ x ∧ x ≤ (cor P (k + 1)).1 ∧ (cor P k).1 < (cor P (k + 1)).1 := by
  have n0 : 0 < P.length := by have := R.1; omega
  by_cases h : ∃ j, x < (cor P j).1
  · obtain ⟨j, hj⟩ := h
    obtain ⟨k, k0, k1, k2⟩ := edge_from n0 hi hj
    exact ⟨k, k0, k1, Rat.le_of_lt k2, by grind⟩
  · have al : ∀ k, (cor P k).1 ≤ x := fun k => Rat.not_lt.mp fun h2 => h ⟨k, h2⟩
    obtain ⟨z, hz⟩ := R.wide j
    have := al z
    have := al j
    obtain ⟨k, k0, k1, k2⟩ := edge_to n0 (x := x) (i := z) (j := j) (by grind) hj
    exact ⟨k, k0, Rat.le_of_lt k1, k2, by grind⟩
theorem RingP.high_at {P : List Pt} (R : RingP P) {x : Rat} {i j : Nat} (hi : (cor P i).1 ≤ x) (hj : x ≤ (cor P j).1) : ∃ k, k < P.length ∧ (cor P (k + 1)).1 ≤ x ∧ x ≤ (cor P k).1 ∧ (cor P (k + 1)).1 < (cor P k).1 := by
  have n0 : 0 < P.length := by have := R.1; omega
  by_cases h : ∃ j, x < (cor P j).1
  · obtain ⟨j, hj⟩ := h
    obtain ⟨k, k0, k1, k2⟩ := back_from n0 hi hj
    exact ⟨k, k0, k1, Rat.le_of_lt k2, by grind⟩
  · have al : ∀ k, (cor P k).1 ≤ x := fun k => Rat.not_lt.mp fun h2 => h ⟨k, h2⟩
    obtain ⟨z, hz⟩ := R.wide j
    have := al z
    have := al j
    obtain ⟨k, k0, k1, k2⟩ := back_to n0 (x := x) (i := z) (j := j) (by grind) hj
    exact ⟨k, k0, Rat.le_of_lt k1, k2, by grind⟩
/-- below a lower edge is not above an upper one -/
theorem RingP.gap {P : List Pt} (R : RingP P) {x y : Rat} {k l : Nat} (k1 : (cor P k).1 ≤ x) (k2 : x ≤ (cor P (k + 1)).1) (k3 : (cor P k).1 < (cor P (k + 1)).1)
    (l1 : (cor P (l + 1)).1 ≤ x) (l2 : x ≤ (cor P l).1) (l3 : (cor P (l + 1)).1 < (cor P l).1) (h : ¬ 0 ≤ cr (cor P k) (cor P (k + 1)) (x, y)) : 0 ≤ cr (cor P l) (cor P (l + 1)) (x, y) := by
  have z0 := cr_onL (a := cor P k) (b := cor P (k + 1)) x (by grind)
  have b0 := cr_between (R.weak l k) (R.weak l (k + 1)) k1 k2 k3 z0
  have m0 := cr_move (p := cor P k) (q := cor P (k + 1)) x y (onL (cor P k) (cor P (k + 1)) x)
  have e0 := cr_move (p := cor P l) (q := cor P (l + 1)) x y (onL (cor P k) (cor P (k + 1)) x)
  generalize onL (cor P k) (cor P (k + 1)) x = y0 at *
  have g0 : 0 ≤ y0 - y := by
    apply Classical.byContradiction
    intro n
    refine h ?_
    rw [m0, z0]
    have : 0 ≤ ((cor P (k + 1)).1 - (cor P k).1) * (y - y0) := Rat.mul_nonneg (by grind) (by grind)
    grind
  have : 0 ≤ ((cor P l).1 - (cor P (l + 1)).1) * (y0 - y) := Rat.mul_nonneg (by grind) g0
  grind

--@ needs Gcd RingM
/-! fractions of whole numbers -/
def qv (t b : Int) : Rat := (t : Rat) / (b : Rat)
theorem cast_ne {b : Int} (h : 0 < b) : (b : Rat) ≠ 0 := by
  intro z
  have : (b : Rat) = ((0 : Int) : Rat) := z
  rw [Rat.intCast_inj] at this
  omega
theorem cast_pos {b : Int} (h : 0 < b) : (0 : Rat) < (b : Rat) := by
  have : ((0 : Int) : Rat) < (b : Rat) := Rat.intCast_lt_intCast.mpr h
  exact this
theorem qv_mul {t b : Int} (h : 0 < b) : qv t b * (b : Rat) = (t : Rat) := by
  unfold qv
  have := Rat.mul_inv_cancel _ (cast_ne h)
  rw [Rat.div_def]
  grind
theorem qv_of {t b : Int} {x : Rat} (h : 0 < b) (e : x * (b : Rat) = (t : Rat)) : qv t b = x := by
  have h1 := qv_mul (t := t) h
  have n := cast_ne h
  have : (qv t b - x) * (b : Rat) = 0 := by grind
  grind
/-- the fraction made least -/
def frT (t b : Int) : Int := t / (Int.gcd t b : Int)
def frB (t b : Int) : Int := b / (Int.gcd t b : Int)
theorem frT_mul (t b : Int) : frT t b * (Int.gcd t b : Int) = t := Int.ediv_mul_cancel (Int.gcd_dvd_left t b)
theorem frB_mul (t b : Int) : frB t b * (Int.gcd t b : Int) = b := Int.ediv_mul_cancel (Int.gcd_dvd_right t b)
theorem frB_pos {t b : Int} (h : 0 < b) : 0 < frB t b := lsM_pos h
theorem fr_qv {t b : Int} (h : 0 < b) : qv (frT t b) (frB t b) = qv t b := by
  have h1 := qv_mul (t := t) h
  have e1 := frT_mul t b
  have e2 := frB_mul t b
  have g := gcd_pos (a := t) h
  refine qv_of (frB_pos h) ?_
  have gn := cast_ne g
  have f1 : (frT t b : Rat) * ((Int.gcd t b : Int) : Rat) = (t : Rat) := by rw [← Rat.intCast_mul, e1]
  have f2 : (frB t b : Rat) * ((Int.gcd t b : Int) : Rat) = (b : Rat) := by rw [← Rat.intCast_mul, e2]
  generalize ((Int.gcd t b : Int) : Rat) = G at *
  grind
theorem qv_sub {t b u c : Int} (h : 0 < b) (k : 0 < c) : qv (t * c - u * b) (b * c) = qv t b - qv u c := by
  have h1 := qv_mul (t := t) h
  have h2 := qv_mul (t := u) k
  refine qv_of (Int.mul_pos h k) ?_
  rw [Rat.intCast_sub, Rat.intCast_mul, Rat.intCast_mul, Rat.intCast_mul]
  grind
theorem qv_prod {t b u c : Int} (h : 0 < b) (k : 0 < c) : qv (t * u) (b * c) = qv t b * qv u c := by
  have h1 := qv_mul (t := t) h
  have h2 := qv_mul (t := u) k
  refine qv_of (Int.mul_pos h k) ?_
  rw [Rat.intCast_mul, Rat.intCast_mul]
  grind
theorem qv_pos {t b : Int} (h : 0 < b) : 0 < qv t b ↔ 0 < t := by
  have e := qv_mul (t := t) h
  have p := cast_pos h
  constructor
  · intro q
    have : (0 : Rat) < (t : Rat) := by
      have := Rat.mul_pos q p
      grind
    have : ((0 : Int) : Rat) < (t : Rat) := this
    exact Rat.intCast_lt_intCast.mp this
  · intro q
    have q' := cast_pos q
    apply Classical.byContradiction
    intro n
    have : 0 ≤ (-qv t b) * (b : Rat) := Rat.mul_nonneg (by grind) (Rat.le_of_lt p)
    grind
theorem qv_nonneg {t b : Int} (h : 0 < b) : 0 ≤ qv t b ↔ 0 ≤ t := by
  have e := qv_pos (t := -t) h
  have e2 : qv (-t) b = -qv t b := by
    refine qv_of h ?_
    have := qv_mul (t := t) h
    rw [Rat.intCast_neg]
    grind
  rw [e2] at e
  constructor
  · intro a
    by_cases h : 0 ≤ t
    · exact h
    · have := e.mpr (by omega)
      grind
  · intro a
    apply Classical.byContradiction
    intro n
    have := e.mp (by grind)
    omega
theorem qv_int (x : Int) : qv x 1 = (x : Rat) := by
  refine qv_of (by decide) ?_
  show (x : Rat) * ((1 : Int) : Rat) = x
  have : ((1 : Int) : Rat) = 1 := rfl
  grind
/-- a whole number from a fraction on, or up to one -/
theorem le_floor {t b x : Int} (h : 0 < b) : x ≤ t / b ↔ (x : Rat) ≤ qv t b := by
  have e := qv_nonneg (t := t * 1 - x * b) (b := b * 1) (by omega)
  rw [qv_sub h (by decide : (0:Int) < 1), qv_int] at e
  rw [Int.le_ediv_iff_mul_le h]
  constructor
  · intro a
    have := e.mpr (by omega)
    grind
  · intro a
    have := e.mp (by grind)
    omega
theorem ceil_le {t b x : Int} (h : 0 < b) : 0 - (0 - t) / b ≤ x ↔ qv t b ≤ (x : Rat) := by
  have e := le_floor (t := 0 - t) (x := 0 - x) h
  have e2 : qv (0 - t) b = -qv t b := by
    refine qv_of h ?_
    have := qv_mul (t := t) h
    rw [Rat.intCast_sub]
    have : ((0 : Int) : Rat) = 0 := rfl
    grind
  rw [e2, Rat.intCast_sub] at e
  have : ((0 : Int) : Rat) = 0 := rfl
  constructor
  · intro a
    have := e.mp (by omega)
    grind
  · intro a
    have := e.mpr (by grind)
    omega
/-- (a, b, m) is the stair of the line through two corners, one left of the other -/
def LnOf (p q : Pt) (a b m : Int) : Prop := 0 < m ∧ (a : Rat) * (q.1 - p.1) = (q.2 - p.2) * (m : Rat) ∧ (b : Rat) = p.2 * (m : Rat) - (a : Rat) * p.1
theorem LnOf.cr {p q : Pt} {a b m : Int} (L : LnOf p q a b m) (x y : Int) : (m : Rat) * cr p q ((x : Rat), (y : Rat)) = (q.1 - p.1) * ((m * y - (a * x + b) : Int) : Rat) := by
  obtain ⟨_, h1, h2⟩ := L
  rw [Rat.intCast_sub, Rat.intCast_add, Rat.intCast_mul, Rat.intCast_mul, h2]
  unfold Sd.cr
  grind
theorem mul_sign {c d x : Rat} (hc : 0 < c) (hd : 0 < d) {y : Rat} (h : c * x = d * y) : 0 ≤ x ↔ 0 ≤ y := by
  constructor
  · intro a
    exact nn_mul hd (by rw [← h]; exact Rat.mul_nonneg (Rat.le_of_lt hc) a)
  · intro a
    exact nn_mul hc (by rw [h]; exact Rat.mul_nonneg (Rat.le_of_lt hd) a)
theorem cast_nonneg {x : Int} : (0 : Rat) ≤ (x : Rat) ↔ 0 ≤ x := by
  have : ((0 : Int) : Rat) ≤ (x : Rat) ↔ 0 ≤ x := Rat.intCast_le_intCast
  exact this
/-- at the left hand of a lower edge: from the rounded up height on -/
theorem LnOf.low {p q : Pt} {a b m : Int} (L : LnOf p q a b m) (pq : p.1 < q.1) (x y : Int) : 0 ≤ Sd.cr p q ((x : Rat), (y : Rat)) ↔ 0 - (0 - (a * x + b)) / m ≤ y := by
  have m0 := L.1
  rw [mul_sign (cast_pos m0) (by grind : 0 < q.1 - p.1) (L.cr x y), cast_nonneg]
  have e := Int.le_ediv_iff_mul_le (a := 0 - y) (b := 0 - (a * x + b)) m0
  have e2 : (0 - y) * m = -(m * y) := by grind
  rw [e2] at e
  omega
theorem LnOf.high {p q : Pt} {a b m : Int} (L : LnOf p q a b m) (pq : p.1 < q.1) (x y : Int) : 0 ≤ Sd.cr q p ((x : Rat), (y : Rat)) ↔ y ≤ (a * x + b) / m := by
  have m0 := L.1
  have e0 : Sd.cr q p ((x : Rat), (y : Rat)) = -Sd.cr p q ((x : Rat), (y : Rat)) := by unfold Sd.cr; grind
  have c := L.cr x y
  rw [e0, mul_sign (x := -Sd.cr p q ((x : Rat), (y : Rat))) (y := ((a * x + b - m * y : Int) : Rat)) (cast_pos m0) (by grind : 0 < q.1 - p.1) (by
    rw [Rat.intCast_sub] at c ⊢
    grind), cast_nonneg, Int.le_ediv_iff_mul_le m0, Int.mul_comm y m]
  omega

--@ needs FracM
/-! fractions and corners where they stand -/
abbrev Fq := Int × Int
abbrev Cn := Fq × Fq
def frd (f : Fq) : Fq := (frT f.1 f.2, frB f.1 f.2)
def fDif (f g : Fq) : Fq := frd (f.1 * g.2 - g.1 * f.2, f.2 * g.2)
def fPro (f g : Fq) : Fq := frd (f.1 * g.1, f.2 * g.2)
def handI (one other third : Cn) : Int := (fDif (fPro (fDif other.1 one.1) (fDif third.2 one.2)) (fPro (fDif other.2 one.2) (fDif third.1 one.1))).1
def slopeI (one other : Cn) : Fq := frd ((fDif other.2 one.2).1 * (fDif other.1 one.1).2, (fDif other.2 one.2).2 * (fDif other.1 one.1).1)
def lineI (one other : Cn) : Int × Int × Int :=
  ((slopeI one other).1 * (fDif one.2 (fPro (slopeI one other) one.1)).2, (fDif one.2 (fPro (slopeI one other) one.1)).1 * (slopeI one other).2, (slopeI one other).2 * (fDif one.2 (fPro (slopeI one other) one.1)).2)
def fv (f : Fq) : Rat := qv f.1 f.2
def cv (c : Cn) : Pt := (fv c.1, fv c.2)
theorem frd_pos {f : Fq} (h : 0 < f.2) : 0 < (frd f).2 := frB_pos h
theorem frd_v {f : Fq} (h : 0 < f.2) : fv (frd f) = fv f := fr_qv h
theorem fDif_pos {f g : Fq} (h : 0 < f.2) (k : 0 < g.2) : 0 < (fDif f g).2 := frd_pos (Int.mul_pos h k)
theorem fPro_pos {f g : Fq} (h : 0 < f.2) (k : 0 < g.2) : 0 < (fPro f g).2 := frd_pos (Int.mul_pos h k)
theorem fDif_v {f g : Fq} (h : 0 < f.2) (k : 0 < g.2) : fv (fDif f g) = fv f - fv g := (frd_v (Int.mul_pos h k)).trans (qv_sub h k)
theorem fPro_v {f g : Fq} (h : 0 < f.2) (k : 0 < g.2) : fv (fPro f g) = fv f * fv g := (frd_v (Int.mul_pos h k)).trans (qv_prod h k)
def OkC (c : Cn) : Prop := 0 < c.1.2 ∧ 0 < c.2.2
theorem handI_cr {a b c : Cn} (ha : OkC a) (hb : OkC b) (hc : OkC c) : 0 < handI a b c ↔ 0 < cr (cv a) (cv b) (cv c) := by
  have p1 := fDif_pos hb.1 ha.1
  have p2 := fDif_pos hc.2 ha.2
  have p3 := fDif_pos hb.2 ha.2
  have p4 := fDif_pos hc.1 ha.1
  have e : fv (fDif (fPro (fDif b.1 a.1) (fDif c.2 a.2)) (fPro (fDif b.2 a.2) (fDif c.1 a.1))) = cr (cv a) (cv b) (cv c) := by
    rw [fDif_v (fPro_pos p1 p2) (fPro_pos p3 p4), fPro_v p1 p2, fPro_v p3 p4, fDif_v hb.1 ha.1, fDif_v hc.2 ha.2, fDif_v hb.2 ha.2, fDif_v hc.1 ha.1]
    rfl
  rw [← e]
  exact (qv_pos (fDif_pos (fPro_pos p1 p2) (fPro_pos p3 p4))).symm
theorem fDif_sign {f g : Fq} (h : 0 < f.2) (k : 0 < g.2) : 0 < (fDif f g).1 ↔ fv g < fv f := by
  have e := qv_pos (t := (fDif f g).1) (fDif_pos h k)
  have v := fDif_v h k
  rw [show qv (fDif f g).1 (fDif f g).2 = fv f - fv g from v] at e
  rw [← e]
  constructor <;> intro h <;> grind
theorem lineI_ok {a b : Cn} (ha : OkC a) (hb : OkC b) (h : 0 < (fDif b.1 a.1).1) : LnOf (cv a) (cv b) (lineI a b).1 (lineI a b).2.1 (lineI a b).2.2 := by
  have p1 := fDif_pos hb.1 ha.1
  have p2 := fDif_pos hb.2 ha.2
  have sp0 : 0 < (fDif b.2 a.2).2 * (fDif b.1 a.1).1 := Int.mul_pos p2 h
  have sp : 0 < (slopeI a b).2 := frd_pos sp0
  have v1 := fDif_v hb.1 ha.1
  have v2 := fDif_v hb.2 ha.2
  have sv : fv (slopeI a b) * (fv b.1 - fv a.1) = fv b.2 - fv a.2 := by
    have e : fv (slopeI a b) = qv ((fDif b.2 a.2).1 * (fDif b.1 a.1).2) ((fDif b.2 a.2).2 * (fDif b.1 a.1).1) := frd_v sp0
    have m := qv_mul (t := (fDif b.2 a.2).1 * (fDif b.1 a.1).2) sp0
    rw [← e, Rat.intCast_mul, Rat.intCast_mul] at m
    have m1 : fv (fDif b.1 a.1) * ((fDif b.1 a.1).2 : Rat) = ((fDif b.1 a.1).1 : Rat) := qv_mul p1
    have m2 : fv (fDif b.2 a.2) * ((fDif b.2 a.2).2 : Rat) = ((fDif b.2 a.2).1 : Rat) := qv_mul p2
    rw [v1] at m1
    rw [v2] at m2
    have n1 := cast_ne p1
    have n2 := cast_ne p2
    generalize fv (slopeI a b) = s at *
    generalize ((fDif b.1 a.1).1 : Rat) = A at *
    generalize ((fDif b.1 a.1).2 : Rat) = B at *
    generalize ((fDif b.2 a.2).1 : Rat) = C at *
    generalize ((fDif b.2 a.2).2 : Rat) = D at *
    have : (s * (fv b.1 - fv a.1) - (fv b.2 - fv a.2)) * (D * B) = 0 := by grind
    have nz : D * B ≠ 0 := by grind
    grind
  have q1 := fPro_pos sp ha.1
  have bp := fDif_pos ha.2 q1
  have bv : fv (fDif a.2 (fPro (slopeI a b) a.1)) = fv a.2 - fv (slopeI a b) * fv a.1 := by rw [fDif_v ha.2 q1, fPro_v sp ha.1]
  have ms : fv (slopeI a b) * ((slopeI a b).2 : Rat) = ((slopeI a b).1 : Rat) := qv_mul sp
  have mb : fv (fDif a.2 (fPro (slopeI a b) a.1)) * ((fDif a.2 (fPro (slopeI a b) a.1)).2 : Rat) = ((fDif a.2 (fPro (slopeI a b) a.1)).1 : Rat) := qv_mul bp
  rw [bv] at mb
  unfold lineI
  refine ⟨Int.mul_pos sp bp, ?_, ?_⟩
  · show (((slopeI a b).1 * (fDif a.2 (fPro (slopeI a b) a.1)).2 : Int) : Rat) * (fv b.1 - fv a.1) = (fv b.2 - fv a.2) * (((slopeI a b).2 * (fDif a.2 (fPro (slopeI a b) a.1)).2 : Int) : Rat)
    rw [Rat.intCast_mul, Rat.intCast_mul, ← ms, ← sv]
    grind
  · show (((fDif a.2 (fPro (slopeI a b) a.1)).1 * (slopeI a b).2 : Int) : Rat) = fv a.2 * (((slopeI a b).2 * (fDif a.2 (fPro (slopeI a b) a.1)).2 : Int) : Rat) - (((slopeI a b).1 * (fDif a.2 (fPro (slopeI a b) a.1)).2 : Int) : Rat) * fv a.1
    rw [Rat.intCast_mul, Rat.intCast_mul, Rat.intCast_mul, ← ms, ← mb]
    grind
/-! where they stand -/
def FrAt (H : Hp) (v : V) (f : Fq) : Prop := ∃ p, v = .ref p ∧ H p = some (.tup [.int f.1, .int f.2])
def CnAt (H : Hp) (v : V) (c : Cn) : Prop := ∃ p u w, v = .ref p ∧ H p = some (.tup [u, w]) ∧ FrAt H u c.1 ∧ FrAt H w c.2
theorem FrAt.ex {H H' : Hp} {v : V} {f : Fq} (h : FrAt H v f) (e : Ex H H') : FrAt H' v f := by
  obtain ⟨p, rfl, h⟩ := h
  exact ⟨p, rfl, e.at h⟩
theorem CnAt.ex {H H' : Hp} {v : V} {c : Cn} (h : CnAt H v c) (e : Ex H H') : CnAt H' v c := by
  obtain ⟨p, u, w, rfl, h, a, b⟩ := h
  exact ⟨p, u, w, rfl, e.at h, a.ex e, b.ex e⟩
theorem FrAt.kp {H H' : Hp} {d : Addr} {v : V} {f : Fq} (h : FrAt H v f) (k : Kp d H H') (D : Dr H d) : FrAt H' v f := by
  obtain ⟨p, rfl, h⟩ := h
  exact ⟨p, rfl, k.tup D h⟩
theorem CnAt.kp {H H' : Hp} {d : Addr} {v : V} {c : Cn} (h : CnAt H v c) (k : Kp d H H') (D : Dr H d) : CnAt H' v c := by
  obtain ⟨p, u, w, rfl, h, a, b⟩ := h
  exact ⟨p, u, w, rfl, k.tup D h, a.kp k D, b.kp k D⟩
theorem FrAt.kpL {H H' : Hp} {d : Addr} {v : V} {f : Fq} {ys : List V} (h : FrAt H v f) (k : Kp d H H') (D : H d = some (.lst ys)) : FrAt H' v f := by
  obtain ⟨p, rfl, h⟩ := h
  exact ⟨p, rfl, k.tupL D h⟩
theorem CnAt.kpL {H H' : Hp} {d : Addr} {v : V} {c : Cn} {ys : List V} (h : CnAt H v c) (k : Kp d H H') (D : H d = some (.lst ys)) : CnAt H' v c := by
  obtain ⟨p, u, w, rfl, h, a, b⟩ := h
  exact ⟨p, u, w, rfl, k.tupL D h, a.kpL k D, b.kpL k D⟩
/-- a sum, of like sizes -/
theorem Sz.add1 {n m k : Nat} {x y : Int} (h : Sz n x) (q : Sz m y) (hn : n < k := by decide) (hm : m < k := by decide) : Sz k (x + y) := by
  have a : Sz (k - 1) x := h.mono (by omega)
  have b : Sz (k - 1) y := q.mono (by omega)
  have a' : x.natAbs < 2 ^ (k - 1) := a
  have b' : y.natAbs < 2 ^ (k - 1) := b
  obtain ⟨j, rfl⟩ : ∃ j, k = j + 1 := ⟨k - 1, by omega⟩
  rw [Nat.add_sub_cancel] at a' b'
  show (x + y).natAbs < 2 ^ (j + 1)
  rw [Nat.pow_succ]
  omega
theorem Sz.sub1 {n m k : Nat} {x y : Int} (h : Sz n x) (q : Sz m y) (hn : n < k := by decide) (hm : m < k := by decide) : Sz k (x - y) := by
  rw [Int.sub_eq_add_neg]
  exact h.add1 q.neg hn hm
def SzF (n m : Nat) (f : Fq) : Prop := 0 < f.2 ∧ Sz n f.1 ∧ Sz m f.2
theorem SzF.mono {n m n' m' : Nat} {f : Fq} (h : SzF n m f) (a : n ≤ n' := by decide) (b : m ≤ m' := by decide) : SzF n' m' f := ⟨h.1, h.2.1.mono a, h.2.2.mono b⟩
theorem frd_sz {n m : Nat} {f : Fq} (h : SzF n m f) : SzF n m (frd f) := ⟨frd_pos h.1, h.2.1.div (gcd_pos h.1), h.2.2.div (gcd_pos h.1)⟩
theorem fDif_sz {n m n' m' k : Nat} {f g : Fq} (h : SzF n m f) (q : SzF n' m' g) (h1 : n + m' < k := by decide) (h2 : n' + m < k := by decide) : SzF k (m + m') (fDif f g) :=
  frd_sz (f := (f.1 * g.2 - g.1 * f.2, f.2 * g.2)) ⟨Int.mul_pos h.1 q.1, (h.2.1.mul q.2.2).sub1 (q.2.1.mul h.2.2) h1 h2, h.2.2.mul q.2.2⟩
theorem fPro_sz {n m n' m' : Nat} {f g : Fq} (h : SzF n m f) (q : SzF n' m' g) : SzF (n + n') (m + m') (fPro f g) :=
  frd_sz (f := (f.1 * g.1, f.2 * g.2)) ⟨Int.mul_pos h.1 q.1, h.2.1.mul q.2.1, h.2.2.mul q.2.2⟩
def SzC (c : Cn) : Prop := SzF 300 30 c.1 ∧ SzF 300 30 c.2
theorem SzC.ok {c : Cn} (h : SzC c) : OkC c := ⟨h.1.1, h.2.1⟩
theorem slopeI_sz {a b : Cn} (za : SzC a) (zb : SzC b) (h0 : 0 < (fDif b.1 a.1).1) : SzF 391 391 (slopeI a b) := by
  have y1 : SzF 331 60 (fDif b.1 a.1) := fDif_sz zb.1 za.1
  have y2 : SzF 331 60 (fDif b.2 a.2) := fDif_sz zb.2 za.2
  exact frd_sz (f := ((fDif b.2 a.2).1 * (fDif b.1 a.1).2, (fDif b.2 a.2).2 * (fDif b.1 a.1).1)) ⟨Int.mul_pos y2.1 h0, (y2.2.1.mul y1.2.2).mono (by decide), (y2.2.2.mul y1.2.1).mono (by decide)⟩
theorem beginI_sz {a b : Cn} (za : SzC a) (zb : SzC b) (h0 : 0 < (fDif b.1 a.1).1) : SzF 722 451 (fDif a.2 (fPro (slopeI a b) a.1)) := by
  have s := slopeI_sz za zb h0
  have q : SzF 691 421 (fPro (slopeI a b) a.1) := fPro_sz s za.1
  exact fDif_sz (k := 722) za.2 q
theorem lineI_sz {a b : Cn} (za : SzC a) (zb : SzC b) (h0 : 0 < (fDif b.1 a.1).1) : 0 < (lineI a b).2.2 ∧ Sz 842 (lineI a b).1 ∧ Sz 1113 (lineI a b).2.1 ∧ Sz 842 (lineI a b).2.2 := by
  have s := slopeI_sz za zb h0
  have q := beginI_sz za zb h0
  exact ⟨Int.mul_pos s.1 q.1, (s.2.1.mul q.2.2).mono (by decide), (q.2.1.mul s.2.2).mono (by decide), (s.2.2.mul q.2.2).mono (by decide)⟩

def sp_law_low (_ : PySem.W.Frag) : Sp := fun vs H Q _ => ∃ (t b : Int), vs = [.int t, .int b] ∧ 0 < b ∧ Sz 8000 b ∧
  ∀ p H', H p = none → Ex H H' → FrAt H' (.ref p) (frd (t, b)) → Q (.ref p) H'
theorem use_law_low {K : PySem.W.Frag} {H : Hp} {Q : VK} {E : XK} {t b : Int} (hb : 0 < b) (zb : Sz 8000 b)
    (q : ∀ p H', H p = none → Ex H H' → FrAt H' (.ref p) (frd (t, b)) → Q (.ref p) H') : sp_law_low K [.int t, .int b] H Q E := ⟨t, b, rfl, hb, zb, q⟩
abbrev s_law_low : Stmt := topS 23
abbrev nm_law_low : List Str := ["top", "bottom", "many"]
theorem sc_law_low : FnScope nm_law_low ["top", "bottom"] (defScope s_law_low) := ⟨rfl, rfl, rfl, by decide +kernel, rfl, by decide +kernel, by decide +kernel⟩
theorem st_law_low {v0 v1 : V} : start nm_law_low [v0, v1] = [some v0, some v1, none] := rfl
section
variable {P : Program} {w : World} {K : PySem.W.Frag} {mg : Str → Option Value} {base : Heap}
theorem ok_law_low (D : DefAt K mg "_law_low" s_law_low ["top", "bottom"]) (G__law_common : Has P w K mg base CX0 2 "_law_common" ["one", "other"] (sp_law_common K)) : Has P w K mg base CX0 3 "_law_low" ["top", "bottom"] (sp_law_low K) := by
  refine D.ok sc_law_low (by rintro _ _ _ _ ⟨_, _, rfl, _⟩; rfl) (fun f cdv A outer s H vs Q E hr h => ?_)
  obtain ⟨t, b, rfl, hb, zb, q⟩ := h
  refine ⟨_, (pss_cons (ps_set (i := 2) sc_law_low.nd rfl (Or.inl rfl) (pcall G__law_common (hr.mono (by decide)) (pa_cons (pv 0) (pa_cons (pv 1) pa_nil))))
      (pss_one (ps_ret (pe_tup (pa_cons (pe_op op_fdivW (pv 0) (pv 2)) (pa_cons (pe_op op_fdivW (pv 1) (pv 2)) pa_nil)))))), ?_⟩
  rw [st_law_low]
  try dsimp only [Cx.nox, Cx.wish, Cx.blk, cx_K]
  walk_at "go"
  refine use_law_common ?_
  have g := gcd_pos (a := t) hb
  have zg : Sz 8000 (Int.gcd t b : Int) := zb.le (by omega) (Int.gcd_le_right t hb)
  walk_at "go"
  rename_i p H1 n1 e1 h1
  exact q _ _ n1 e1 ⟨p, rfl, h1⟩

end
--@ needs Div
/-! sums, whole parts of many fractions -/
def sm (f : Nat → Int) : Nat → Int
  | 0 => 0
  | n + 1 => sm f n + f n
theorem sm_congr {f g : Nat → Int} : ∀ {n : Nat}, (∀ i, i < n → f i = g i) → sm f n = sm g n
  | 0, _ => rfl
  | n + 1, h => by
    show sm f n + f n = sm g n + g n
    rw [sm_congr (fun i hi => h i (by omega)), h n (by omega)]
theorem sm_add {f : Nat → Int} (n : Nat) : ∀ k : Nat, sm f (n + k) = sm f n + sm (fun i => f (n + i)) k
  | 0 => by
    show sm f n = sm f n + 0
    omega
  | k + 1 => by
    show sm f (n + k) + f (n + k) = sm f n + (sm (fun i => f (n + i)) k + f (n + k))
    rw [sm_add n k]
    omega
theorem sm_plus {f g : Nat → Int} : ∀ n : Nat, sm (fun i => f i + g i) n = sm f n + sm g n
  | 0 => rfl
  | n + 1 => by
    show sm (fun i => f i + g i) n + (f n + g n) = sm f n + f n + (sm g n + g n)
    rw [sm_plus n]
    omega
theorem sm_mul {f : Nat → Int} (c : Int) : ∀ n : Nat, sm (fun i => c * f i) n = c * sm f n
  | 0 => by show (0 : Int) = c * 0; rw [Int.mul_zero]
  | n + 1 => by
    show sm (fun i => c * f i) n + c * f n = c * (sm f n + f n)
    rw [sm_mul c n, Int.mul_add]
theorem sm_const (c : Int) : ∀ n : Nat, sm (fun _ => c) n = c * n
  | 0 => by show (0 : Int) = c * 0; rw [Int.mul_zero]
  | n + 1 => by
    show sm (fun _ => c) n + c = c * ((n : Int) + 1)
    rw [sm_const c n, Int.mul_add, Int.mul_one]
theorem sm_first {f : Nat → Int} : ∀ n : Nat, sm f (n + 1) = f 0 + sm (fun i => f (i + 1)) n
  | 0 => by
    show 0 + f 0 = f 0 + 0
    omega
  | n + 1 => by
    show sm f (n + 1) + f (n + 1) = f 0 + (sm (fun i => f (i + 1)) n + f (n + 1))
    rw [sm_first n]
    omega
theorem sm_rev {f : Nat → Int} : ∀ n : Nat, sm f n = sm (fun i => f (n - 1 - i)) n
  | 0 => rfl
  | n + 1 => by
    rw [sm_first (f := fun i => f (n + 1 - 1 - i))]
    show sm f n + f n = f (n + 1 - 1 - 0) + sm (fun i => f (n + 1 - 1 - (i + 1))) n
    rw [sm_rev n, sm_congr (g := fun i => f (n + 1 - 1 - (i + 1))) (fun i hi => by
      show f (n - 1 - i) = f (n + 1 - 1 - (i + 1))
      congr 1
      omega)]
    show _ + f n = f n + _
    omega
theorem sm_tri : ∀ n : Nat, 2 * sm (fun i => (i : Int)) n = (n : Int) * (n - 1)
  | 0 => rfl
  | n + 1 => by
    show 2 * (sm (fun i => (i : Int)) n + n) = ((n : Int) + 1) * ((n : Int) + 1 - 1)
    rw [Int.mul_add, sm_tri n, show (n : Int) + 1 - 1 = n by omega, Int.add_mul, Int.mul_sub]
    omega
theorem sm_tri2 (n : Nat) : (n : Int) * (n - 1) / 2 = sm (fun i => (i : Int)) n := by
  rw [← sm_tri n]
  omega
/-- the sum of the whole parts of (a k + b) / m over the first n places -/
@[irreducible] def fs (n : Nat) (a b m : Int) : Int := sm (fun k => (a * k + b) / m) n
theorem fs_zero (a b m : Int) : fs 0 a b m = 0 := by unfold fs; rfl
theorem fs_succ (n : Nat) (a b m : Int) : fs (n + 1) a b m = fs n a b m + (a * n + b) / m := by unfold fs; rfl
theorem fs_split (n : Nat) (a b : Int) {m : Int} (hm : 0 < m) : fs n a b m = a / m * ((n : Int) * (n - 1) / 2) + b / m * n + fs n (a % m) (b % m) m := by
  rw [sm_tri2]
  unfold fs
  rw [sm_congr (g := fun k : Nat => (a / m * (k : Int) + b / m) + (a % m * k + b % m) / m) (fun i _ => div_split a b i hm)]
  rw [sm_plus, sm_plus, sm_mul, sm_const]
theorem ediv_is {x m q : Int} (hm : 0 < m) (h0 : q * m ≤ x) (h1 : x < (q + 1) * m) : x / m = q := by
  have e1 : q ≤ x / m := (Int.le_ediv_iff_mul_le hm).mpr h0
  have e2 : x / m < q + 1 := (Int.ediv_lt_iff_lt_mul hm).mpr h1
  omega
/-- the places below a height -/
@[irreducible] def fsH (n : Int) (s m r : Int) (c : Nat) : Int := sm (fun i => n + (s - m * ((i : Int) + 1)) / r) c
theorem fsH_step (n s m r : Int) (c : Nat) : fsH (n + 1) s m r c = fsH n s m r c + c := by
  unfold fsH
  rw [sm_congr (g := fun i : Nat => (n + (s - m * ((i : Int) + 1)) / r) + 1) (fun i _ => by omega), sm_plus, sm_const]
  omega
/-- the turn: (r k + s) / m over n places, by m and r exchanged -/
theorem fs_turnH (s : Int) {m r : Int} (hr : 0 < r) (s0 : 0 ≤ s) (s1 : s < m) : ∀ n : Nat, fs n r s m = fsH n s m r ((r * n + s) / m).toNat := by
  have hm : 0 < m := by omega
  intro n
  induction n with
  | zero =>
    rw [show r * ((0 : Nat) : Int) + s = s by rw [show ((0 : Nat) : Int) = 0 from rfl, Int.mul_zero]; omega, Int.ediv_eq_zero_of_lt s0 s1]
    unfold fs fsH
    rfl
  | succ n ih =>
    rw [fs_succ, ih]
    generalize hy : (r * (n : Int) + s) / m = y
    generalize hz : (r * ((n + 1 : Nat) : Int) + s) / m = z
    have hn1 : r * ((n + 1 : Nat) : Int) + s = r * n + s + r := by
      rw [show ((n + 1 : Nat) : Int) = (n : Int) + 1 from rfl, Int.mul_add, Int.mul_one]
      omega
    have rn : 0 ≤ r * (n : Int) := Int.mul_nonneg (by omega) (by omega)
    have y0 : 0 ≤ y := by
      rw [← hy]
      exact Int.ediv_nonneg (by omega) (by omega)
    have yz : y ≤ z := by
      rw [← hy, ← hz, hn1]
      exact Int.ediv_le_ediv hm (by omega)
    obtain ⟨Y, hY⟩ : ∃ Y : Nat, y = Y := ⟨y.toNat, by omega⟩
    obtain ⟨D, hD⟩ : ∃ D : Nat, z = Y + D := ⟨(z - y).toNat, by omega⟩
    have eY : y.toNat = Y := by omega
    have eZ : z.toNat = Y + D := by omega
    rw [eY, eZ]
    show fsH n s m r Y + y = fsH (((n : Nat) : Int) + 1) s m r (Y + D)
    have e3 : fsH (((n : Nat) : Int) + 1) s m r (Y + D) = fsH (((n : Nat) : Int) + 1) s m r Y + sm (fun i => ((n : Nat) : Int) + 1 + (s - m * (((Y + i : Nat) : Int) + 1)) / r) D := by
      unfold fsH
      exact sm_add Y D
    rw [e3, fsH_step, sm_congr (g := fun _ => 0) (fun i hi => ?_), sm_const]
    · omega
    · have b1 : m * (((Y + i : Nat) : Int) + 1) ≤ r * n + s + r := by
        have h1 : z * m ≤ r * n + s + r := by
          rw [← hz, hn1]
          exact Int.ediv_mul_le _ (by omega)
        have h2 : (((Y + i : Nat) : Int) + 1) * m ≤ z * m := Int.mul_le_mul_of_nonneg_right (by omega) (by omega)
        rw [Int.mul_comm]
        omega
      have b2 : r * n + s < m * (((Y + i : Nat) : Int) + 1) := by
        have h1 : r * n + s < (y + 1) * m := by
          rw [← hy]
          exact Int.lt_ediv_add_one_mul_self _ hm
        have h2 : (y + 1) * m ≤ (((Y + i : Nat) : Int) + 1) * m := Int.mul_le_mul_of_nonneg_right (by omega) (by omega)
        rw [Int.mul_comm m]
        omega
      have q : (s - m * (((Y + i : Nat) : Int) + 1)) / r = -((n : Int) + 1) := by
        refine ediv_is hr ?_ ?_
        · rw [Int.neg_mul, Int.add_mul, Int.one_mul, Int.mul_comm (n : Int) r]
          omega
        · rw [show -((n : Int) + 1) + 1 = -(n : Int) by omega, Int.neg_mul, Int.mul_comm (n : Int) r]
          omega
      show ((n : Nat) : Int) + 1 + (s - m * (((Y + i : Nat) : Int) + 1)) / r = 0
      rw [q]
      omega
theorem fs_turn (n : Nat) (s : Int) {m r : Int} (hr : 0 ≤ r) (s0 : 0 ≤ s) (s1 : s < m) : fs n r s m = fs ((r * n + s) / m).toNat m ((r * n + s) % m) r := by
  have hm : 0 < m := by omega
  by_cases h : r = 0
  · subst h
    rw [Int.zero_mul, Int.zero_add, Int.ediv_eq_zero_of_lt s0 s1]
    rw [show Int.toNat 0 = 0 from rfl, fs_zero]
    unfold fs
    rw [sm_congr (g := fun _ => 0) (fun i _ => by rw [Int.zero_mul, Int.zero_add, Int.ediv_eq_zero_of_lt s0 s1]), sm_const]
    omega
  · rw [fs_turnH s (by omega) s0 s1 n]
    generalize hy : (r * (n : Int) + s) / m = y
    have rn : 0 ≤ r * (n : Int) := Int.mul_nonneg hr (by omega)
    have y0 : 0 ≤ y := by
      rw [← hy]
      exact Int.ediv_nonneg (by omega) (by omega)
    unfold fsH fs
    rw [sm_rev]
    refine sm_congr fun i hi => ?_
    have e := Int.emod_add_mul_ediv (r * n + s) m
    rw [hy] at e
    have c : (((y.toNat - 1 - i : Nat) : Int) + 1) = y - i := by omega
    show (n : Int) + (s - m * (((y.toNat - 1 - i : Nat) : Int) + 1)) / r = (m * (i : Int) + (r * n + s) % m) / r
    rw [c, show m * (i : Int) + (r * n + s) % m = (s - m * (y - i)) + r * n by rw [Int.mul_sub]; omega, Int.add_mul_ediv_left _ _ h]
    omega
theorem fs_loop (n : Nat) (a b : Int) {m : Int} (hm : 0 < m) :
    fs n a b m = a / m * ((n : Int) * (n - 1) / 2) + b / m * n + fs ((a % m * n + b % m) / m).toNat m ((a % m * n + b % m) % m) (a % m) := by
  rw [fs_split n a b hm, fs_turn n (b % m) (Int.emod_nonneg _ (by omega)) (Int.emod_nonneg _ (by omega)) (Int.emod_lt_of_pos _ hm)]
/-- the law's own turn, from the last place -/
theorem fs_quick (b : Int) {m a : Int} (a0 : 0 ≤ a) (b0 : 0 ≤ b) (b1 : b < m) : ∀ L : Nat, fs (L + 1) a b m = (L : Int) * ((a * L + b) / m) - fs ((a * L + b) / m).toNat m (m - b - 1) a := by
  have hm : 0 < m := by omega
  intro L
  induction L with
  | zero =>
    rw [show a * ((0 : Nat) : Int) + b = b by rw [show ((0 : Nat) : Int) = 0 from rfl, Int.mul_zero]; omega, Int.ediv_eq_zero_of_lt b0 b1, fs_succ]
    rw [show a * ((0 : Nat) : Int) + b = b by rw [show ((0 : Nat) : Int) = 0 from rfl, Int.mul_zero]; omega, Int.ediv_eq_zero_of_lt b0 b1, fs_zero, show Int.toNat 0 = 0 from rfl, fs_zero]
    rfl
  | succ n ih =>
    rw [fs_succ, ih]
    generalize hy : (a * (n : Int) + b) / m = y
    generalize hz : (a * ((n + 1 : Nat) : Int) + b) / m = z
    have hn1 : a * ((n + 1 : Nat) : Int) + b = a * n + b + a := by
      rw [show ((n + 1 : Nat) : Int) = (n : Int) + 1 from rfl, Int.mul_add, Int.mul_one]
      omega
    have rn : 0 ≤ a * (n : Int) := Int.mul_nonneg a0 (by omega)
    have y0 : 0 ≤ y := by
      rw [← hy]
      exact Int.ediv_nonneg (by omega) (by omega)
    have yz : y ≤ z := by
      rw [← hy, ← hz, hn1]
      exact Int.ediv_le_ediv hm (by omega)
    obtain ⟨Y, hY⟩ : ∃ Y : Nat, y = Y := ⟨y.toNat, by omega⟩
    obtain ⟨D, hD⟩ : ∃ D : Nat, z = Y + D := ⟨(z - y).toNat, by omega⟩
    have eY : y.toNat = Y := by omega
    have eZ : z.toNat = Y + D := by omega
    rw [eY, eZ]
    have e3 : fs (Y + D) m (m - b - 1) a = fs Y m (m - b - 1) a + sm (fun i => (m * ((Y + i : Nat) : Int) + (m - b - 1)) / a) D := by
      unfold fs
      exact sm_add Y D
    rw [e3, sm_congr (g := fun _ => (n : Int)) (fun i hi => ?_), sm_const, hD, hY]
    · rw [show ((n + 1 : Nat) : Int) = (n : Int) + 1 from rfl, Int.add_mul, Int.one_mul, Int.mul_add]
      omega
    · have b1' : (((Y + i : Nat) : Int) + 1) * m ≤ a * n + b + a := by
        have h1 : z * m ≤ a * n + b + a := by
          rw [← hz, hn1]
          exact Int.ediv_mul_le _ (by omega)
        have h2 : (((Y + i : Nat) : Int) + 1) * m ≤ z * m := Int.mul_le_mul_of_nonneg_right (by omega) (by omega)
        omega
      have b2 : a * n + b < (((Y + i : Nat) : Int) + 1) * m := by
        have h1 : a * n + b < (y + 1) * m := by
          rw [← hy]
          exact Int.lt_ediv_add_one_mul_self _ hm
        have h2 : (y + 1) * m ≤ (((Y + i : Nat) : Int) + 1) * m := Int.mul_le_mul_of_nonneg_right (by omega) (by omega)
        omega
      have ap : 0 < a := by omega
      show (m * ((Y + i : Nat) : Int) + (m - b - 1)) / a = (n : Int)
      have h3 : (((Y + i : Nat) : Int) + 1) * m = m * ((Y + i : Nat) : Int) + m := by rw [Int.add_mul, Int.one_mul, Int.mul_comm m]
      rw [h3] at b1' b2
      refine ediv_is ap ?_ ?_
      · rw [Int.mul_comm (n : Int) a]
        omega
      · rw [Int.add_mul, Int.one_mul, Int.mul_comm (n : Int) a]
        omega
theorem fs_add (n k : Nat) (a b m : Int) : fs (n + k) a b m = fs n a b m + fs k a (a * n + b) m := by
  unfold fs
  rw [sm_add]
  congr 1
  refine sm_congr fun i _ => ?_
  show (a * ((n + i : Nat) : Int) + b) / m = (a * (i : Int) + (a * (n : Int) + b)) / m
  rw [show ((n + i : Nat) : Int) = (n : Int) + i from rfl, Int.mul_add]
  congr 1
  omega
theorem fs_a (n : Nat) (a b y : Int) {m : Int} (hm : 0 < m) : fs n (a + y * m) b m = fs n a b m + y * ((n : Int) * (n - 1) / 2) := by
  rw [sm_tri2, ← sm_mul]
  unfold fs
  rw [← sm_plus]
  refine sm_congr fun i _ => ?_
  show ((a + y * m) * (i : Int) + b) / m = (a * (i : Int) + b) / m + y * (i : Int)
  rw [show (a + y * m) * (i : Int) + b = (a * i + b) + m * (y * i) by
    rw [Int.add_mul, Int.mul_comm y m, Int.mul_assoc]
    omega, Int.add_mul_ediv_left _ _ (by omega : m ≠ 0)]
theorem fs_b (n : Nat) (a b y : Int) {m : Int} (hm : 0 < m) : fs n a (b + y * m) m = fs n a b m + y * n := by
  rw [← sm_const]
  unfold fs
  rw [← sm_plus]
  refine sm_congr fun i _ => ?_
  show (a * (i : Int) + (b + y * m)) / m = (a * (i : Int) + b) / m + y
  rw [show a * (i : Int) + (b + y * m) = (a * i + b) + m * y by
    rw [Int.mul_comm y m]
    omega, Int.add_mul_ediv_left _ _ (by omega : m ≠ 0)]
theorem fs_rev (n : Nat) (a b m : Int) : fs n (0 - a) (a * (n - 1) + b) m = fs n a b m := by
  unfold fs
  rw [sm_rev]
  refine sm_congr fun i hi => ?_
  show ((0 - a) * ((n - 1 - i : Nat) : Int) + (a * ((n : Int) - 1) + b)) / m = (a * (i : Int) + b) / m
  rw [show ((n - 1 - i : Nat) : Int) = (n : Int) - 1 - i by omega, Int.sub_mul, Int.zero_mul, Int.mul_sub a _ (i : Int)]
  congr 1
  omega

--@ needs FracM Sum
/-! the sides of a ring, summed over whole x -/
structure Eg where
  f : Int
  l : Int
  a : Int
  b : Int
  m : Int
def sr (g : Int → Int) (lo hi : Int) : Int := sm (fun k : Nat => g (lo + k)) (hi - lo).toNat
theorem sr_self (g : Int → Int) (lo : Int) : sr g lo lo = 0 := by
  unfold sr
  rw [Int.sub_self]
  rfl
theorem sr_split (g : Int → Int) {lo mid hi : Int} (h : lo ≤ mid) (k : mid ≤ hi) : sr g lo hi = sr g lo mid + sr g mid hi := by
  unfold sr
  rw [show (hi - lo).toNat = (mid - lo).toNat + (hi - mid).toNat by omega, sm_add]
  congr 1
  refine sm_congr fun i _ => ?_
  rw [show lo + (((mid - lo).toNat + i : Nat) : Int) = mid + i by omega]
theorem sr_congr {g g' : Int → Int} {lo hi : Int} (h : ∀ x, lo ≤ x → x < hi → g x = g' x) : sr g lo hi = sr g' lo hi := by
  unfold sr
  exact sm_congr fun i hi => h _ (by omega) (by omega)
theorem sr_plus (g g' : Int → Int) (lo hi : Int) : sr (fun x => g x + g' x) lo hi = sr g lo hi + sr g' lo hi := by
  unfold sr
  exact sm_plus _
theorem sr_const (c lo hi : Int) (h : lo ≤ hi) : sr (fun _ => c) lo hi = c * (hi - lo) := by
  unfold sr
  rw [sm_const]
  congr 1
  omega
theorem sr_zero {g : Int → Int} {lo hi : Int} (h : ∀ x, lo ≤ x → x < hi → g x = 0) : sr g lo hi = 0 := by
  rw [sr_congr (g' := fun _ => 0) h]
  unfold sr
  rw [sm_const]
  omega
/-- a sum over more, of nothing -/
theorem sr_wide {g : Int → Int} {lo hi lo' hi' : Int} (h1 : lo' ≤ lo) (h : lo ≤ hi) (h2 : hi ≤ hi') (z1 : ∀ x, x < lo → g x = 0) (z2 : ∀ x, hi ≤ x → g x = 0) : sr g lo' hi' = sr g lo hi := by
  rw [sr_split g h1 (by omega : lo ≤ hi'), sr_split g h h2, sr_zero (fun x _ h => z1 x h), sr_zero (fun x h _ => z2 x h)]
  omega
theorem sr_fs {a b m lo hi : Int} : fs (hi - lo).toNat a (a * lo + b) m = sr (fun x => (a * x + b) / m) lo hi := by
  unfold fs sr
  refine sm_congr fun i _ => ?_
  show _ = (a * (lo + (i : Int)) + b) / m
  rw [Int.mul_add]
  congr 1
  omega
/-- the sides' sum: behind i edges -/
structure SideI (es : List Eg) (g : Int → Int) (first : Int) (i : Nat) (begin total : Int) : Prop where
  le : first ≤ begin
  past : ∀ j e, j < i → es[j]? = some e → e.l < begin
  at_ : begin = first ∨ ∃ e ∈ es, begin = e.l + 1
  sum : total = sr g first begin
/-- edges from the left, all x covered, one height at each x -/
structure SideW (es : List Eg) (g : Int → Int) : Prop where
  up : es.Pairwise fun e e' => e.f ≤ e'.f
  all : ∀ x, (∃ e ∈ es, e.f ≤ x) → (∃ e ∈ es, x ≤ e.l) → ∃ e ∈ es, e.f ≤ x ∧ x ≤ e.l
  one : ∀ e ∈ es, ∀ x, e.f ≤ x → x ≤ e.l → (e.a * x + e.b) / e.m = g x
theorem SideI.zero {es : List Eg} {g : Int → Int} {e0 : Eg} (_ : es[0]? = some e0) : SideI es g e0.f 0 e0.f 0 := ⟨Int.le_refl _, fun _ _ h => absurd h (Nat.not_lt_zero _), .inl rfl, (sr_self _ _).symm⟩
theorem SideI.skip {es : List Eg} {g : Int → Int} {first begin total : Int} {i : Nat} {e : Eg} (I : SideI es g first i begin total) (h : es[i]? = some e) (n : ¬ begin ≤ e.l) : SideI es g first (i + 1) begin total :=
  ⟨I.le, fun j e' hj he => by
    by_cases z : j = i
    · subst z
      rw [h] at he
      cases he
      omega
    · exact I.past j e' (by omega) he, I.at_, I.sum⟩
theorem SideI.step {es : List Eg} {g : Int → Int} {e0 : Eg} {begin total : Int} {i : Nat} {e : Eg} (W : SideW es g) (h0 : es[0]? = some e0) (I : SideI es g e0.f i begin total) (h : es[i]? = some e) (n : begin ≤ e.l) :
    SideI es g e0.f (i + 1) (e.l + 1) (total + fs (e.l - begin + 1).toNat e.a (e.a * begin + e.b) e.m) := by
  have m0 : e0 ∈ es := List.mem_of_getElem? h0
  have mi : e ∈ es := List.mem_of_getElem? h
  have ef : e.f ≤ begin := by
    obtain ⟨e', me', c1, c2⟩ := W.all begin ⟨e0, m0, I.le⟩ ⟨e, mi, n⟩
    obtain ⟨j, hj⟩ := List.getElem?_of_mem me'
    by_cases z : j < i
    · have := I.past j e' z hj
      omega
    · by_cases z2 : j = i
      · subst z2
        rw [h] at hj
        cases hj
        exact c1
      · have li : i < es.length := (List.getElem?_eq_some_iff.mp h).1
        have lj : j < es.length := (List.getElem?_eq_some_iff.mp hj).1
        have p := List.pairwise_iff_getElem.mp W.up i j li lj (by omega)
        rw [(List.getElem?_eq_some_iff.mp h).2, (List.getElem?_eq_some_iff.mp hj).2] at p
        omega
  refine ⟨by have := I.le; omega, fun j e' hj he => ?_, .inr ⟨e, mi, rfl⟩, ?_⟩
  · by_cases z : j = i
    · subst z
      rw [h] at he
      cases he
      omega
    · have := I.past j e' (by omega) he
      omega
  · rw [I.sum, show e.l - begin + 1 = (e.l + 1) - begin by omega, sr_fs, sr_split g I.le (by omega : begin ≤ e.l + 1)]
    congr 1
    exact sr_congr fun x h1 h2 => W.one e mi x (by omega) (by omega)
theorem SideI.last {es : List Eg} {g : Int → Int} {first begin total : Int} (I : SideI es g first es.length begin total) {x : Int} (hx : first ≤ x) : x < begin ↔ ∃ e ∈ es, x ≤ e.l := by
  constructor
  · intro h
    rcases I.at_ with z | ⟨e, he, z⟩
    · omega
    · exact ⟨e, he, by omega⟩
  · rintro ⟨e, he, h⟩
    obtain ⟨j, hj⟩ := List.getElem?_of_mem he
    have := I.past j e (List.getElem?_eq_some_iff.mp hj).1 hj
    omega
/-- the least first x stands first -/
theorem SideW.first {es : List Eg} {g : Int → Int} (W : SideW es g) {e0 : Eg} (h0 : es[0]? = some e0) {x : Int} : e0.f ≤ x ↔ ∃ e ∈ es, e.f ≤ x := by
  constructor
  · exact fun h => ⟨e0, List.mem_of_getElem? h0, h⟩
  · rintro ⟨e, he, h⟩
    obtain ⟨j, hj⟩ := List.getElem?_of_mem he
    by_cases z : j = 0
    · subst z
      rw [h0] at hj
      cases hj
      exact h
    · have li : 0 < es.length := (List.getElem?_eq_some_iff.mp h0).1
      have lj : j < es.length := (List.getElem?_eq_some_iff.mp hj).1
      have p := List.pairwise_iff_getElem.mp W.up 0 j li lj (by omega)
      rw [(List.getElem?_eq_some_iff.mp h0).2, (List.getElem?_eq_some_iff.mp hj).2] at p
      omega
/-! what is counted -/
noncomputable def ind (p : Prop) : Int := @ite _ p (Classical.propDecidable p) 1 0
theorem ind_yes {p : Prop} (h : p) : ind p = 1 := by unfold ind; exact if_pos h
theorem ind_no {p : Prop} (h : ¬ p) : ind p = 0 := by unfold ind; exact if_neg h
/-- the whole points of a box that are within -/
noncomputable def cnt (S : Int → Int → Prop) (B : Int) : Int := sr (fun x => sr (fun y => ind (S x y)) (-B) (B + 1)) (-B) (B + 1)
/-- N whole points in all -/
def Cnt (S : Int → Int → Prop) (N : Int) : Prop := ∃ B0 : Int, ∀ B, B0 ≤ B → cnt S B = N
theorem Cnt.uniq {S : Int → Int → Prop} {N M : Int} (h : Cnt S N) (k : Cnt S M) : N = M := by
  obtain ⟨B, hB⟩ := h
  obtain ⟨C, hC⟩ := k
  rw [← hB (max B C) (by omega), hC (max B C) (by omega)]
/-- y from c to u -/
theorem sr_col {p : Int → Prop} {c u B : Int} (h : ∀ y, p y ↔ c ≤ y ∧ y ≤ u) (cu : c ≤ u + 1) (c0 : -B ≤ c) (u0 : u ≤ B) : sr (fun y => ind (p y)) (-B) (B + 1) = u - c + 1 := by
  rw [sr_wide c0 cu (by omega : u + 1 ≤ B + 1) (fun x hx => ind_no (by rw [h]; omega)) (fun x hx => ind_no (by rw [h]; omega)), sr_congr (g' := fun _ => 1) (fun y h1 h2 => ind_yes (by rw [h]; omega)), sr_const _ _ _ cu]
  omega
theorem bound_all (g : Int → Int) (lo : Int) : ∀ n : Nat, ∃ B : Int, ∀ x, lo ≤ x → x < lo + n → -B ≤ g x ∧ g x ≤ B
  | 0 => ⟨0, fun x h1 h2 => by omega⟩
  | n + 1 => by
    obtain ⟨B, hB⟩ := bound_all g lo n
    refine ⟨max B (max (g (lo + n)) (- g (lo + n))), fun x h1 h2 => ?_⟩
    by_cases z : x = lo + n
    · subst z
      omega
    · have := hB x h1 (by omega)
      omega
/-- columns from x0 to below x1, each from c x to u x -/
theorem Cnt.of {S : Int → Int → Prop} {c u : Int → Int} {x0 x1 : Int} (h01 : x0 ≤ x1) (h : ∀ x y, S x y ↔ (x0 ≤ x ∧ x < x1) ∧ c x ≤ y ∧ y ≤ u x) (cu : ∀ x, x0 ≤ x → x < x1 → c x ≤ u x + 1) : Cnt S (sr (fun x => u x - c x + 1) x0 x1) := by
  obtain ⟨B1, b1⟩ := bound_all c x0 (x1 - x0).toNat
  obtain ⟨B2, b2⟩ := bound_all u x0 (x1 - x0).toNat
  refine ⟨max (max B1 B2) (max (max x0 (-x0)) (max x1 (-x1))), fun B hB => ?_⟩
  unfold cnt
  rw [sr_wide (lo := x0) (hi := x1) (by omega) h01 (by omega)]
  · refine sr_congr fun x h1 h2 => ?_
    have := b1 x h1 (by omega)
    have := b2 x h1 (by omega)
    exact sr_col (fun y => by rw [h]; omega) (cu x h1 h2) (by omega) (by omega)
  · intro x hx
    refine sr_zero fun y _ _ => ind_no ?_
    rw [h]
    omega
  · intro x hx
    refine sr_zero fun y _ _ => ind_no ?_
    rw [h]
    omega

--@ needs FracV SideM
/-! a ring where it stands -/
def cI (cs : List Cn) (k : Nat) : Cn := (cs[k % cs.length]?).getD ((0, 1), (0, 1))
def RingI (cs : List Cn) : Prop := 3 ≤ cs.length ∧ cs.length ≤ 20 ∧ ∀ k, k < cs.length → ∀ j, j < cs.length → j ≠ k → j ≠ (k + 1) % cs.length → 0 < handI (cI cs k) (cI cs (k + 1)) (cI cs j)
structure RgAt (K : PySem.W.Frag) (H : Hp) (a : Addr) (rs : List (V × Cn)) : Prop where
  l : SqL K H a (rs.map (·.1))
  c : ∀ r ∈ rs, CnAt H r.1 r.2
  z : ∀ r ∈ rs, SzC r.2
def rcs (rs : List (V × Cn)) : List Cn := rs.map (·.2)
theorem RgAt.ex {K : PySem.W.Frag} {H H' : Hp} {a : Addr} {rs : List (V × Cn)} (R : RgAt K H a rs) (e : Ex H H') : RgAt K H' a rs := ⟨sql_up e R.l, fun r hr => (R.c r hr).ex e, R.z⟩
/-- corner number k mod n -/
theorem RgAt.at {K : PySem.W.Frag} {H : Hp} {a : Addr} {rs : List (V × Cn)} (R : RgAt K H a rs) {i : Int} (h0 : 0 ≤ i) (h1 : i < rs.length) : ∃ v, atI (rs.map (·.1)) i = some v ∧ CnAt H v (cI (rcs rs) i.toNat) ∧ SzC (cI (rcs rs) i.toNat) := by
  have hl : i.toNat < rs.length := by omega
  refine ⟨(rs[i.toNat]).1, at_of (j := i.toNat) (by omega) (by rw [List.getElem?_map, List.getElem?_eq_getElem hl]; rfl), ?_⟩
  have e : cI (rcs rs) i.toNat = (rs[i.toNat]).2 := by
    unfold cI rcs
    rw [List.length_map, Nat.mod_eq_of_lt hl, List.getElem?_map, List.getElem?_eq_getElem hl]
    rfl
  rw [e]
  exact ⟨R.c _ (List.getElem_mem hl), R.z _ (List.getElem_mem hl)⟩
theorem cI_mod (cs : List Cn) (k : Nat) : cI cs (k % cs.length) = cI cs k := by
  unfold cI
  rw [Nat.mod_mod]
theorem cI_mem {cs : List Cn} (h : 0 < cs.length) (k : Nat) : cI cs k ∈ cs := by
  unfold cI
  rw [List.getElem?_eq_getElem (Nat.mod_lt k h)]
  exact List.getElem_mem _
theorem cI_lt {cs : List Cn} {k : Nat} (h : k < cs.length) : cs[k]? = some (cI cs k) := by
  unfold cI
  rw [Nat.mod_eq_of_lt h, List.getElem?_eq_getElem h]
  rfl
def pts (cs : List Cn) : List Pt := cs.map cv
theorem cor_pts {cs : List Cn} (h : 0 < cs.length) (k : Nat) : cor (pts cs) k = cv (cI cs k) := by
  unfold cor cI pts
  rw [List.length_map, List.getElem?_map, List.getElem?_eq_getElem (Nat.mod_lt k h)]
  rfl
/-- a ring by the program's own reckoning is one -/
theorem ringI_iff {cs : List Cn} (ok : ∀ c ∈ cs, OkC c) : RingI cs ↔ RingP (pts cs) ∧ cs.length ≤ 20 := by
  unfold RingI RingP
  rw [show (pts cs).length = cs.length from List.length_map ..]
  constructor
  · rintro ⟨h3, h20, h⟩
    have n0 : 0 < cs.length := by omega
    refine ⟨⟨h3, fun k hk j hj a b => ?_⟩, h20⟩
    rw [cor_pts n0, cor_pts n0, cor_pts n0]
    exact (handI_cr (ok _ (cI_mem n0 _)) (ok _ (cI_mem n0 _)) (ok _ (cI_mem n0 _))).mp (h k hk j hj a b)
  · rintro ⟨⟨h3, h⟩, h20⟩
    have n0 : 0 < cs.length := by omega
    refine ⟨h3, h20, fun k hk j hj a b => ?_⟩
    have := h k hk j hj a b
    rw [cor_pts n0, cor_pts n0, cor_pts n0] at this
    exact (handI_cr (ok _ (cI_mem n0 _)) (ok _ (cI_mem n0 _)) (ok _ (cI_mem n0 _))).mpr this
theorem RgAt.ok {K : PySem.W.Frag} {H : Hp} {a : Addr} {rs : List (V × Cn)} (R : RgAt K H a rs) : ∀ c ∈ rcs rs, OkC c := fun c hc => by
  obtain ⟨r, hr, rfl⟩ := List.mem_map.mp hc
  exact (R.z r hr).ok
theorem mod1 (n i : Nat) : ((i : Int) + 1) % (n : Int) = (((i + 1) % n : Nat) : Int) := by
  rw [Int.natCast_emod]
  rfl

/-! sorted(xs), xs a list of data (whole numbers, texts, tuples of these ..) -/
def rSortD (K : PySem.W.Frag) : List V → Hp → VK → Prop := fun vs H Q => ∃ (a : Addr) (bs : List (V × PyData)), vs = [V.ref a] ∧ SqL K H a (bs.map (·.1)) ∧ (∀ b ∈ bs, Dp K H b.1 b.2) ∧
  PySem.W.AllAlike (bs.map (·.2)) ∧ PySem.W.Sortable (bs.map (·.2)) ∧ (∀ b ∈ bs, b.2.depth ≤ 60) ∧
  ∀ p, H p = none → Q (.ref p) (upd H p (.lst ((bs.mergeSort (PySem.W.dataLe false (·.2))).map (·.1))))
theorem each_vals {H : Hp} {vs : List Value} : ∀ {bs : List (V × PyData)} {vs : List Value}, Vals (bs.map (·.1)) vs → PySem.W.EachIs (fun v (b : V × PyData) => RelV b.1 v) vs bs
  | [], _, r => by
    cases r
    exact .nil
  | b :: bs, _, r => by
    cases r with
    | cons h t => exact .cons h (each_vals (H := H) (vs := vs) t)
theorem vals_each : ∀ {bs : List (V × PyData)} {vs : List Value}, PySem.W.EachIs (fun v (b : V × PyData) => RelV b.1 v) vs bs → Vals (bs.map (·.1)) vs
  | _, _, .nil => .nil
  | _, _, .cons h t => .cons h (vals_each t)
theorem each_reads {X : Cx} {pins : List (Addr × Obj)} {σ : L2.St} {H : Hp} {s : Shared} (I : Inv X pins σ H s) : ∀ {bs : List (V × PyData)} {vs : List Value}, (∀ b ∈ bs, Dp X.K H b.1 b.2) → PySem.W.EachIs (fun v (b : V × PyData) => RelV b.1 v) vs bs →
    PySem.W.EachIs (fun v (b : V × PyData) => ∃ as, Reads s.heap v b.2 as) vs bs
  | _, _, _, .nil => .nil
  | b :: bs, _, d, .cons h t => .cons (Dp.reads I _ _ _ (d b List.mem_cons_self) h) (each_reads I (fun b hb => d b (List.mem_cons_of_mem _ hb)) t)
theorem cr_sortedD {X : Cx} (hu : X.A.units + 64 < cLine) : CallR X (.builtin "sorted") (rSortD X.K) := by
  intro pins s σ H vs us Q I r h
  obtain ⟨a, bs, rfl, hs, hd, hal, hk, hdp, q⟩ := h
  obtain ⟨its, rv, hl, hz⟩ := I.list hs
  rw [Vals.ref1 r]
  have ee := each_vals (H := H) (vs := []) rv
  refine PySem.W.sorted_data (vs := its) (enc := (·.2)) hl.isList ee (each_reads I hd ee) hal hk (by rw [← List.length_map (f := (·.1))]; exact hz) (fun b hb => by have := hdp b hb; omega) fun out h1 h2 => ?_
  obtain ⟨ep, he'⟩ := PyProof.Rows.sortedAll_at s.heap its out.toArray
  have hlen : ((bs.mergeSort (PySem.W.dataLe false (·.2))).map (·.1)).length ≤ sizeLine := by
    rw [List.length_map, List.length_mergeSort, ← List.length_map (f := (·.1)) (as := bs)]
    exact hz
  exact ⟨.ref _, upd H (s.heap.objs.size + 1) (.lst ((bs.mergeSort (PySem.W.dataLe false (·.2))).map (·.1))), I.laid (t' := s.toks) (fun _ _ => PyProof.Rows.sortedAll_old) (Nat.le_succ _) ⟨hlen, out.toArray.toList, ep, vals_each h2, he'⟩, rfl, q _ (I.hok.fresh (Nat.le_succ _))⟩

--@ needs RingV SortD
/-! the edges of a ring's sides -/
def egO (o t : Cn) : Option Eg := if 0 < (fDif t.1 o.1).1 then some ⟨0 - (0 - o.1.1) / o.1.2, t.1.1 / t.1.2, (lineI o t).1, (lineI o t).2.1, (lineI o t).2.2⟩ else none
def egI (cs : List Cn) (side : Int) (k : Nat) : Option Eg := if side = 1 then egO (cI cs (k + 1)) (cI cs k) else egO (cI cs k) (cI cs (k + 1))
def sideL (cs : List Cn) (side : Int) (n : Nat) : List Eg := (List.range n).filterMap (egI cs side)
theorem sideL_succ (cs : List Cn) (side : Int) (n : Nat) : sideL cs side (n + 1) = sideL cs side n ++ (egI cs side n).toList := by
  unfold sideL
  rw [List.range_succ, List.filterMap_append]
  congr 1
/-- e is the edge from p to q, p left of q -/
def EgOf (p q : Pt) (e : Eg) : Prop := p.1 < q.1 ∧ (∀ x : Int, e.f ≤ x ↔ p.1 ≤ (x : Rat)) ∧ (∀ x : Int, x ≤ e.l ↔ (x : Rat) ≤ q.1) ∧ LnOf p q e.a e.b e.m
theorem egO_of {o t : Cn} {e : Eg} (ho : OkC o) (ht : OkC t) (h : egO o t = some e) : EgOf (cv o) (cv t) e := by
  unfold egO at h
  split at h
  · next c =>
    cases h
    refine ⟨(fDif_sign ht.1 ho.1).mp c, fun x => ceil_le ho.1, fun x => le_floor ht.1, lineI_ok ho ht c⟩
  · cases h
theorem egO_ex {o t : Cn} (ho : OkC o) (ht : OkC t) (h : (cv o).1 < (cv t).1) : ∃ e, egO o t = some e := by
  unfold egO
  rw [if_pos ((fDif_sign ht.1 ho.1).mpr h)]
  exact ⟨_, rfl⟩
def szE (e : Eg) : Prop := Sz 302 e.f ∧ Sz 302 e.l ∧ Sz 842 e.a ∧ Sz 1113 e.b ∧ Sz 842 e.m ∧ 0 < e.m
theorem egO_sz {o t : Cn} {e : Eg} (ho : SzC o) (ht : SzC t) (h : egO o t = some e) : szE e := by
  unfold egO at h
  split at h
  · next c =>
    cases h
    have z := lineI_sz ho ht c
    have z0 : Sz 300 (0 : Int) := (Sz.lit (x := 0)).mono (by decide)
    refine ⟨?_, (Sz.div ht.1.2.1 ht.1.1).mono (by decide), z.2.1, z.2.2.1, z.2.2.2, z.1⟩
    exact Sz.sub1 (k := 302) z0 (Sz.div (Sz.sub1 (k := 301) z0 ho.1.2.1) ho.1.1) (by decide) (by decide)
  · cases h
/-- a lower (side 0) or upper side of a ring -/
def pA (P : List Pt) (side : Int) (k : Nat) : Pt := if side = 1 then cor P (k + 1) else cor P k
def pB (P : List Pt) (side : Int) (k : Nat) : Pt := if side = 1 then cor P k else cor P (k + 1)
structure SideE (P : List Pt) (side : Int) (es : List Eg) : Prop where
  of : ∀ e ∈ es, ∃ k, k < P.length ∧ EgOf (pA P side k) (pB P side k) e
  ex : ∀ k, k < P.length → (pA P side k).1 < (pB P side k).1 → ∃ e ∈ es, EgOf (pA P side k) (pB P side k) e
theorem sideL_e {cs : List Cn} {side : Int} (n0 : 0 < cs.length) (ok : ∀ c ∈ cs, OkC c) : SideE (pts cs) side (sideL cs side cs.length) := by
  have len : (pts cs).length = cs.length := List.length_map ..
  constructor
  · intro e he
    obtain ⟨k, hk, h⟩ := List.mem_filterMap.mp he
    refine ⟨k, by rw [len]; exact List.mem_range.mp hk, ?_⟩
    unfold egI at h
    unfold pA pB
    split at h
    · next s =>
      rw [if_pos s, if_pos s, cor_pts n0, cor_pts n0]
      exact egO_of (ok _ (cI_mem n0 _)) (ok _ (cI_mem n0 _)) h
    · next s =>
      rw [if_neg s, if_neg s, cor_pts n0, cor_pts n0]
      exact egO_of (ok _ (cI_mem n0 _)) (ok _ (cI_mem n0 _)) h
  · intro k hk h
    rw [len] at hk
    unfold pA pB at h ⊢
    by_cases s : side = 1
    · rw [if_pos s, if_pos s] at h ⊢
      rw [cor_pts n0, cor_pts n0] at h ⊢
      obtain ⟨e, he⟩ := egO_ex (ok _ (cI_mem n0 _)) (ok _ (cI_mem n0 _)) h
      exact ⟨e, List.mem_filterMap.mpr ⟨k, List.mem_range.mpr hk, by unfold egI; rw [if_pos s]; exact he⟩, egO_of (ok _ (cI_mem n0 _)) (ok _ (cI_mem n0 _)) he⟩
    · rw [if_neg s, if_neg s] at h ⊢
      rw [cor_pts n0, cor_pts n0] at h ⊢
      obtain ⟨e, he⟩ := egO_ex (ok _ (cI_mem n0 _)) (ok _ (cI_mem n0 _)) h
      exact ⟨e, List.mem_filterMap.mpr ⟨k, List.mem_range.mpr hk, by unfold egI; rw [if_neg s]; exact he⟩, egO_of (ok _ (cI_mem n0 _)) (ok _ (cI_mem n0 _)) he⟩
theorem SideE.perm {P : List Pt} {side : Int} {es es' : List Eg} (h : SideE P side es) (p : es'.Perm es) : SideE P side es' :=
  ⟨fun e he => h.of e (p.mem_iff.mp he), fun k hk hl => by
    obtain ⟨e, he, z⟩ := h.ex k hk hl
    exact ⟨e, p.mem_iff.mpr he, z⟩⟩
/-- x is between the least and the greatest x of the corners -/
def OverX (P : List Pt) (x : Int) : Prop := (∃ i, (cor P i).1 ≤ (x : Rat)) ∧ ∃ j, (x : Rat) ≤ (cor P j).1
def covers (x : Int) (e : Eg) : Prop := e.f ≤ x ∧ x ≤ e.l
instance (x : Int) (e : Eg) : Decidable (covers x e) := inferInstanceAs (Decidable (_ ∧ _))
/-- the rounded up height of the lower side, the rounded down one of the upper side -/
def lowC (e : Eg) (x : Int) : Int := 0 - (0 - (e.a * x + e.b)) / e.m
def highU (e : Eg) (x : Int) : Int := (e.a * x + e.b) / e.m
theorem SideE.cov {P : List Pt} {side : Int} {es : List Eg} (R : RingP P) (h : SideE P side es) (s : side = 0 ∨ side = 1) {x : Int} (o : OverX P x) : ∃ e ∈ es, covers x e := by
  obtain ⟨⟨i, hi⟩, j, hj⟩ := o
  rcases s with rfl | rfl
  · obtain ⟨k, hk, k1, k2, k3⟩ := R.low_at hi hj
    obtain ⟨e, he, ef⟩ := h.ex k hk k3
    exact ⟨e, he, (ef.2.1 x).mpr k1, (ef.2.2.1 x).mpr k2⟩
  · obtain ⟨k, hk, k1, k2, k3⟩ := R.high_at hi hj
    obtain ⟨e, he, ef⟩ := h.ex k hk k3
    exact ⟨e, he, (ef.2.1 x).mpr k1, (ef.2.2.1 x).mpr k2⟩
theorem SideE.over {P : List Pt} {side : Int} {es : List Eg} (h : SideE P side es) {x : Int} {e e' : Eg} (he : e ∈ es) (he' : e' ∈ es) (c1 : e.f ≤ x) (c2 : x ≤ e'.l) : OverX P x := by
  obtain ⟨k, hk, ef⟩ := h.of e he
  obtain ⟨k', hk', ef'⟩ := h.of e' he'
  have a := (ef.2.1 x).mp c1
  have b := (ef'.2.2.1 x).mp c2
  unfold pA at a
  unfold pB at b
  constructor
  · split at a
    · exact ⟨_, a⟩
    · exact ⟨_, a⟩
  · split at b
    · exact ⟨_, b⟩
    · exact ⟨_, b⟩
/-- within, by a lower and an upper edge over x -/
theorem ins_by {P : List Pt} {lo hi : List Eg} (R : RingP P) (hl : SideE P 0 lo) (hh : SideE P 1 hi) {x : Int} {e e' : Eg} (he : e ∈ lo) (he' : e' ∈ hi) (c : covers x e) (c' : covers x e') (y : Int) :
    InsP P ((x : Rat), (y : Rat)) ↔ lowC e x ≤ y ∧ y ≤ highU e' x := by
  obtain ⟨k, hk, ef⟩ := hl.of e he
  obtain ⟨l, hl', ef'⟩ := hh.of e' he'
  have i := R.ins_iff (y := (y : Rat)) ((ef.2.1 x).mp c.1) ((ef.2.2.1 x).mp c.2) ef.1 ((ef'.2.1 x).mp c'.1) ((ef'.2.2.1 x).mp c'.2) ef'.1
  have u := ef.2.2.2.low ef.1 x y
  have v := ef'.2.2.2.high ef'.1 x y
  rw [i]
  exact ⟨fun h => ⟨u.mp h.1, v.mp h.2⟩, fun h => ⟨u.mpr h.1, v.mpr h.2⟩⟩
/-- two edges of one side over one x have one height there -/
theorem low_one {P : List Pt} {es : List Eg} (R : RingP P) (h : SideE P 0 es) {x : Int} {e e' : Eg} (he : e ∈ es) (he' : e' ∈ es) (c : covers x e) (c' : covers x e') : lowC e x = lowC e' x := by
  obtain ⟨k, hk, ef⟩ := h.of e he
  obtain ⟨l, hl, ef'⟩ := h.of e' he'
  have a : ∀ y : Int, lowC e x ≤ y → lowC e' x ≤ y := fun y hy =>
    (ef'.2.2.2.low ef'.1 x y).mp (R.one_low ((ef.2.1 x).mp c.1) ((ef.2.2.1 x).mp c.2) ef.1 ef'.1 ((ef.2.2.2.low ef.1 x y).mpr hy))
  have b : ∀ y : Int, lowC e' x ≤ y → lowC e x ≤ y := fun y hy =>
    (ef.2.2.2.low ef.1 x y).mp (R.one_low ((ef'.2.1 x).mp c'.1) ((ef'.2.2.1 x).mp c'.2) ef'.1 ef.1 ((ef'.2.2.2.low ef'.1 x y).mpr hy))
  have := a _ (Int.le_refl _)
  have := b _ (Int.le_refl _)
  omega
theorem high_one {P : List Pt} {es : List Eg} (R : RingP P) (h : SideE P 1 es) {x : Int} {e e' : Eg} (he : e ∈ es) (he' : e' ∈ es) (c : covers x e) (c' : covers x e') : highU e x = highU e' x := by
  obtain ⟨k, hk, ef⟩ := h.of e he
  obtain ⟨l, hl, ef'⟩ := h.of e' he'
  have a : ∀ y : Int, y ≤ highU e x → y ≤ highU e' x := fun y hy =>
    (ef'.2.2.2.high ef'.1 x y).mp (R.one_high ((ef.2.1 x).mp c.1) ((ef.2.2.1 x).mp c.2) ef.1 ef'.1 ((ef.2.2.2.high ef.1 x y).mpr hy))
  have b : ∀ y : Int, y ≤ highU e' x → y ≤ highU e x := fun y hy =>
    (ef.2.2.2.high ef.1 x y).mp (R.one_high ((ef'.2.1 x).mp c'.1) ((ef'.2.2.1 x).mp c'.2) ef'.1 ef.1 ((ef'.2.2.2.high ef'.1 x y).mpr hy))
  have := a _ (Int.le_refl _)
  have := b _ (Int.le_refl _)
  omega
/-- the height of a side at x, by the first edge over it -/
def hgt (h : Eg → Int → Int) (es : List Eg) (x : Int) : Int := ((es.find? fun e => decide (covers x e)).map fun e => h e x).getD 0
theorem hgt_is {h : Eg → Int → Int} {es : List Eg} {x : Int} {e : Eg} (he : e ∈ es) (c : covers x e) (one : ∀ e ∈ es, ∀ e' ∈ es, covers x e → covers x e' → h e x = h e' x) : hgt h es x = h e x := by
  unfold hgt
  cases f : es.find? fun e => decide (covers x e) with
  | none => exact absurd (decide_eq_true c) (List.find?_eq_none.mp f e he)
  | some e' =>
    have m := List.mem_of_find?_eq_some f
    have c' : covers x e' := of_decide_eq_true (p := covers x e') (List.find?_some (p := fun e => decide (covers x e)) f)
    exact one e' m e he c' c
def turnE (t : Bool) (e : Eg) : Eg := if t = true then ⟨e.f, e.l, 0 - e.a, 0 - e.b, e.m⟩ else e
theorem turnE_f (t : Bool) (e : Eg) : (turnE t e).f = e.f := by cases t <;> rfl
theorem turnE_l (t : Bool) (e : Eg) : (turnE t e).l = e.l := by cases t <;> rfl
theorem sideW_low {P : List Pt} {es : List Eg} (R : RingP P) (h : SideE P 0 es) (up : es.Pairwise fun e e' => e.f ≤ e'.f) : SideW (es.map (turnE true)) (fun x => - hgt lowC es x) := by
  refine ⟨by rw [List.pairwise_map]; exact up, ?_, ?_⟩
  · rintro x ⟨e, he, c⟩ ⟨e', he', c'⟩
    obtain ⟨e, me, rfl⟩ := List.mem_map.mp he
    obtain ⟨e', me', rfl⟩ := List.mem_map.mp he'
    obtain ⟨e2, he2, c2⟩ := h.cov R (.inl rfl) (h.over me me' c c')
    exact ⟨_, List.mem_map.mpr ⟨e2, he2, rfl⟩, c2⟩
  · intro e he x c c'
    obtain ⟨e, me, rfl⟩ := List.mem_map.mp he
    have eq : hgt lowC es x = lowC e x := hgt_is me ⟨c, c'⟩ (fun e he e' he' c c' => low_one R h he he' c c')
    rw [eq]
    show ((0 - e.a) * x + (0 - e.b)) / e.m = -(0 - (0 - (e.a * x + e.b)) / e.m)
    rw [show (0 - e.a) * x + (0 - e.b) = 0 - (e.a * x + e.b) by grind]
    omega
theorem sideW_high {P : List Pt} {es : List Eg} (R : RingP P) (h : SideE P 1 es) (up : es.Pairwise fun e e' => e.f ≤ e'.f) : SideW (es.map (turnE false)) (hgt highU es) := by
  refine ⟨by rw [List.pairwise_map]; exact up, ?_, ?_⟩
  · rintro x ⟨e, he, c⟩ ⟨e', he', c'⟩
    obtain ⟨e, me, rfl⟩ := List.mem_map.mp he
    obtain ⟨e', me', rfl⟩ := List.mem_map.mp he'
    obtain ⟨e2, he2, c2⟩ := h.cov R (.inr rfl) (h.over me me' c c')
    exact ⟨_, List.mem_map.mpr ⟨e2, he2, rfl⟩, c2⟩
  · intro e he x c c'
    obtain ⟨e, me, rfl⟩ := List.mem_map.mp he
    have eq : hgt highU es x = highU e x := hgt_is me ⟨c, c'⟩ (fun e he e' he' c c' => high_one R h he he' c c')
    rw [eq]
    rfl
/-- the x of a ring: from the first edge's first on, to below the end -/
theorem side_x {P : List Pt} {side : Int} {es : List Eg} {t : Bool} {g : Int → Int} {e0 : Eg} {fin total : Int} (R : RingP P) (h : SideE P side es) (s : side = 0 ∨ side = 1) (W : SideW (es.map (turnE t)) g) (h0 : (es.map (turnE t))[0]? = some e0)
    (I : SideI (es.map (turnE t)) g e0.f (es.map (turnE t)).length fin total) (x : Int) : OverX P x ↔ e0.f ≤ x ∧ x < fin := by
  constructor
  · intro o
    obtain ⟨e, he, c⟩ := h.cov R s o
    have a : e0.f ≤ x := (W.first h0).mpr ⟨_, List.mem_map.mpr ⟨e, he, rfl⟩, by rw [turnE_f]; exact c.1⟩
    exact ⟨a, (I.last a).mpr ⟨_, List.mem_map.mpr ⟨e, he, rfl⟩, by rw [turnE_l]; exact c.2⟩⟩
  · rintro ⟨a, b⟩
    obtain ⟨_, m, c⟩ := (W.first h0).mp a
    obtain ⟨_, m', c'⟩ := (I.last a).mp b
    obtain ⟨e, he, rfl⟩ := List.mem_map.mp m
    obtain ⟨e', he', rfl⟩ := List.mem_map.mp m'
    rw [turnE_f] at c
    rw [turnE_l] at c'
    exact h.over he he' c c'
/-- how many whole points there are -/
theorem ring_count {P : List Pt} {lo hi : List Eg} (R : RingP P) (hl : SideE P 0 lo) (hh : SideE P 1 hi) (ul : lo.Pairwise fun e e' => e.f ≤ e'.f) (uh : hi.Pairwise fun e e' => e.f ≤ e'.f)
    {e0 e1 : Eg} {finL finH tl th : Int} (h0 : (lo.map (turnE true))[0]? = some e0) (h1 : (hi.map (turnE false))[0]? = some e1)
    (IL : SideI (lo.map (turnE true)) (fun x => - hgt lowC lo x) e0.f (lo.map (turnE true)).length finL tl) (IH : SideI (hi.map (turnE false)) (hgt highU hi) e1.f (hi.map (turnE false)).length finH th) :
    Cnt (fun x y => InsP P ((x : Rat), (y : Rat))) (th + tl + (finL - e0.f)) := by
  have xl := side_x R hl (.inl rfl) (sideW_low R hl ul) h0 IL
  have xh := side_x R hh (.inr rfl) (sideW_high R hh uh) h1 IH
  have ll := IL.le
  have lh := IH.le
  have key : th = sr (hgt highU hi) e0.f finL := by
    rw [IH.sum]
    by_cases z : e0.f < finL
    · have a := (xh e0.f).mp ((xl e0.f).mpr ⟨Int.le_refl _, z⟩)
      have b := (xh (finL - 1)).mp ((xl (finL - 1)).mpr ⟨by omega, by omega⟩)
      have c := (xl e1.f).mp ((xh e1.f).mpr ⟨Int.le_refl _, by omega⟩)
      have d := (xl (finH - 1)).mp ((xh (finH - 1)).mpr ⟨by omega, by omega⟩)
      rw [show e1.f = e0.f by omega, show finH = finL by omega]
    · have w : ¬ e1.f < finH := fun w => by
        have := (xl e1.f).mp ((xh e1.f).mpr ⟨Int.le_refl _, w⟩)
        omega
      rw [show finL = e0.f by omega, show finH = e1.f by omega, sr_self, sr_self]
  have e : th + tl + (finL - e0.f) = sr (fun x => hgt highU hi x - hgt lowC lo x + 1) e0.f finL := by
    rw [key, IL.sum, sr_congr (g := fun x => hgt highU hi x - hgt lowC lo x + 1) (g' := fun x => (hgt highU hi x + (- hgt lowC lo x)) + 1) (fun x _ _ => by omega), sr_plus (fun x => hgt highU hi x + (- hgt lowC lo x)) (fun _ => 1), sr_plus, sr_const _ _ _ ll]
    omega
  rw [e]
  have at_ : ∀ x, e0.f ≤ x → x < finL → ∃ e ∈ lo, ∃ e' ∈ hi, covers x e ∧ covers x e' ∧ hgt lowC lo x = lowC e x ∧ hgt highU hi x = highU e' x := fun x a b => by
    have o := (xl x).mpr ⟨a, b⟩
    obtain ⟨e, he, c⟩ := hl.cov R (.inl rfl) o
    obtain ⟨e', he', c'⟩ := hh.cov R (.inr rfl) o
    exact ⟨e, he, e', he', c, c', hgt_is he c (fun e he e' he' c c' => low_one R hl he he' c c'), hgt_is he' c' (fun e he e' he' c c' => high_one R hh he he' c c')⟩
  refine Cnt.of ll (fun x y => ?_) (fun x a b => ?_)
  · constructor
    · intro i
      have o : OverX P x := R.ins_wide i
      have ab := (xl x).mp o
      obtain ⟨e, he, e', he', c, c', e1, e2⟩ := at_ x ab.1 ab.2
      rw [e1, e2]
      exact ⟨ab, (ins_by R hl hh he he' c c' y).mp i⟩
    · rintro ⟨ab, i⟩
      obtain ⟨e, he, e', he', c, c', e1, e2⟩ := at_ x ab.1 ab.2
      rw [e1, e2] at i
      exact (ins_by R hl hh he he' c c' y).mpr i
  · obtain ⟨e, he, e', he', c, c', e1, e2⟩ := at_ x a b
    rw [e1, e2]
    obtain ⟨k, hk, ef⟩ := hl.of e he
    obtain ⟨l, hl', ef'⟩ := hh.of e' he'
    apply Classical.byContradiction
    intro no
    have g := R.gap (y := ((lowC e x - 1 : Int) : Rat)) ((ef.2.1 x).mp c.1) ((ef.2.2.1 x).mp c.2) ef.1 ((ef'.2.1 x).mp c'.1) ((ef'.2.2.1 x).mp c'.2) ef'.1
    have u := ef.2.2.2.low ef.1 x (lowC e x - 1)
    have v := ef'.2.2.2.high ef'.1 x (lowC e x - 1)
    have v' : 0 ≤ cr (cor P l) (cor P (l + 1)) ((x : Rat), ((lowC e x - 1 : Int) : Rat)) := g (fun z => by
      have := u.mp z
      unfold lowC at this
      omega)
    have := v.mp v'
    unfold highU at no
    omega
/-! edges where they stand -/
def EgAt (H : Hp) (v : V) (e : Eg) : Prop := ∃ p q, v = .ref p ∧ H p = some (.tup [.int e.f, .int e.l, .ref q]) ∧ H q = some (.tup [.int e.a, .int e.b, .int e.m])
theorem EgAt.ex {H H' : Hp} {v : V} {e : Eg} (h : EgAt H v e) (x : Ex H H') : EgAt H' v e := by
  obtain ⟨p, q, rfl, a, b⟩ := h
  exact ⟨p, q, rfl, x.at a, x.at b⟩
theorem EgAt.kpL {H H' : Hp} {d : Addr} {v : V} {e : Eg} {ys : List V} (h : EgAt H v e) (k : Kp d H H') (D : H d = some (.lst ys)) : EgAt H' v e := by
  obtain ⟨p, q, rfl, a, b⟩ := h
  exact ⟨p, q, rfl, k.tupL D a, k.tupL D b⟩
structure EgsAt (H : Hp) (l : Addr) (es : List (V × Eg)) : Prop where
  l : H l = some (.lst (es.map (·.1)))
  e : ∀ e ∈ es, EgAt H e.1 e.2
theorem EgsAt.ex {H H' : Hp} {l : Addr} {es : List (V × Eg)} (h : EgsAt H l es) (x : Ex H H') : EgsAt H' l es := ⟨x.at h.l, fun e he => (h.e e he).ex x⟩
/-! sorted edges -/
def egD (e : Eg) : PyData := .tuple [.int e.f, .int e.l, .tuple [.int e.a, .int e.b, .int e.m]]
theorem egD_dp {K : PySem.W.Frag} {H : Hp} {v : V} {e : Eg} (h : EgAt H v e) : Dp K H v (egD e) := by
  obtain ⟨p, q, rfl, a, b⟩ := h
  exact .tup (SqT.of a) (.cons (.int _) (.cons (.int _) (.cons (.tup (SqT.of b) (.cons (.int _) (.cons (.int _) (.cons (.int _) .nil)))) .nil)))
theorem egD_alike (e e' : Eg) : PySem.W.alike (egD e) (egD e') = true := by
  simp [egD, PySem.W.alike, PySem.W.alikeAll]
theorem egD_depth (e : Eg) : (egD e).depth ≤ 60 := by
  simp [egD, PyData.depth, PyData.depthAll]
theorem egD_le {e e' : Eg} (h : PySem.W.dataLe false (fun (d : PyData) => d) (egD e) (egD e') = true) : e.f ≤ e'.f := by
  have h : (!PySem.W.dataLt (egD e') (egD e)) = true := h
  unfold egD at h
  rw [PySem.W.dataLt_tuple, PySem.W.dataLt_cons (by simp [PySem.W.alike])] at h
  by_cases z : e'.f = e.f
  · omega
  · rw [if_neg (by simp [PyData.eqv, z]), PySem.W.dataLt_int] at h
    simp at h
    exact h
theorem r_sortE {K : PySem.W.Frag} {H : Hp} {Q : VK} {l : Addr} {es : List (V × Eg)} (h : EgsAt H l es)
    (k : ∀ p H1 es', H p = none → Ex H H1 → EgsAt H1 p es' → es'.Perm es → (es'.map (·.2)).Pairwise (fun e e' => e.f ≤ e'.f) → Q (.ref p) H1) : rSortD K [.ref l] H Q := by
  have m1 : (es.map fun e => (e.1, egD e.2)).map (·.1) = es.map (·.1) := by rw [List.map_map]; rfl
  refine ⟨l, es.map fun e => (e.1, egD e.2), rfl, SqL.of (by rw [m1]; exact h.l), ?_, ?_, ?_, ?_, fun p hp => ?_⟩
  · intro b hb
    obtain ⟨e, he, rfl⟩ := List.mem_map.mp hb
    exact egD_dp (h.e e he)
  · rw [List.map_map]
    exact PySem.W.AllAlike.of fun b b' => egD_alike _ _
  · rw [List.map_map]
    exact PySem.W.Sortable.tuples fun b => ⟨_, _, rfl⟩
  · intro b hb
    obtain ⟨e, he, rfl⟩ := List.mem_map.mp hb
    exact egD_depth _
  · have sm : (es.map fun e => (e.1, egD e.2)).mergeSort (PySem.W.dataLe false (·.2)) = (es.mergeSort (PySem.W.dataLe false fun e => egD e.2)).map fun e => (e.1, egD e.2) := (PySem.W.sort_maps (fun e : V × Eg => (e.1, egD e.2)) (fun a _ b _ => rfl)).symm
    rw [sm, List.map_map]
    have pm := List.mergeSort_perm es (PySem.W.dataLe false fun e => egD e.2)
    have x : Ex H (upd H p (.lst (((es.mergeSort (PySem.W.dataLe false fun e => egD e.2)).map ((·.1) ∘ fun e => (e.1, egD e.2)))))) := Ex.new hp
    refine k p _ (es.mergeSort (PySem.W.dataLe false fun e => egD e.2)) hp x ⟨upd_same, fun e he => (h.e e (pm.mem_iff.mp he)).ex x⟩ pm ?_
    rw [List.pairwise_map]
    have tl : PySem.W.TotalLe (PySem.W.dataLe false fun e : V × Eg => egD e.2) := PySem.W.sortLe_total _ _ _
    exact (PySem.W.sort_pairwise tl es).imp fun {a b} h => egD_le h

--@ needs RingW
/-! comprehensions over lists of things of which more is known -/
theorem lc_prF {β : Type} {K : PySem.W.Frag} {σ : L2.St} {H : Hp} {Q : VK} {te : TE} {tt : TT} {a : Addr} {es : List (V × β)} {j : Nat} {vs : List Nat} (c : V × β → Bool) (f : V × β → V) (hx : SqL K H a (es.map (·.1))) (hn : es.length ≤ 100000) (hw : ∀ x, wipe ((wipe σ vs).set j (some x)) vs = wipe σ vs)
    (ht : ∀ e ∈ es, PureT tt ((wipe σ vs).set j (some e.1)) H (c e)) (he : ∀ e ∈ es, c e = true → PureE te ((wipe σ vs).set j (some e.1)) H (f e))
    (k : ∀ p H1, H p = none → Ex H H1 → H1 p = some (.lst ((es.filter c).map f)) → Q (.ref p) H1) : LcB (Itl K a) (gName j) tt te vs σ H Q := fun Dl hD => by
  refine lc_list (xs := es.map (·.1)) (fun i H' => Ex H H' ∧ H' Dl = some (.lst (((es.take i).filter c).map f))) ⟨Ex.new hD, upd_same⟩ (fun i H' _ p => sql_up p.1 hx) (fun i x H' hi p => ?_) (fun H' p => k Dl H' hD p.1 (by rw [p.2, List.length_map, List.take_length]))
  rw [List.getElem?_map] at hi
  obtain ⟨z, hz, rfl⟩ := Option.map_eq_some_iff.mp hi
  have mem := List.mem_of_getElem? hz
  have tk : es.take (i + 1) = es.take i ++ [z] := by rw [List.take_add_one, hz]; rfl
  refine ⟨hw _, ht z mem H' p.1 _ fun H2 e2 => ?_⟩
  cases hc : c z with
  | true =>
    rw [if_pos rfl]
    refine he z mem hc H2 (p.1.trans e2) _ fun H3 e3 => ⟨_, e3 _ _ (e2 _ _ p.2), ?_, ?_⟩
    · rw [List.length_map]
      have := List.length_filter_le c (es.take i)
      rw [List.length_take] at this
      exact len_lt (by omega)
    · refine ⟨fun b o hb => ?_, ?_⟩
      · rw [upd_ne (ne_of_none hb hD)]
        exact e3 _ _ (e2 _ _ (p.1 _ _ hb))
      · rw [upd_same, tk, List.filter_append, List.map_append]
        simp [hc]
  | false =>
    rw [if_neg Bool.false_ne_true]
    refine ⟨p.1.trans e2, ?_⟩
    rw [tk, List.filter_append, List.map_append]
    simp [hc, e2 _ _ p.2]
/-- the line of an edge, as it stands -/
def lnV (H : Hp) : V → V
  | .ref p => match H p with
    | some (.tup [_, _, q]) => q
    | _ => .non
  | _ => .non
def rowE (e : Eg) : List Int := [e.a, e.b, e.m]
theorem lnV_rows {H H' : Hp} : ∀ {es : List (V × Eg)}, (∀ e ∈ es, EgAt H e.1 e.2) → Ex H H' → RowsA H' (es.map fun e => lnV H e.1) (es.map fun e => rowE e.2)
  | [], _, _ => trivial
  | e :: es, h, x => by
    obtain ⟨p, q, v, a, b⟩ := h e List.mem_cons_self
    refine ⟨⟨q, ?_, x.at b⟩, lnV_rows (fun e he => h e (List.mem_cons_of_mem _ he)) x⟩
    show lnV H e.1 = .ref q
    rw [v]
    show (match H p with | some (.tup [_, _, q]) => q | _ => V.non) = .ref q
    rw [a]
/-! what points_in and points_at tell -/
def ringS (cs : List Cn) (x y : Int) : Prop := InsP (pts cs) ((x : Rat), (y : Rat))
def AtX (cs : List Cn) (x : Int) : Option (Int × Int) → Prop
  | none => ∀ y, ¬ ringS cs x y
  | some r => r.1 ≤ r.2 ∧ ∀ y, ringS cs x y ↔ r.1 ≤ y ∧ y ≤ r.2
theorem AtX.uniq {cs : List Cn} {x : Int} : ∀ {r r' : Option (Int × Int)}, AtX cs x r → AtX cs x r' → r = r'
  | none, none, _, _ => rfl
  | none, some r, h, h' => absurd ((h'.2 r.1).mpr ⟨Int.le_refl _, h'.1⟩) (h _)
  | some r, none, h, h' => absurd ((h.2 r.1).mpr ⟨Int.le_refl _, h.1⟩) (h' _)
  | some (a, b), some (c, d), h, h' => by
    have ab : a ≤ b := h.1
    have cd : c ≤ d := h'.1
    have h1 : ∀ y, (a ≤ y ∧ y ≤ b) ↔ (c ≤ y ∧ y ≤ d) := fun y => (h.2 y).symm.trans (h'.2 y)
    have e1 := (h1 a).mp ⟨Int.le_refl _, ab⟩
    have e2 := (h1 b).mp ⟨ab, Int.le_refl _⟩
    have e3 := (h1 c).mpr ⟨Int.le_refl _, cd⟩
    have e4 := (h1 d).mpr ⟨cd, Int.le_refl _⟩
    rw [show a = c by omega, show b = d by omega]
/-- the sides of a ring, from the left -/
structure Sides2 (cs : List Cn) (lo hi : List Eg) : Prop where
  r : RingP (pts cs)
  l : SideE (pts cs) 0 lo
  h : SideE (pts cs) 1 hi
  ul : lo.Pairwise fun e e' => e.f ≤ e'.f
  uh : hi.Pairwise fun e e' => e.f ≤ e'.f
theorem ringI_low {cs : List Cn} (ok : ∀ c ∈ cs, OkC c) (I : RingI cs) {lo : List Eg} (h : SideE (pts cs) 0 lo) : ∃ e, lo[0]? = some e := by
  have R := ((ringI_iff ok).mp I).1
  obtain ⟨k, hk, _, _, k3⟩ := R.low_at (x := (cor (pts cs) 0).1) (i := 0) (j := 0) Rat.le_refl Rat.le_refl
  obtain ⟨e, he, _⟩ := h.ex k hk k3
  cases lo with
  | nil => exact absurd he List.not_mem_nil
  | cons e l => exact ⟨e, rfl⟩
theorem ringI_high {cs : List Cn} (ok : ∀ c ∈ cs, OkC c) (I : RingI cs) {hi : List Eg} (h : SideE (pts cs) 1 hi) : ∃ e, hi[0]? = some e := by
  have R := ((ringI_iff ok).mp I).1
  obtain ⟨k, hk, _, _, k3⟩ := R.high_at (x := (cor (pts cs) 0).1) (i := 0) (j := 0) Rat.le_refl Rat.le_refl
  obtain ⟨e, he, _⟩ := h.ex k hk k3
  cases hi with
  | nil => exact absurd he List.not_mem_nil
  | cons e l => exact ⟨e, rfl⟩
theorem RingI.len {cs : List Cn} (I : RingI cs) : 0 < cs.length := by have := I.1; omega
theorem sideL_szE {rs : List (V × Cn)} {side : Int} (n0 : 0 < rs.length) (z : ∀ r ∈ rs, SzC r.2) : ∀ e ∈ sideL (rcs rs) side rs.length, szE e := fun e he => by
  have n0' : 0 < (rcs rs).length := by unfold rcs; rw [List.length_map]; exact n0
  have z' : ∀ k, SzC (cI (rcs rs) k) := fun k => by
    obtain ⟨r, hr, e⟩ := List.mem_map.mp (cI_mem n0' k)
    rw [← e]
    exact z r hr
  obtain ⟨k, _, h⟩ := List.mem_filterMap.mp he
  unfold egI at h
  split at h
  · exact egO_sz (z' _) (z' _) h
  · exact egO_sz (z' _) (z' _) h
/-- at x, by the first edges over x -/
theorem atX_of {cs : List Cn} {lo hi : List Eg} (S : Sides2 cs lo hi) {x : Int} {e e' : Eg} {ls hs : List Eg} (hl : (lo.filter fun e => decide (covers x e)) = e :: ls) (hh : (hi.filter fun e => decide (covers x e)) = e' :: hs) :
    AtX cs x (if lowC e x > highU e' x then none else some (lowC e x, highU e' x)) := by
  have m1 : e ∈ lo.filter fun e => decide (covers x e) := by rw [hl]; exact List.mem_cons_self
  have m2 : e' ∈ hi.filter fun e => decide (covers x e) := by rw [hh]; exact List.mem_cons_self
  rw [List.mem_filter] at m1 m2
  have i := ins_by S.r S.l S.h m1.1 m2.1 (of_decide_eq_true m1.2) (of_decide_eq_true m2.2)
  split
  · intro y hy
    have := (i y).mp hy
    omega
  · exact ⟨by show lowC e x ≤ highU e' x; omega, i⟩
theorem atX_no {cs : List Cn} {lo hi : List Eg} (S : Sides2 cs lo hi) {x : Int} (hl : (lo.filter fun e => decide (covers x e)) = []) : AtX cs x none := fun y hy => by
  have o : OverX (pts cs) x := S.r.ins_wide hy
  obtain ⟨e, he, c⟩ := S.l.cov S.r (.inl rfl) o
  have := List.filter_eq_nil_iff.mp hl e he
  exact this (decide_eq_true c)
theorem atX_yes {cs : List Cn} {lo hi : List Eg} (S : Sides2 cs lo hi) {x : Int} {e : Eg} {ls : List Eg} (hl : (lo.filter fun e => decide (covers x e)) = e :: ls) : ∃ e' hs, (hi.filter fun e => decide (covers x e)) = e' :: hs := by
  have m1 : e ∈ lo.filter fun e => decide (covers x e) := by rw [hl]; exact List.mem_cons_self
  rw [List.mem_filter] at m1
  have c := of_decide_eq_true m1.2
  obtain ⟨e', he', c'⟩ := S.h.cov S.r (.inr rfl) (S.l.over m1.1 m1.1 c.1 c.2)
  cases h : hi.filter fun e => decide (covers x e) with
  | nil => exact absurd (decide_eq_true c') (List.filter_eq_nil_iff.mp h e' he')
  | cons a b => exact ⟨a, b, rfl⟩

--@ needs FracV
/-! the law's own hand: products alone -/
def stepI (two one : Fq) : Int := two.1 * one.2 - one.1 * two.2
def handL (a b c : Cn) : Int := stepI b.1 a.1 * stepI c.2 a.2 * b.2.2 * c.1.2 - stepI b.2 a.2 * stepI c.1 a.1 * b.1.2 * c.2.2
theorem stepI_v {f g : Fq} (hf : 0 < f.2) (hg : 0 < g.2) : ((stepI f g : Int) : Rat) = (fv f - fv g) * (f.2 : Rat) * (g.2 : Rat) := by
  have h1 : fv f * (f.2 : Rat) = (f.1 : Rat) := qv_mul hf
  have h2 : fv g * (g.2 : Rat) = (g.1 : Rat) := qv_mul hg
  unfold stepI
  rw [Rat.intCast_sub, Rat.intCast_mul, Rat.intCast_mul, ← h1, ← h2]
  grind
theorem handL_v {a b c : Cn} (ha : OkC a) (hb : OkC b) (hc : OkC c) : ((handL a b c : Int) : Rat) = cr (cv a) (cv b) (cv c) * ((a.1.2 * a.2.2 * b.1.2 * b.2.2 * c.1.2 * c.2.2 : Int) : Rat) := by
  unfold handL
  rw [Rat.intCast_sub, Rat.intCast_mul, Rat.intCast_mul, Rat.intCast_mul, Rat.intCast_mul, Rat.intCast_mul, Rat.intCast_mul, stepI_v hb.1 ha.1, stepI_v hc.2 ha.2, stepI_v hb.2 ha.2, stepI_v hc.1 ha.1,
    Rat.intCast_mul, Rat.intCast_mul, Rat.intCast_mul, Rat.intCast_mul, Rat.intCast_mul]
  unfold cr cv
  grind
theorem hand_d {a b c : Cn} (ha : OkC a) (hb : OkC b) (hc : OkC c) : (0 : Rat) < ((a.1.2 * a.2.2 * b.1.2 * b.2.2 * c.1.2 * c.2.2 : Int) : Rat) :=
  cast_pos (Int.mul_pos (Int.mul_pos (Int.mul_pos (Int.mul_pos (Int.mul_pos ha.1 ha.2) hb.1) hb.2) hc.1) hc.2)
theorem handL_pos {a b c : Cn} (ha : OkC a) (hb : OkC b) (hc : OkC c) : 0 < handL a b c ↔ 0 < cr (cv a) (cv b) (cv c) := by
  have e := handL_v ha hb hc
  have d := hand_d ha hb hc
  have c1 : (0 : Rat) < ((handL a b c : Int) : Rat) ↔ 0 < handL a b c := by
    have : ((0 : Int) : Rat) < ((handL a b c : Int) : Rat) ↔ 0 < handL a b c := Rat.intCast_lt_intCast
    exact this
  rw [← c1, e]
  constructor
  · intro h
    apply Classical.byContradiction
    intro n
    have : 0 ≤ (-cr (cv a) (cv b) (cv c)) * ((a.1.2 * a.2.2 * b.1.2 * b.2.2 * c.1.2 * c.2.2 : Int) : Rat) := Rat.mul_nonneg (by grind) (Rat.le_of_lt d)
    grind
  · intro h
    exact Rat.mul_pos h d
theorem handL_nonneg {a b c : Cn} (ha : OkC a) (hb : OkC b) (hc : OkC c) : 0 ≤ handL a b c ↔ 0 ≤ cr (cv a) (cv b) (cv c) := by
  have e := handL_v ha hb hc
  have d := hand_d ha hb hc
  rw [← cast_nonneg, e]
  constructor
  · intro h
    exact nn_mul d (by grind)
  · intro h
    exact Rat.mul_nonneg h (Rat.le_of_lt d)

/-- [e for j in a range], e new objects -/
theorem lc_rngE {σ : L2.St} {H : Hp} {Q : VK} {te : TE} {lo : Int} {n j : Nat} {vs : List Nat} (P : Addr → Nat → V → Hp → Prop) (hP : ∀ D i v H H', Kp D H H' → P D i v H → P D i v H') (hn : n ≤ 100000) (hw : ∀ x, wipe ((wipe σ vs).set j (some x)) vs = wipe σ vs)
    (he : ∀ D, H D = none → ∀ i : Nat, i < n → ∀ H1, Ex H H1 → (∃ xs, H1 D = some (.lst xs)) → ∀ Q : VK, (∀ v H2, Ex H1 H2 → P D i v H2 → Q v H2) → te ((wipe σ vs).set j (some (.int (lo + i)))) H1 Q)
    (k : ∀ D H1 us, H D = none → Ex H H1 → H1 D = some (.lst us) → us.length = n → (∀ (i : Nat) v, us[i]? = some v → P D i v H1) → Q (.ref D) H1) : LcB (Itr lo n) (gName j) tYes te vs σ H Q := fun Dl hD => by
  refine lc_range (fun i H' => Ex H H' ∧ ∃ us, H' Dl = some (.lst us) ∧ us.length = i ∧ ∀ (t : Nat) v, us[t]? = some v → P Dl t v H') ⟨Ex.new hD, [], upd_same, rfl, fun t v h => by simp at h⟩ (fun i H' hi p => ?_) (fun H' p => ?_)
  · obtain ⟨e, us, hd, hl, hp⟩ := p
    refine ⟨hw _, ?_⟩
    refine tYes_k ?_
    rw [if_pos rfl]
    refine he Dl hD i hi H' e ⟨_, hd⟩ _ fun v H2 e2 pv => ⟨us, e2 _ _ hd, len_lt (by omega), ?_⟩
    refine ⟨fun a o ha => ?_, us ++ [v], upd_same, by rw [List.length_append, hl]; rfl, fun t u ht => ?_⟩
    · rw [upd_ne (ne_of_none ha hD)]
      exact e2 _ _ (e _ _ ha)
    · by_cases z : t < us.length
      · rw [List.getElem?_append_left z] at ht
        exact hP _ _ _ _ _ (e2.kp.trans Kp.upd) (hp t u ht)
      · rw [List.getElem?_append_right (by omega)] at ht
        have : t - us.length = 0 := by
          by_cases y : t - us.length = 0
          · exact y
          · rw [List.getElem?_eq_none (by show 1 ≤ _; omega)] at ht
            cases ht
        rw [this] at ht
        cases ht
        have et : t = i := by omega
        subst et
        exact hP _ _ _ _ _ Kp.upd pv
  · obtain ⟨e, us, hd, hl, hp⟩ := p
    exact k Dl H' us hD e hd hl hp
/-- three lists of three numbers -/
def Ms (H : Hp) (l : Addr) (f : Nat → Nat → Int) : Prop := ∃ p0 p1 p2, H l = some (.lst [.ref p0, .ref p1, .ref p2]) ∧ H p0 = some (.lst [.int (f 0 0), .int (f 0 1), .int (f 0 2)]) ∧ H p1 = some (.lst [.int (f 1 0), .int (f 1 1), .int (f 1 2)]) ∧ H p2 = some (.lst [.int (f 2 0), .int (f 2 1), .int (f 2 2)])
theorem Ms.ex {H H' : Hp} {l : Addr} {f : Nat → Nat → Int} (h : Ms H l f) (e : Ex H H') : Ms H' l f := by
  obtain ⟨p0, p1, p2, h1, h2, h3, h4⟩ := h
  exact ⟨p0, p1, p2, e _ _ h1, e _ _ h2, e _ _ h3, e _ _ h4⟩
/-- sums[i][j] -/
theorem r_ms {K : PySem.W.Frag} {H : Hp} {Q : VK} {l : Addr} {f : Nat → Nat → Int} {i : Nat} (h : Ms H l f) (hi : i < 3) (k : ∀ p, H p = some (.lst [.int (f i 0), .int (f i 1), .int (f i 2)]) → Q (.ref p) H) : rIxL K (.ref l) (.int (0 + (i : Int))) H Q := by
  obtain ⟨p0, p1, p2, h1, h2, h3, h4⟩ := h
  obtain rfl | rfl | rfl : i = 0 ∨ i = 1 ∨ i = 2 := by omega
  · exact r_ixL (SqL.of h1) rfl (k _ h2)
  · exact r_ixL (SqL.of h1) rfl (k _ h3)
  · exact r_ixL (SqL.of h1) rfl (k _ h4)
theorem at3L (f : Nat → Int) {i : Nat} (h : i < 3) : atI [V.int (f 0), .int (f 1), .int (f 2)] (0 + (i : Int)) = some (.int (f i)) := by
  obtain rfl | rfl | rfl : i = 0 ∨ i = 1 ∨ i = 2 := by omega
  all_goals rfl
theorem Ms.kp {H H' : Hp} {d l : Addr} {f : Nat → Nat → Int} (h : Ms H l f) (k : Kp d H H') (D : Dr H d) : Ms H' l f := by
  obtain ⟨p0, p1, p2, h1, h2, h3, h4⟩ := h
  obtain ⟨x, y, e, _⟩ := D
  exact ⟨p0, p1, p2, k _ _ (ne_of h1 e (by intro z; cases z)) h1, k _ _ (ne_of h2 e (by intro z; cases z)) h2, k _ _ (ne_of h3 e (by intro z; cases z)) h3, k _ _ (ne_of h4 e (by intro z; cases z)) h4⟩

/-- tuples stay -/
def Kt (H H' : Hp) : Prop := ∀ (a : Addr) (xs : List V), H a = some (.tup xs) → H' a = some (.tup xs)
/-- [e for j in a range], e draws -/
theorem lc_rngD {σ : L2.St} {H : Hp} {Q : VK} {te : TE} {lo : Int} {n j : Nat} {vs : List Nat} {d : Addr} (P : Nat → V → Hp → Prop) (hP : ∀ i v H H', Kt H H' → P i v H → P i v H') (D : Dr H d) (hn : n ≤ 100000) (hw : ∀ x, wipe ((wipe σ vs).set j (some x)) vs = wipe σ vs)
    (he : ∀ i : Nat, i < n → ∀ H1, Kp d H H1 → Dr H1 d → ∀ Q : VK, (∀ v H2, Kp d H1 H2 → Dr H2 d → P i v H2 → Q v H2) → te ((wipe σ vs).set j (some (.int (lo + i)))) H1 Q)
    (k : ∀ Dl H1 us, H Dl = none → Kp d H H1 → Dr H1 d → H1 Dl = some (.lst us) → us.length = n → (∀ (i : Nat) v, us[i]? = some v → P i v H1) → Q (.ref Dl) H1) : LcB (Itr lo n) (gName j) tYes te vs σ H Q := fun Dl hD => by
  have nd : Dl ≠ d := D.free hD
  refine lc_range (fun i H' => Kp d H H' ∧ Dr H' d ∧ ∃ us, H' Dl = some (.lst us) ∧ us.length = i ∧ ∀ (t : Nat) v, us[t]? = some v → P t v H') ⟨(Ex.new hD).kp, D.up (Ex.new hD), [], upd_same, rfl, fun t v h => by simp at h⟩ (fun i H' hi p => ?_) (fun H' p => ?_)
  · obtain ⟨e, D', us, hd, hl, hp⟩ := p
    refine ⟨hw _, ?_⟩
    refine tYes_k ?_
    rw [if_pos rfl]
    refine he i hi H' e D' _ fun v H2 e2 D2 pv => ⟨us, e2 _ _ nd hd, len_lt (by omega), ?_⟩
    have hd2 := e2 _ _ nd hd
    have kt1 : Kt H' H2 := fun a xs ha => e2.tup D' ha
    have kt2 : Kt H2 (upd H2 Dl (.lst (us ++ [v]))) := fun a xs ha => (Kp.upd (H := H2)).tupL hd2 ha
    refine ⟨(e.trans e2).via hD Kp.upd, D2.kp nd.symm Kp.upd, us ++ [v], upd_same, by rw [List.length_append, hl]; rfl, fun t u ht => ?_⟩
    by_cases z : t < us.length
    · rw [List.getElem?_append_left z] at ht
      exact hP _ _ _ _ kt2 (hP _ _ _ _ kt1 (hp t u ht))
    · rw [List.getElem?_append_right (by omega)] at ht
      have : t - us.length = 0 := by
        by_cases y : t - us.length = 0
        · exact y
        · rw [List.getElem?_eq_none (by show 1 ≤ _; omega)] at ht
          cases ht
      rw [this] at ht
      cases ht
      have et : t = i := by omega
      subst et
      exact hP _ _ _ _ kt2 pv
  · obtain ⟨e, D', us, hd, hl, hp⟩ := p
    exact k Dl H' us hD e D' hd hl hp

/-! the attributes of a Ledger -/
def fs_Ledger (v0 v1 v2 : V) : List (Str × V) := [("kept", v0), ("now_worth", v1), ("former", v2)]
theorem ln_Ledger {v0 v1 v2 : V} : (fs_Ledger v0 v1 v2).length < 1000 := by
  show 3 < 1000
  decide
theorem lk_Ledger_kept {v0 v1 v2 : V} : (fs_Ledger v0 v1 v2).lookup ("kept" : Str) = some v0 := by
  unfold fs_Ledger
  rw [List.lookup_cons, show (("kept" : Str) == "kept") = true by decide +kernel]
theorem pf_Ledger_kept {v0 v1 v2 y : V} : putF "kept" y (fs_Ledger v0 v1 v2) = fs_Ledger y v1 v2 := by
  unfold fs_Ledger
  rw [putF, if_pos rfl]
theorem lk_Ledger_now_worth {v0 v1 v2 : V} : (fs_Ledger v0 v1 v2).lookup ("now_worth" : Str) = some v1 := by
  unfold fs_Ledger
  rw [List.lookup_cons, show (("now_worth" : Str) == "kept") = false by decide +kernel]
  dsimp only
  rw [List.lookup_cons, show (("now_worth" : Str) == "now_worth") = true by decide +kernel]
theorem pf_Ledger_now_worth {v0 v1 v2 y : V} : putF "now_worth" y (fs_Ledger v0 v1 v2) = fs_Ledger v0 y v2 := by
  unfold fs_Ledger
  rw [putF, if_neg (show ¬ (("kept" : Str) = "now_worth") by decide +kernel)]
  rw [putF, if_pos rfl]
theorem lk_Ledger_former {v0 v1 v2 : V} : (fs_Ledger v0 v1 v2).lookup ("former" : Str) = some v2 := by
  unfold fs_Ledger
  rw [List.lookup_cons, show (("former" : Str) == "kept") = false by decide +kernel]
  dsimp only
  rw [List.lookup_cons, show (("former" : Str) == "now_worth") = false by decide +kernel]
  dsimp only
  rw [List.lookup_cons, show (("former" : Str) == "former") = true by decide +kernel]
theorem pf_Ledger_former {v0 v1 v2 y : V} : putF "former" y (fs_Ledger v0 v1 v2) = fs_Ledger v0 v1 y := by
  unfold fs_Ledger
  rw [putF, if_neg (show ¬ (("kept" : Str) = "former") by decide +kernel)]
  rw [putF, if_neg (show ¬ (("now_worth" : Str) = "former") by decide +kernel)]
  rw [putF, if_pos rfl]
theorem lk_Ledger_become_ {v0 v1 v2 : V} : (fs_Ledger v0 v1 v2).lookup ("become" : Str) = none := by
  unfold fs_Ledger
  rw [List.lookup_cons, show (("become" : Str) == "kept") = false by decide +kernel]
  dsimp only
  rw [List.lookup_cons, show (("become" : Str) == "now_worth") = false by decide +kernel]
  dsimp only
  rw [List.lookup_cons, show (("become" : Str) == "former") = false by decide +kernel]
  dsimp only
  rfl
theorem lk_Ledger_need_entry_ {v0 v1 v2 : V} : (fs_Ledger v0 v1 v2).lookup ("need_entry" : Str) = none := by
  unfold fs_Ledger
  rw [List.lookup_cons, show (("need_entry" : Str) == "kept") = false by decide +kernel]
  dsimp only
  rw [List.lookup_cons, show (("need_entry" : Str) == "now_worth") = false by decide +kernel]
  dsimp only
  rw [List.lookup_cons, show (("need_entry" : Str) == "former") = false by decide +kernel]
  dsimp only
  rfl
theorem lk_Ledger_put_ {v0 v1 v2 : V} : (fs_Ledger v0 v1 v2).lookup ("put" : Str) = none := by
  unfold fs_Ledger
  rw [List.lookup_cons, show (("put" : Str) == "kept") = false by decide +kernel]
  dsimp only
  rw [List.lookup_cons, show (("put" : Str) == "now_worth") = false by decide +kernel]
  dsimp only
  rw [List.lookup_cons, show (("put" : Str) == "former") = false by decide +kernel]
  dsimp only
  rfl
theorem lk_Ledger_drop_ {v0 v1 v2 : V} : (fs_Ledger v0 v1 v2).lookup ("drop" : Str) = none := by
  unfold fs_Ledger
  rw [List.lookup_cons, show (("drop" : Str) == "kept") = false by decide +kernel]
  dsimp only
  rw [List.lookup_cons, show (("drop" : Str) == "now_worth") = false by decide +kernel]
  dsimp only
  rw [List.lookup_cons, show (("drop" : Str) == "former") = false by decide +kernel]
  dsimp only
  rfl
theorem lk_Ledger_change_ {v0 v1 v2 : V} : (fs_Ledger v0 v1 v2).lookup ("change" : Str) = none := by
  unfold fs_Ledger
  rw [List.lookup_cons, show (("change" : Str) == "kept") = false by decide +kernel]
  dsimp only
  rw [List.lookup_cons, show (("change" : Str) == "now_worth") = false by decide +kernel]
  dsimp only
  rw [List.lookup_cons, show (("change" : Str) == "former") = false by decide +kernel]
  dsimp only
  rfl
theorem lk_Ledger_back_ {v0 v1 v2 : V} : (fs_Ledger v0 v1 v2).lookup ("back" : Str) = none := by
  unfold fs_Ledger
  rw [List.lookup_cons, show (("back" : Str) == "kept") = false by decide +kernel]
  dsimp only
  rw [List.lookup_cons, show (("back" : Str) == "now_worth") = false by decide +kernel]
  dsimp only
  rw [List.lookup_cons, show (("back" : Str) == "former") = false by decide +kernel]
  dsimp only
  rfl
theorem lk_Ledger_entries_ {v0 v1 v2 : V} : (fs_Ledger v0 v1 v2).lookup ("entries" : Str) = none := by
  unfold fs_Ledger
  rw [List.lookup_cons, show (("entries" : Str) == "kept") = false by decide +kernel]
  dsimp only
  rw [List.lookup_cons, show (("entries" : Str) == "now_worth") = false by decide +kernel]
  dsimp only
  rw [List.lookup_cons, show (("entries" : Str) == "former") = false by decide +kernel]
  dsimp only
  rfl
theorem lk_Ledger_worth_ {v0 v1 v2 : V} : (fs_Ledger v0 v1 v2).lookup ("worth" : Str) = none := by
  unfold fs_Ledger
  rw [List.lookup_cons, show (("worth" : Str) == "kept") = false by decide +kernel]
  dsimp only
  rw [List.lookup_cons, show (("worth" : Str) == "now_worth") = false by decide +kernel]
  dsimp only
  rw [List.lookup_cons, show (("worth" : Str) == "former") = false by decide +kernel]
  dsimp only
  rfl
theorem lk_Ledger_worth_at_ {v0 v1 v2 : V} : (fs_Ledger v0 v1 v2).lookup ("worth_at" : Str) = none := by
  unfold fs_Ledger
  rw [List.lookup_cons, show (("worth_at" : Str) == "kept") = false by decide +kernel]
  dsimp only
  rw [List.lookup_cons, show (("worth_at" : Str) == "now_worth") = false by decide +kernel]
  dsimp only
  rw [List.lookup_cons, show (("worth_at" : Str) == "former") = false by decide +kernel]
  dsimp only
  rfl
theorem mk_Ledger {v0 v1 v2 : V} : putF "former" v2 (putF "now_worth" v1 (putF "kept" v0 [])) = fs_Ledger v0 v1 v2 := by
  unfold fs_Ledger
  try simp only [putF]
  try simp only [putF]
  try rw [if_neg (show ¬ (("kept" : Str) = "now_worth") by decide +kernel)]
  try simp only [putF]
  try rw [if_neg (show ¬ (("kept" : Str) = "former") by decide +kernel)]
  try rw [if_neg (show ¬ (("now_worth" : Str) = "former") by decide +kernel)]
local macro_rules | `(tactic| walk_at "lk") => `(tactic| first
  | with_reducible exact lk_Ledger_kept
  | with_reducible exact lk_Ledger_now_worth
  | with_reducible exact lk_Ledger_former
  | with_reducible exact lk_Ledger_become_
  | with_reducible exact lk_Ledger_need_entry_
  | with_reducible exact lk_Ledger_put_
  | with_reducible exact lk_Ledger_drop_
  | with_reducible exact lk_Ledger_change_
  | with_reducible exact lk_Ledger_back_
  | with_reducible exact lk_Ledger_entries_
  | with_reducible exact lk_Ledger_worth_
  | with_reducible exact lk_Ledger_worth_at_
  | fail "no step")

--@ needs Sum
/-! ledgers -/
structure Ent where
  a : Int
  b : Int
  m : Int
  k : Int
  n : Int
  t : Int
  deriving DecidableEq
/-- what an entry is worth -/
def wE (e : Ent) : Int := e.t * fs e.n.toNat e.a (e.a * e.k + e.b) e.m
def wL : List Ent → Int
  | [] => 0
  | e :: es => wE e + wL es
theorem wL_app : ∀ es es' : List Ent, wL (es ++ es') = wL es + wL es'
  | [], es' => by
    show wL es' = 0 + wL es'
    omega
  | e :: es, es' => by
    show wE e + wL (es ++ es') = wE e + wL es + wL es'
    rw [wL_app es es']
    omega
theorem wL_one (e : Ent) : wL [e] = wE e := by
  show wE e + 0 = wE e
  omega
theorem take_at {α : Type} {xs : List α} {i : Nat} {x : α} (h : xs[i]? = some x) : xs = xs.take i ++ [x] ++ xs.drop (i + 1) := by
  obtain ⟨hl, he⟩ := List.getElem?_eq_some_iff.mp h
  rw [List.append_assoc, ← he]
  show xs = xs.take i ++ (xs[i] :: xs.drop (i + 1))
  rw [List.getElem_cons_drop, List.take_append_drop]
theorem wL_at {es : List Ent} {i : Nat} {e : Ent} (h : es[i]? = some e) : wL es = wL (es.take i) + wE e + wL (es.drop (i + 1)) := by
  have h1 := take_at h
  have h2 : wL es = wL (es.take i ++ [e] ++ es.drop (i + 1)) := congrArg wL h1
  rw [h2, wL_app, wL_app, wL_one]
theorem wL_drop {es : List Ent} {i : Nat} {e : Ent} (h : es[i]? = some e) : wL (es.take i ++ es.drop (i + 1)) = wL es - wE e := by
  have := wL_at h
  rw [wL_app]
  omega
theorem wL_change {es : List Ent} {i : Nat} {e e' : Ent} (h : es[i]? = some e) : wL (es.take i ++ [e'] ++ es.drop (i + 1)) = wL es - wE e + wE e' := by
  have := wL_at h
  rw [wL_app, wL_app, wL_one]
  omega
theorem fs_bnd {a b m : Int} (hm : 0 < m) (B : Nat) : ∀ n : Nat, (∀ k : Nat, k < n → (a * (k : Int) + b).natAbs ≤ B) → (fs n a b m).natAbs ≤ n * B
  | 0, _ => by
    rw [fs_zero]
    show 0 ≤ _
    omega
  | n + 1, h => by
    have ih := fs_bnd hm B n (fun k hk => h k (by omega))
    have h1 := h n (by omega)
    have h2 : ((a * (n : Int) + b) / m).natAbs ≤ (a * (n : Int) + b).natAbs := by
      generalize a * (n : Int) + b = x
      have e := Int.emod_add_mul_ediv x m
      have r0 := Int.emod_nonneg x (show m ≠ 0 by omega)
      have r1 := Int.emod_lt_of_pos x hm
      by_cases hx : 0 ≤ x
      · have q0 : 0 ≤ x / m := Int.ediv_nonneg hx (by omega)
        have q1 : x / m ≤ x := Int.ediv_le_self _ hx
        omega
      · have q0 : x / m < 0 := Int.ediv_neg_of_neg_of_pos (by omega) hm
        have q1 : (x / m + 1) * m ≤ (x / m + 1) * 1 := Int.mul_le_mul_of_nonpos_left (by omega) (by omega)
        have q2 : (x / m + 1) * m = x / m * m + m := by rw [Int.add_mul, Int.one_mul]
        have q3 : m * (x / m) = x / m * m := Int.mul_comm _ _
        by_cases hq : x / m = -1
        · omega
        · omega
    rw [fs_succ, Nat.succ_mul]
    omega
/-- what an entry is worth at a place -/
def wA (k : Int) (e : Ent) : Int := if e.k ≤ k ∧ k < e.k + e.n then e.t * ((e.a * k + e.b) / e.m) else 0
def wAs (k : Int) : List Ent → Int
  | [] => 0
  | e :: es => wA k e + wAs k es
theorem wAs_app (k : Int) : ∀ es es' : List Ent, wAs k (es ++ es') = wAs k es + wAs k es'
  | [], es' => by
    show wAs k es' = 0 + wAs k es'
    omega
  | e :: es, es' => by
    show wA k e + wAs k (es ++ es') = wA k e + wAs k es + wAs k es'
    rw [wAs_app k es es']
    omega
theorem wAs_take (k : Int) {es : List Ent} {i : Nat} {e : Ent} (h : es[i]? = some e) : wAs k (es.take (i + 1)) = wAs k (es.take i) + wA k e := by
  rw [List.take_add_one, h, wAs_app]
  show _ + (wA k e + 0) = _
  omega

--@ needs C_Ledger
--@ needs LedgM
structure EntZ (e : Ent) : Prop where
  m0 : 0 < e.m
  za : Sz 620 e.a
  zb : Sz 620 e.b
  zm : Sz 200 e.m
  zk : Sz 620 e.k
  n0 : 0 ≤ e.n
  n1 : e.n < 1000000000000000000000000000000
  zt : Sz 620 e.t
theorem EntZ.zf {e : Ent} (z : EntZ e) : Sz 2200 (fs e.n.toNat e.a (e.a * e.k + e.b) e.m) := by
  have z1 : Sz 1981 (e.a * (0 : Int) + 0 + (e.a * e.k + e.b)) := by
    rw [Int.mul_zero, Int.add_zero, Int.zero_add]
    exact ((z.za.mul z.zk).add z.zb).mono (by decide)
  have h := fs_bnd z.m0 (a := e.a) (b := e.a * e.k + e.b) (2 ^ 2000) e.n.toNat fun k hk => by
    have zk : Sz 110 (k : Int) := by
      show (k : Int).natAbs < 2 ^ 110
      have := z.n0
      have := z.n1
      omega
    have h1 : (e.a * (k : Int)).natAbs < 2 ^ (620 + 110) := z.za.mul zk
    have h2 : (e.a * e.k).natAbs < 2 ^ (620 + 620) := z.za.mul z.zk
    have h3 : e.b.natAbs < 2 ^ 620 := z.zb
    have l1 : 2 ^ (620 + 110) < 2 ^ 1990 := Nat.pow_lt_pow_right (by decide) (by decide)
    have l2 : 2 ^ (620 + 620) < 2 ^ 1990 := Nat.pow_lt_pow_right (by decide) (by decide)
    have l3 : 2 ^ 620 < 2 ^ 1990 := Nat.pow_lt_pow_right (by decide) (by decide)
    have l4 : 2 ^ 2000 = 1024 * 2 ^ 1990 := by rw [show 2000 = 10 + 1990 from rfl, Nat.pow_add]
    omega
  have hn : e.n.toNat < 2 ^ 110 := by
    have := z.n0
    have := z.n1
    omega
  have h2 : e.n.toNat * 2 ^ 2000 ≤ 2 ^ 110 * 2 ^ 2000 := Nat.mul_le_mul_right _ (by omega)
  rw [← Nat.pow_add] at h2
  have l : 2 ^ (110 + 2000) < 2 ^ 2200 := Nat.pow_lt_pow_right (by decide) (by decide)
  show Int.natAbs _ < 2 ^ 2200
  omega
/-- an entry by a value -/
def EntA (F : Hp) (v : V) (e : Ent) : Prop := ∃ p s, v = .ref p ∧ F p = some (.tup [.ref s, .int e.k, .int e.n, .int e.t]) ∧ F s = some (.tup [.int e.a, .int e.b, .int e.m])
theorem EntA.ex {F F' : Hp} {v : V} {e : Ent} (h : EntA F v e) (x : Ex F F') : EntA F' v e := by
  obtain ⟨p, s, e1, h1, h2⟩ := h
  exact ⟨p, s, e1, x _ _ h1, x _ _ h2⟩
def EntsA (F : Hp) : List V → List Ent → Prop
  | [], [] => True
  | v :: vs, e :: es => EntA F v e ∧ EntsA F vs es
  | _, _ => False
theorem EntsA.ex {F F' : Hp} (x : Ex F F') : ∀ {vs : List V} {es : List Ent}, EntsA F vs es → EntsA F' vs es
  | [], [], _ => trivial
  | _ :: _, _ :: _, ⟨h, r⟩ => ⟨h.ex x, EntsA.ex x r⟩
  | [], _ :: _, h => h.elim
  | _ :: _, [], h => h.elim
theorem EntsA.len {F : Hp} : ∀ {vs : List V} {es : List Ent}, EntsA F vs es → vs.length = es.length
  | [], [], _ => rfl
  | _ :: _, _ :: _, ⟨_, r⟩ => by rw [List.length_cons, List.length_cons, EntsA.len r]
  | [], _ :: _, h => h.elim
  | _ :: _, [], h => h.elim
theorem EntsA.get {F : Hp} : ∀ {vs : List V} {es : List Ent} {i : Nat} {v : V}, EntsA F vs es → vs[i]? = some v → ∃ e, es[i]? = some e ∧ EntA F v e
  | _ :: _, e :: _, 0, _, ⟨h, _⟩, g => ⟨e, rfl, by cases g; exact h⟩
  | _ :: _, _ :: _, i + 1, _, ⟨_, h⟩, g => EntsA.get (i := i) h g
  | [], _, _, _, _, g => by simp at g
  | _ :: _, [], _, _, h, _ => h.elim
theorem EntsA.app {F : Hp} : ∀ {vs us : List V} {es fs : List Ent}, EntsA F vs es → EntsA F us fs → EntsA F (vs ++ us) (es ++ fs)
  | [], _, [], _, _, h => h
  | _ :: _, _, _ :: _, _, ⟨h, r⟩, h' => ⟨h, EntsA.app r h'⟩
  | [], _, _ :: _, _, h, _ => h.elim
  | _ :: _, _, [], _, h, _ => h.elim
theorem EntsA.take {F : Hp} : ∀ {vs : List V} {es : List Ent} (i : Nat), EntsA F vs es → EntsA F (vs.take i) (es.take i)
  | _, _, 0, _ => trivial
  | [], [], _ + 1, _ => trivial
  | _ :: _, _ :: _, i + 1, ⟨h, r⟩ => ⟨h, EntsA.take i r⟩
  | [], _ :: _, _ + 1, h => h.elim
  | _ :: _, [], _ + 1, h => h.elim
theorem EntsA.drop {F : Hp} : ∀ {vs : List V} {es : List Ent} (i : Nat), EntsA F vs es → EntsA F (vs.drop i) (es.drop i)
  | _, _, 0, h => h
  | [], [], _ + 1, _ => trivial
  | _ :: _, _ :: _, i + 1, ⟨_, r⟩ => EntsA.drop i r
  | [], _ :: _, _ + 1, h => h.elim
  | _ :: _, [], _ + 1, h => h.elim
def KeptA (F : Hp) (l : Addr) (es : List Ent) : Prop := ∃ vs, F l = some (.lst vs) ∧ EntsA F vs es
theorem KeptA.ex {F F' : Hp} {l : Addr} {es : List Ent} (h : KeptA F l es) (x : Ex F F') : KeptA F' l es := by
  obtain ⟨vs, h1, h2⟩ := h
  exact ⟨vs, x _ _ h1, h2.ex x⟩
/-- what was ahead -/
def HisA (F : Hp) : List V → List (List Ent) → Prop
  | [], [] => True
  | v :: vs, es :: hs => (∃ t l, v = .ref t ∧ F t = some (.tup [.ref l, .int (wL es)]) ∧ KeptA F l es) ∧ HisA F vs hs
  | _, _ => False
theorem HisA.ex {F F' : Hp} (x : Ex F F') : ∀ {vs : List V} {hs : List (List Ent)}, HisA F vs hs → HisA F' vs hs
  | [], [], _ => trivial
  | _ :: _, _ :: _, ⟨⟨t, l, e, h, k⟩, r⟩ => ⟨⟨t, l, e, x _ _ h, k.ex x⟩, HisA.ex x r⟩
  | [], _ :: _, h => h.elim
  | _ :: _, [], h => h.elim
theorem HisA.len {F : Hp} : ∀ {vs : List V} {hs : List (List Ent)}, HisA F vs hs → vs.length = hs.length
  | [], [], _ => rfl
  | _ :: _, _ :: _, ⟨_, r⟩ => by rw [List.length_cons, List.length_cons, HisA.len r]
  | [], _ :: _, h => h.elim
  | _ :: _, [], h => h.elim
theorem HisA.app {F : Hp} : ∀ {vs us : List V} {hs ks : List (List Ent)}, HisA F vs hs → HisA F us ks → HisA F (vs ++ us) (hs ++ ks)
  | [], _, [], _, _, h => h
  | _ :: _, _, _ :: _, _, ⟨h, r⟩, h' => ⟨h, HisA.app r h'⟩
  | [], _, _ :: _, _, h, _ => h.elim
  | _ :: _, _, [], _, h, _ => h.elim
theorem HisA.last {F : Hp} : ∀ {vs : List V} {hs : List (List Ent)} {es : List Ent}, HisA F vs (hs ++ [es]) → ∃ us t l, vs = us ++ [.ref t] ∧ HisA F us hs ∧ F t = some (.tup [.ref l, .int (wL es)]) ∧ KeptA F l es
  | [], [], _, h => h.elim
  | [], _ :: _, _, h => h.elim
  | [v], [], _, ⟨⟨t, l, e, h, k⟩, _⟩ => ⟨[], t, l, by rw [e]; rfl, trivial, h, k⟩
  | _ :: _ :: _, [], _, ⟨_, h⟩ => h.elim
  | v :: vs, k :: hs, es, ⟨h, r⟩ => by
    obtain ⟨us, t, l, e, h1, h2, h3⟩ := HisA.last (hs := hs) r
    exact ⟨v :: us, t, l, by rw [e]; rfl, ⟨h, h1⟩, h2, h3⟩
/-- the part F of the heap never changes -/
structure Fz (F H : Hp) (p fl : Addr) : Prop where
  sub : Ex F H
  np : F p = none
  nf : F fl = none
/-- F has grown by what was new -/
structure Gr (F H F' : Hp) : Prop where
  ex : Ex F F'
  eq : ∀ a o, H a = some o → F' a = F a
theorem Gr.refl {F H : Hp} : Gr F H F := ⟨Ex.refl, fun _ _ _ => rfl⟩
theorem Gr.add {F H : Hp} {q : Addr} {o : HO} (e : Ex F H) (n : H q = none) : Gr F H (upd F q o) :=
  ⟨Ex.new (free_back e n), fun a u h => upd_ne (ne_of_none h n)⟩
theorem Gr.trans {F H F1 H1 F2 : Hp} (a : Gr F H F1) (b : Gr F1 H1 F2) (k : ∀ a o, H a = some o → ∃ o', H1 a = some o') : Gr F H F2 :=
  ⟨a.ex.trans b.ex, fun x o h => by
    obtain ⟨o', h'⟩ := k x o h
    rw [b.eq x o' h', a.eq x o h]⟩
theorem Gr.tr {F H F1 H1 F2 : Hp} (a : Gr F H F1) (b : Gr F1 H1 F2) (k : Ex H H1) : Gr F H F2 := a.trans b fun x o h => ⟨o, k _ _ h⟩
theorem Gr.none {F H F' : Hp} {a : Addr} {o : HO} (g : Gr F H F') (h : H a = some o) (n : F a = none) : F' a = none := by rw [g.eq a o h, n]
/-- a ledger at p, its entries es, what was ahead hs -/
structure LgAt (C : Addr) (F H : Hp) (p fl : Addr) (es : List Ent) (hs : List (List Ent)) : Prop where
  ob : ∃ dx kl, H p = some (.ins C dx (fs_Ledger (.ref kl) (.int (wL es)) (.ref fl))) ∧ KeptA F kl es
  fo : ∃ us, H fl = some (.lst us) ∧ HisA F us hs
theorem LgAt.grow {C : Addr} {F F' H H' : Hp} {p fl : Addr} {es : List Ent} {hs : List (List Ent)} (L : LgAt C F H p fl es hs) (e : Ex H H') (f : Ex F F') : LgAt C F' H' p fl es hs := by
  obtain ⟨⟨dx, kl, h1, h2⟩, us, h3, h4⟩ := L
  exact ⟨⟨dx, kl, e _ _ h1, h2.ex f⟩, us, e _ _ h3, h4.ex f⟩
theorem LgAt.ex {C : Addr} {F H H' : Hp} {p fl : Addr} {es : List Ent} {hs : List (List Ent)} (L : LgAt C F H p fl es hs) (e : Ex H H') : LgAt C F H' p fl es hs := L.grow e Ex.refl
theorem cut_fromN (xs : List V) {i : Int} (h0 : 0 ≤ i) (h : i ≤ xs.length) : cutV xs (some i) none = xs.drop i.toNat := by
  have e1 : HT.sIx xs.length 0 (some i) = i.toNat := by
    show (if i < 0 then (i + (xs.length : Int)).toNat else min i.toNat xs.length) = _
    rw [if_neg (by omega)]
    omega
  have e2 : HT.sIx xs.length xs.length none = xs.length := rfl
  unfold cutV
  rw [e1, e2, List.take_of_length_le (by rw [List.length_drop]; omega)]
theorem cut_toN (xs : List V) {i : Int} (h0 : 0 ≤ i) (h : i ≤ xs.length) : cutV xs none (some i) = xs.take i.toNat := by
  unfold cutV
  have e1 : HT.sIx xs.length 0 none = 0 := rfl
  have e2 : HT.sIx xs.length xs.length (some i) = i.toNat := by
    show (if i < 0 then (i + (xs.length : Int)).toNat else min i.toNat xs.length) = _
    rw [if_neg (by omega)]
    omega
  rw [e1, e2]
  rfl
theorem r_atN {K : PySem.W.Frag} {H : Hp} {Q : VK} {p : Addr} {xs : List V} {i : Int} {v : V} (h : SqL K H p xs) (i0 : 0 ≤ i) (g : xs[i.toNat]? = some v) (k : Q v H) : rIxL K (.ref p) (.int i) H Q :=
  r_ixL h (at_of (j := i.toNat) (by omega) g) k
/-- what is new joins the part that never changes -/
theorem Fz.add {F H H' : Hp} {p fl q : Addr} {o : HO} (Z : Fz F H p fl) (n : H q = none) (e : Ex H H') (h : H' q = some o) (np : q ≠ p) (nf : q ≠ fl) : Fz (upd F q o) H' p fl := by
  refine ⟨fun a u ha => ?_, ?_, ?_⟩
  · by_cases z : a = q
    · subst z
      rw [upd_same] at ha
      rw [← ha]
      exact h
    · rw [upd_ne z] at ha
      exact e _ _ (Z.sub _ _ ha)
  · rw [upd_ne np.symm]
    exact Z.np
  · rw [upd_ne nf.symm]
    exact Z.nf
/-- an entry with other times -/
def Ent.times (e : Ent) (t : Int) : Ent := { e with t := t }
theorem EntZ.times {e : Ent} (z : EntZ e) {t : Int} (zt : Sz 620 t) : EntZ (e.times t) := ⟨z.m0, z.za, z.zb, z.zm, z.zk, z.n0, z.n1, zt⟩
def AllZ (es : List Ent) : Prop := ∀ e ∈ es, EntZ e
theorem AllZ.at {es : List Ent} {i : Nat} {e : Ent} (h : AllZ es) (g : es[i]? = some e) : EntZ e := h e (List.mem_of_getElem? g)
/-! entries as data -/
def entD (e : Ent) : PyData := .tuple [.tuple [.int e.a, .int e.b, .int e.m], .int e.k, .int e.n, .int e.t]
def keptD (es : List Ent) : PyData := .list (es.map entD)
def hisD (es : List Ent) : PyData := .tuple [keptD es, .int (wL es)]
theorem dp_ent {K : PySem.W.Frag} {F : Hp} {v : V} {e : Ent} (h : EntA F v e) : Dp K F v (entD e) := by
  obtain ⟨p, s, rfl, h1, h2⟩ := h
  exact .tup (SqT.of h1) (.cons (.tup (SqT.of h2) (dp_ints [e.a, e.b, e.m])) (dp_ints [e.k, e.n, e.t]))
theorem dp_ents {K : PySem.W.Frag} {F : Hp} : ∀ {vs : List V} {es : List Ent}, EntsA F vs es → DpAll K F vs (es.map entD)
  | [], [], _ => .nil
  | _ :: _, _ :: _, ⟨h, r⟩ => .cons (dp_ent h) (dp_ents r)
  | [], _ :: _, h => h.elim
  | _ :: _, [], h => h.elim
theorem dp_his {K : PySem.W.Frag} {F : Hp} : ∀ {vs : List V} {hs : List (List Ent)}, HisA F vs hs → DpAll K F vs (hs.map hisD)
  | [], [], _ => .nil
  | _ :: _, es :: _, ⟨⟨t, l, e, h, us, k1, k2⟩, r⟩ => by
    subst e
    exact .cons (.tup (SqT.of h) (.cons (.lst (SqL.of k1) (dp_ents k2)) (dp_ints [wL es]))) (dp_his r)
  | [], _ :: _, h => h.elim
  | _ :: _, [], h => h.elim
theorem lay_ents : ∀ es : List Ent, PyData.canLayAll0 (es.map entD) = true
  | [] => rfl
  | e :: es => by
    show (PyData.canLay0 (entD e) && PyData.canLayAll0 (es.map entD)) = true
    rw [lay_ents es, Bool.and_true]
    rfl
theorem dep_ents : ∀ es : List Ent, PyData.depthAll (es.map entD) ≤ 3
  | [] => Nat.zero_le _
  | e :: es => by
    show max (PyData.depth (entD e)) (PyData.depthAll (es.map entD)) ≤ 3
    have h1 : PyData.depth (entD e) ≤ 3 := by
      unfold entD
      simp [PyData.depth, PyData.depthAll]
    have := dep_ents es
    omega
theorem lay_his : ∀ hs : List (List Ent), PyData.canLayAll0 (hs.map hisD) = true
  | [] => rfl
  | es :: hs => by
    show (PyData.canLay0 (hisD es) && PyData.canLayAll0 (hs.map hisD)) = true
    rw [lay_his hs, Bool.and_true]
    show (PyData.canLay0 (keptD es) && (PyData.canLay0 (.int (wL es)) && true)) = true
    have h1 : PyData.canLay0 (keptD es) = true := by
      unfold keptD PyData.canLay0
      exact lay_ents es
    rw [h1]
    rfl
theorem dep_his : ∀ hs : List (List Ent), PyData.depthAll (hs.map hisD) ≤ 5
  | [] => Nat.zero_le _
  | es :: hs => by
    show max (PyData.depth (hisD es)) (PyData.depthAll (hs.map hisD)) ≤ 5
    have h1 : PyData.depth (hisD es) ≤ 5 := by
      have := dep_ents es
      unfold hisD keptD
      simp only [PyData.depth, PyData.depthAll]
      omega
    have := dep_his hs
    omega
theorem shp_ents (es : List Ent) : SeqAt.shaped (.list (es.map entD)) = true := by
  unfold SeqAt.shaped
  rw [Bool.and_eq_true]
  refine ⟨?_, decide_eq_true ?_⟩
  · unfold PyData.canLay0
    exact lay_ents es
  · unfold PyData.depth
    have := dep_ents es
    omega
theorem shp_his (hs : List (List Ent)) : SeqAt.shaped (.list (hs.map hisD)) = true := by
  unfold SeqAt.shaped
  rw [Bool.and_eq_true]
  refine ⟨?_, decide_eq_true ?_⟩
  · unfold PyData.canLay0
    exact lay_his hs
  · unfold PyData.depth
    have := dep_his hs
    omega
theorem eqv_ent (e f : Ent) : PyData.eqv (entD e) (entD f) = decide (e = f) := by
  have h1 : PyData.eqv (entD e) (entD f) = (PyData.eqv (.tuple ([e.a, e.b, e.m].map PyData.int)) (.tuple ([f.a, f.b, f.m].map PyData.int)) && PyData.eqvAll ([e.k, e.n, e.t].map PyData.int) ([f.k, f.n, f.t].map PyData.int)) := rfl
  rw [h1, eqvT, eqv_ints]
  obtain ⟨a, b, m, k, n, t⟩ := e
  obtain ⟨a', b', m', k', n', t'⟩ := f
  by_cases h : (⟨a, b, m, k, n, t⟩ : Ent) = ⟨a', b', m', k', n', t'⟩
  · cases h
    rw [decide_eq_true rfl, decide_eq_true rfl, decide_eq_true rfl]
    rfl
  · rw [decide_eq_false h]
    by_cases h2 : [a, b, m] = [a', b', m']
    · have h3 : ¬ [k, n, t] = [k', n', t'] := fun z => h (by
        injection h2 with h4 h5
        injection h5 with h5 h6
        injection h6 with h6 _
        injection z with z1 z2
        injection z2 with z2 z3
        injection z3 with z3 _
        subst h4 h5 h6 z1 z2 z3
        rfl)
      rw [decide_eq_false h3, Bool.and_false]
    · rw [decide_eq_false h2, Bool.false_and]
theorem eqv_ents : ∀ xs ys : List Ent, PyData.eqvAll (xs.map entD) (ys.map entD) = decide (xs = ys)
  | [], [] => by rw [decide_eq_true rfl]; rfl
  | [], y :: ys => by rw [decide_eq_false (by intro h; cases h)]; rfl
  | x :: xs, [] => by rw [decide_eq_false (by intro h; cases h)]; rfl
  | x :: xs, y :: ys => by
    show (PyData.eqv (entD x) (entD y) && PyData.eqvAll (xs.map entD) (ys.map entD)) = _
    rw [eqv_ents xs ys, eqv_ent]
    by_cases h : x = y
    · subst h
      by_cases h2 : xs = ys
      · subst h2
        rw [decide_eq_true rfl, decide_eq_true rfl, decide_eq_true rfl]
        rfl
      · rw [decide_eq_false h2, decide_eq_false (fun z => h2 (List.cons.inj z).2), Bool.and_false]
    · rw [decide_eq_false h, decide_eq_false (fun z => h (List.cons.inj z).1), Bool.false_and]
theorem eqv_entL (xs ys : List Ent) : PyData.eqv (.list (xs.map entD)) (.list (ys.map entD)) = decide (xs = ys) := by
  unfold PyData.eqv
  exact eqv_ents xs ys
section
variable {K : PySem.W.Frag} {H : Hp} {Q : VK} {p q : Addr} {vs us : List V} {xs ys : List Ent}
theorem r_neE (h : H p = some (.lst vs)) (h1 : EntsA H vs xs) (h' : H q = some (.lst us)) (h2 : EntsA H us ys) (k : Q (.bl (!decide (xs = ys))) H) : rNeD K (.ref p) (.ref q) H Q :=
  r_neD (.lst (SqL.of h) (dp_ents h1)) (.lst (SqL.of h') (dp_ents h2)) (shp_ents _) (shp_ents _) (by rw [eqv_entL]; exact k)
theorem r_eqE (h : H p = some (.lst vs)) (h1 : EntsA H vs xs) (h' : H q = some (.lst us)) (h2 : EntsA H us ys) (k : Q (.bl (decide (xs = ys))) H) : rEqD K (.ref p) (.ref q) H Q :=
  r_eqD (.lst (SqL.of h) (dp_ents h1)) (.lst (SqL.of h') (dp_ents h2)) (shp_ents _) (shp_ents _) (by rw [eqv_entL]; exact k)
/-- a list that is not empty, and the empty list -/
theorem r_eqNil {ds : List PyData} (h : SqL K H p vs) (h' : SqL K H q []) (dp : DpAll K H vs ds) (sh : SeqAt.shaped (.list ds) = true) (ne : vs ≠ []) (k : Q (.bl false) H) : rEqD K (.ref p) (.ref q) H Q := by
  refine r_eqD (.lst h dp) (.lst h' .nil) sh (by rfl) ?_
  cases dp with
  | nil => exact (ne rfl).elim
  | cons _ _ => exact k
end

--@ needs PrL HandM LlV RngD LedgV
/-! the law's rings: points of a bent line, perhaps a corner above it, leaned, made greater, moved -/
abbrev Zp := Int × Int
def crz (p q r : Zp) : Int := (q.1 - p.1) * (r.2 - p.2) - (q.2 - p.2) * (r.1 - p.1)
def zAt (B : List Zp) (k : Nat) : Zp := (B[k % B.length]?).getD (0, 0)
def RingZ (B : List Zp) : Prop := 3 ≤ B.length ∧ ∀ k, k < B.length → ∀ j, j < B.length → j ≠ k → j ≠ (k + 1) % B.length → 0 < crz (zAt B k) (zAt B (k + 1)) (zAt B j)
def bowL (m : Nat) : List Zp := (List.range m).map fun k : Nat => ((k : Int), (k : Int) * k)
theorem bowL_len (m : Nat) : (bowL m).length = m := by unfold bowL; simp
theorem bow_at {m k : Nat} (X : List Zp) (h : k < m) : (bowL m ++ X)[k]? = some ((k : Int), (k : Int) * k) := by
  rw [List.getElem?_append_left (by rw [bowL_len]; exact h)]
  unfold bowL
  rw [List.getElem?_map, List.getElem?_range h]
  rfl
theorem zAt_lt {B : List Zp} {k : Nat} {z : Zp} (h : k < B.length) (e : B[k]? = some z) : zAt B k = z := by
  unfold zAt
  rw [Nat.mod_eq_of_lt h, e]
  rfl
theorem zAt_end {B : List Zp} {k : Nat} {z : Zp} (h : k = B.length) (e : B[0]? = some z) : zAt B k = z := by
  unfold zAt
  rw [h, Nat.mod_self, e]
  rfl
theorem pos3 {a b c : Int} (h1 : 0 < a) (h2 : 0 < b) (h3 : 0 < c) : 0 < a * b * c := Int.mul_pos (Int.mul_pos h1 h2) h3
/-- an edge along the bent line -/
theorem bow_edge {k j : Int} (h : j ≠ k) (h' : j ≠ k + 1) : 0 < crz (k, k * k) (k + 1, (k + 1) * (k + 1)) (j, j * j) := by
  have e : crz (k, k * k) (k + 1, (k + 1) * (k + 1)) (j, j * j) = (j - k) * (j - k - 1) := by unfold crz; grind
  rw [e]
  by_cases z : k < j
  · exact Int.mul_pos (by omega) (by omega)
  · have : 0 < (k - j) * (k + 1 - j) := Int.mul_pos (by omega) (by omega)
    grind
theorem prod_nn {x : Int} : 0 ≤ x * (x - 1) := by
  by_cases z : 0 < x
  · exact Int.mul_nonneg (by omega) (by omega)
  · have : 0 ≤ (-x) * (1 - x) := Int.mul_nonneg (by omega) (by omega)
    grind
theorem bow_top {k c T : Int} (h : c * c < T) : 0 < crz (k, k * k) (k + 1, (k + 1) * (k + 1)) (c, T) := by
  have e : crz (k, k * k) (k + 1, (k + 1) * (k + 1)) (c, T) = (T - c * c) + (c - k) * ((c - k) - 1) := by unfold crz; grind
  have := prod_nn (x := c - k)
  omega
theorem bow_close {m j : Int} (h0 : 0 < j) (h1 : j < m) : 0 < crz (m, m * m) (0, 0) (j, j * j) := by
  have e : crz (m, m * m) (0, 0) (j, j * j) = m * (m - j) * j := by unfold crz; grind
  rw [e]
  exact pos3 (by omega) (by omega) h0
theorem bow_up {m c T j : Int} (c1 : c ≤ m) (hT : m * m < T) (j0 : 0 ≤ j) (j1 : j < m) : 0 < crz (m, m * m) (c, T) (j, j * j) := by
  have e : crz (m, m * m) (c, T) (j, j * j) = (m - j) * ((m - c) * (m + j) + (T - m * m)) := by unfold crz; grind
  rw [e]
  have : 0 ≤ (m - c) * (m + j) := Int.mul_nonneg (by omega) (by omega)
  exact Int.mul_pos (by omega) (by omega)
theorem bow_down {m c T j : Int} (c0 : 0 ≤ c) (c1 : c ≤ m) (hT : m * m < T) (j0 : 0 < j) (j1 : j ≤ m) : 0 < crz (c, T) (0, 0) (j, j * j) := by
  have e : crz (c, T) (0, 0) (j, j * j) = j * (T - c * j) := by unfold crz; grind
  rw [e]
  have h1 : c * j ≤ m * j := Int.mul_le_mul_of_nonneg_right c1 (by omega)
  have h2 : m * j ≤ m * m := Int.mul_le_mul_of_nonneg_left j1 (by omega)
  exact Int.mul_pos j0 (by omega)
theorem sq_le {c m : Int} (c0 : 0 ≤ c) (h : c ≤ m) : c * c ≤ m * m := Int.mul_le_mul h h c0 (by omega)
/-- without a corner above it -/
theorem ringZ_bow {m : Nat} (hm : 3 ≤ m) : RingZ (bowL m) := by
  have len := bowL_len m
  have at_ : ∀ {k : Nat}, k < m → (bowL m)[k]? = some ((k : Int), (k : Int) * k) := fun {k} h => by
    have := bow_at [] h
    rwa [List.append_nil] at this
  refine ⟨by omega, fun k hk j hj a b => ?_⟩
  rw [len] at hk hj b
  rw [zAt_lt (by omega) (at_ hk), zAt_lt (by omega) (at_ hj)]
  by_cases z : k + 1 < m
  · rw [zAt_lt (by omega) (at_ z)]
    rw [Nat.mod_eq_of_lt z] at b
    exact bow_edge (by omega) (by omega)
  · rw [zAt_end (by omega) (at_ (show 0 < m by omega))]
    have ek : k + 1 = m := by omega
    rw [ek, Nat.mod_self] at b
    exact bow_close (by omega) (by omega)
/-- with one -/
theorem ringZ_top {m : Nat} {c T : Int} (hm : 2 ≤ m) (c0 : 0 ≤ c) (c1 : c < m) (hT : (m : Int) * m ≤ T) : RingZ (bowL m ++ [(c, T)]) := by
  have len : (bowL m ++ [(c, T)]).length = m + 1 := by rw [List.length_append, bowL_len]; rfl
  have at_ : ∀ {k : Nat}, k < m → (bowL m ++ [(c, T)])[k]? = some ((k : Int), (k : Int) * k) := fun {k} h => bow_at _ h
  have top : (bowL m ++ [(c, T)])[m]? = some (c, T) := by
    rw [List.getElem?_append_right (by rw [bowL_len]; exact Nat.le_refl _), bowL_len, Nat.sub_self]
    rfl
  have cc := sq_le c0 (show c ≤ (m : Int) by omega)
  have mm : ((m : Int) - 1) * ((m : Int) - 1) < (m : Int) * m := by
    have : ((m : Int) - 1) * ((m : Int) - 1) = (m : Int) * m - (2 * m - 1) := by grind
    omega
  have ck := sq_le c0 (show c ≤ (m : Int) - 1 by omega)
  refine ⟨by omega, fun k hk j hj a b => ?_⟩
  rw [len] at hk hj b
  by_cases zk : k + 1 < m
  · rw [zAt_lt (by omega) (at_ (show k < m by omega)), zAt_lt (by omega) (at_ zk)]
    rw [Nat.mod_eq_of_lt (by omega)] at b
    by_cases zj : j < m
    · rw [zAt_lt (by omega) (at_ zj)]
      exact bow_edge (by omega) (by omega)
    · have ej : j = m := by omega
      subst ej
      rw [zAt_lt (by omega) top]
      exact bow_top (by omega)
  · by_cases zk2 : k < m
    · have ek : k + 1 = m := by omega
      rw [zAt_lt (by omega) (at_ zk2), ek, zAt_lt (by omega) top]
      rw [ek, Nat.mod_eq_of_lt (by omega)] at b
      have zj : j < m := by omega
      rw [zAt_lt (by omega) (at_ zj)]
      exact bow_up (by omega) (by rw [show (k : Int) = (m : Int) - 1 by omega]; omega) (by omega) (by omega)
    · have ek : k = m := by omega
      subst ek
      rw [zAt_lt (by omega) top, zAt_end (by omega) (at_ (show 0 < k by omega))]
      rw [Nat.mod_self] at b
      have zj : j < k := by omega
      rw [zAt_lt (by omega) (at_ zj)]
      exact bow_down (m := (k : Int) - 1) c0 (by omega) (by omega) (by omega) (by omega)
/-- leaned, made greater, moved -/
def affC (lean rise b0 b1 : Int) (ax ay : Fq) (p : Zp) : Cn :=
  (frd ((p.1 + lean * p.2) * b0 * ax.2 + ax.1 * b1, b1 * ax.2), frd ((p.2 + rise * (p.1 + lean * p.2)) * b0 * ay.2 + ay.1 * b1, b1 * ay.2))
theorem aff_v {x b0 b1 : Int} {a : Fq} (h1 : 0 < b1) (ha : 0 < a.2) : fv (frd (x * b0 * a.2 + a.1 * b1, b1 * a.2)) = (x : Rat) * qv b0 b1 + fv a := by
  rw [frd_v (Int.mul_pos h1 ha)]
  have e1 := qv_mul (t := b0) h1
  have e2 : fv a * (a.2 : Rat) = (a.1 : Rat) := qv_mul ha
  refine qv_of (Int.mul_pos h1 ha) ?_
  show _ = ((x * b0 * a.2 + a.1 * b1 : Int) : Rat)
  rw [Rat.intCast_add, Rat.intCast_mul, Rat.intCast_mul, Rat.intCast_mul, Rat.intCast_mul, ← e1, ← e2]
  grind
theorem affC_ok {lean rise b0 b1 : Int} {ax ay : Fq} (h1 : 0 < b1) (hx : 0 < ax.2) (hy : 0 < ay.2) (p : Zp) : OkC (affC lean rise b0 b1 ax ay p) :=
  ⟨frd_pos (Int.mul_pos h1 hx), frd_pos (Int.mul_pos h1 hy)⟩
theorem affC_cr {lean rise b0 b1 : Int} {ax ay : Fq} (h1 : 0 < b1) (hx : 0 < ax.2) (hy : 0 < ay.2) (p q r : Zp) :
    cr (cv (affC lean rise b0 b1 ax ay p)) (cv (affC lean rise b0 b1 ax ay q)) (cv (affC lean rise b0 b1 ax ay r)) = qv b0 b1 * qv b0 b1 * ((crz p q r : Int) : Rat) := by
  have v : ∀ p : Zp, cv (affC lean rise b0 b1 ax ay p) = (((p.1 + lean * p.2 : Int) : Rat) * qv b0 b1 + fv ax, ((p.2 + rise * (p.1 + lean * p.2) : Int) : Rat) * qv b0 b1 + fv ay) := fun p => by
    unfold cv affC
    dsimp only
    rw [aff_v h1 hx, aff_v h1 hy]
  rw [v, v, v]
  unfold cr crz
  dsimp only
  simp only [Rat.intCast_add, Rat.intCast_mul, Rat.intCast_sub]
  grind
theorem zAt_map {B : List Zp} {f : Zp → Cn} (h : 0 < B.length) (k : Nat) : cI (B.map f) k = f (zAt B k) := by
  unfold cI zAt
  rw [List.length_map, List.getElem?_map, List.getElem?_eq_getElem (Nat.mod_lt k h)]
  rfl
theorem ring_aff {B : List Zp} {lean rise b0 b1 : Int} {ax ay : Fq} (R : RingZ B) (h0 : 0 < b0) (h1 : 0 < b1) (hx : 0 < ax.2) (hy : 0 < ay.2) : RingP (pts (B.map (affC lean rise b0 b1 ax ay))) := by
  have n0 : 0 < B.length := by have := R.1; omega
  have n0' : 0 < (B.map (affC lean rise b0 b1 ax ay)).length := by rw [List.length_map]; exact n0
  have len : (pts (B.map (affC lean rise b0 b1 ax ay))).length = B.length := by unfold pts; rw [List.length_map, List.length_map]
  refine ⟨by rw [len]; exact R.1, fun k hk j hj a b => ?_⟩
  rw [len] at hk hj b
  rw [cor_pts n0', cor_pts n0', cor_pts n0', zAt_map n0, zAt_map n0, zAt_map n0, affC_cr h1 hx hy]
  have q := (qv_pos h1).mpr h0
  exact Rat.mul_pos (Rat.mul_pos q q) (cast_pos (R.2 k hk j hj a b))
/-- begun at another corner -/
theorem cor_rot {P : List Pt} {t : Nat} (ht : t ≤ P.length) (n0 : 0 < P.length) (k : Nat) : cor (P.drop t ++ P.take t) k = cor P (k + t) := by
  have len : (P.drop t ++ P.take t).length = P.length := by rw [List.length_append, List.length_drop, List.length_take]; omega
  unfold cor
  rw [len]
  have hk := Nat.mod_lt k n0
  have e : (k + t) % P.length = (k % P.length + t) % P.length := by rw [Nat.mod_add_mod]
  rw [e]
  generalize k % P.length = i at hk
  by_cases z : i < P.length - t
  · rw [List.getElem?_append_left (by rw [List.length_drop]; exact z), List.getElem?_drop, Nat.mod_eq_of_lt (by omega), Nat.add_comm]
  · rw [List.getElem?_append_right (by rw [List.length_drop]; omega), List.length_drop, List.getElem?_take, if_pos (by omega)]
    have e2 : (i + t) % P.length = i - (P.length - t) := by
      rw [show i + t = (i - (P.length - t)) + P.length by omega, Nat.add_mod_right, Nat.mod_eq_of_lt (by omega)]
    rw [e2]
theorem rot_inj {n t i j : Nat} (hj : j < n) (hi : i < n) (ht : t ≤ n) (h : (j + t) % n = (i + t) % n) : j = i := by
  by_cases c1 : j + t < n <;> by_cases c2 : i + t < n
  · rw [Nat.mod_eq_of_lt c1, Nat.mod_eq_of_lt c2] at h; omega
  · rw [Nat.mod_eq_of_lt c1, show i + t = (i + t - n) + n by omega, Nat.add_mod_right, Nat.mod_eq_of_lt (by omega)] at h; omega
  · rw [Nat.mod_eq_of_lt c2, show j + t = (j + t - n) + n by omega, Nat.add_mod_right, Nat.mod_eq_of_lt (by omega)] at h; omega
  · rw [show i + t = (i + t - n) + n by omega, show j + t = (j + t - n) + n by omega, Nat.add_mod_right, Nat.add_mod_right, Nat.mod_eq_of_lt (by omega), Nat.mod_eq_of_lt (by omega)] at h; omega
theorem RingP.rot {P : List Pt} (R : RingP P) {t : Nat} (ht : t ≤ P.length) : RingP (P.drop t ++ P.take t) := by
  have n0 : 0 < P.length := by have := R.1; omega
  have len : (P.drop t ++ P.take t).length = P.length := by rw [List.length_append, List.length_drop, List.length_take]; omega
  refine ⟨by rw [len]; exact R.1, fun k hk j hj a b => ?_⟩
  rw [len] at hk hj b
  rw [cor_rot ht n0, cor_rot ht n0, cor_rot ht n0]
  have p := R.2 ((k + t) % P.length) (Nat.mod_lt _ n0) ((j + t) % P.length) (Nat.mod_lt _ n0) (fun z => a (rot_inj hj hk ht z)) (fun z => b (rot_inj hj (Nat.mod_lt _ n0) ht (by
    rw [z, Nat.mod_add_mod, Nat.mod_add_mod]
    congr 1
    omega)))
  rw [cor_mod, cor_mod, cor_succ_mod, show k + t + 1 = k + 1 + t by omega] at p
  exact p
theorem frd_floor {f : Fq} (h : 0 < f.2) : (frd f).1 / (frd f).2 = f.1 / f.2 := by
  obtain ⟨x, y⟩ := f
  have e1 := frT_mul x y
  have e2 := frB_mul x y
  have g := gcd_pos (a := x) h
  show frT x y / frB x y = x / y
  have e : x / y = (frT x y * (Int.gcd x y : Int)) / (frB x y * (Int.gcd x y : Int)) := by rw [e1, e2]
  rw [e, Int.mul_ediv_mul_of_pos_left _ _ g]
theorem RowsA.of_get {H : Hp} : ∀ {us : List V} {rs : List (List Int)}, us.length = rs.length → (∀ (i : Nat) v r, us[i]? = some v → rs[i]? = some r → ∃ p, v = .ref p ∧ H p = some (.tup (r.map V.int))) → RowsA H us rs
  | [], [], _, _ => trivial
  | [], _ :: _, h, _ => by simp at h
  | _ :: _, [], h, _ => by simp at h
  | u :: us, r :: rs, h, f => ⟨by
      obtain ⟨p, e, hp⟩ := f 0 u r rfl rfl
      exact ⟨p, e, hp⟩, RowsA.of_get (by simpa using h) fun i v r g g' => f (i + 1) v r g g'⟩
def rw2 (p : Zp) : List Int := [p.1, p.2]
theorem kp_own {H H1 H2 : Hp} {d l : Addr} (k : Kp d H H1) (n : H l = none) (k2 : Kp l H1 H2) : Kp d H H2 := fun a o h e => k2 a o (ne_of_none e n) (k a o h e)
theorem Dr.own {H1 H2 : Hp} {d l : Addr} (D : Dr H1 d) (n : l ≠ d) (k2 : Kp l H1 H2) : Dr H2 d := by
  obtain ⟨x, y, h, r⟩ := D
  exact ⟨x, y, k2 _ _ (Ne.symm n) h, r⟩
structure AwB (f : Fq) : Prop where
  p : 0 < f.2
  q : f.2 ≤ 6
  l : -20 ≤ f.1
  u : f.1 ≤ 20
theorem awB_frd {t b : Int} (b0 : 0 < b) (b6 : b ≤ 6) (t0 : -20 ≤ t) (t1 : t ≤ 20) : AwB (frd (t, b)) := by
  have g := gcd_pos (a := t) b0
  have e1 := frT_mul t b
  have e2 := frB_mul t b
  have p := frB_pos (t := t) b0
  refine ⟨p, ?_, ?_, ?_⟩
  · show frB t b ≤ 6
    have : frB t b * 1 ≤ frB t b * (Int.gcd t b : Int) := Int.mul_le_mul_of_nonneg_left (by omega) (by omega)
    omega
  · show -20 ≤ frT t b
    apply Classical.byContradiction
    intro n
    have : frT t b * (Int.gcd t b : Int) ≤ frT t b * 1 := Int.mul_le_mul_of_nonpos_left (by omega) (by omega)
    omega
  · show frT t b ≤ 20
    apply Classical.byContradiction
    intro n
    have : frT t b * 1 ≤ frT t b * (Int.gcd t b : Int) := Int.mul_le_mul_of_nonneg_left (by omega) (by omega)
    omega
def SzS (c : Cn) : Prop := SzF 60 10 c.1 ∧ SzF 60 10 c.2
theorem SzS.c {c : Cn} (h : SzS c) : SzC c := ⟨h.1.mono, h.2.mono⟩
/-- a ring as it stands, of small numbers -/
structure RgS (H : Hp) (l : Addr) (rs : List (V × Cn)) : Prop where
  l : H l = some (.lst (rs.map (·.1)))
  c : ∀ r ∈ rs, CnAt H r.1 r.2
  z : ∀ r ∈ rs, SzS r.2
theorem RgS.at {K : PySem.W.Frag} {H : Hp} {l : Addr} {rs : List (V × Cn)} (R : RgS H l rs) : RgAt K H l rs := ⟨SqL.of R.l, R.c, fun r hr => (R.z r hr).c⟩
theorem RgS.ex {H H' : Hp} {l : Addr} {rs : List (V × Cn)} (R : RgS H l rs) (e : Ex H H') : RgS H' l rs := ⟨e.at R.l, fun r hr => (R.c r hr).ex e, R.z⟩
theorem RgS.kp {H H' : Hp} {d l : Addr} {rs : List (V × Cn)} (R : RgS H l rs) (k : Kp d H H') (D : Dr H d) (n : l ≠ d) : RgS H' l rs := ⟨k _ _ n R.l, fun r hr => (R.c r hr).kp k D, R.z⟩
/-- not wide -/
def SmR (cs : List Cn) : Prop := (∃ z, -(10 ^ 6) ≤ z ∧ z ≤ 10 ^ 6 ∧ ∀ c ∈ cs, z ≤ c.1.1 / c.1.2 ∧ c.1.1 / c.1.2 ≤ z + 150) ∧ ∀ c ∈ cs, -20000 ≤ c.2.1 / c.2.2 ∧ c.2.1 / c.2.2 ≤ 20000
theorem SmR.perm {cs cs' : List Cn} (h : SmR cs) (s : ∀ c ∈ cs', c ∈ cs) : SmR cs' := by
  obtain ⟨⟨z, a, b, c⟩, d⟩ := h
  exact ⟨⟨z, a, b, fun x hx => c x (s x hx)⟩, fun x hx => d x (s x hx)⟩
/-- a point, leaned -/
structure ZB (x : Int) : Prop where
  l : -10000 ≤ x
  u : x ≤ 10000
theorem aff_sz {x b0 b1 : Int} {a : Fq} (hx : ZB x) (h0 : 0 < b0) (h0' : b0 ≤ 9) (h1 : 0 < b1) (h1' : b1 ≤ 7) (ha : AwB a) : SzF 60 10 (frd (x * b0 * a.2 + a.1 * b1, b1 * a.2)) := by
  have zx : Sz 14 x := by show x.natAbs < 2 ^ 14; have := hx.l; have := hx.u; omega
  have z0 : Sz 4 b0 := by show b0.natAbs < 2 ^ 4; omega
  have z1 : Sz 3 b1 := by show b1.natAbs < 2 ^ 3; omega
  have z2 : Sz 3 a.2 := by show a.2.natAbs < 2 ^ 3; have := ha.p; have := ha.q; omega
  have z3 : Sz 5 a.1 := by show a.1.natAbs < 2 ^ 5; have := ha.l; have := ha.u; omega
  exact frd_sz (f := (x * b0 * a.2 + a.1 * b1, b1 * a.2)) ⟨Int.mul_pos h1 ha.p, (((zx.mul z0).mul z2).add (z3.mul z1)).mono (by decide), (z1.mul z2).mono (by decide)⟩
theorem aff_floor {x b0 b1 : Int} {a : Fq} (h1 : 0 < b1) (ha : AwB a) : (frd (x * b0 * a.2 + a.1 * b1, b1 * a.2)).1 / (frd (x * b0 * a.2 + a.1 * b1, b1 * a.2)).2 = (x * b0 * a.2 + a.1 * b1) / (b1 * a.2) := frd_floor (f := (x * b0 * a.2 + a.1 * b1, b1 * a.2)) (Int.mul_pos h1 ha.p)
/-- within 27 of each other, they are within 82 when made greater -/
theorem aff_near {x lo b0 b1 : Int} {a : Fq} (hl : lo ≤ x) (hu : x ≤ lo + 27) (h0 : 0 < b0) (h0' : b0 ≤ 3) (h1 : 0 < b1) (ha : AwB a) :
    (lo * b0 * a.2 + a.1 * b1) / (b1 * a.2) ≤ (x * b0 * a.2 + a.1 * b1) / (b1 * a.2) ∧ (x * b0 * a.2 + a.1 * b1) / (b1 * a.2) ≤ (lo * b0 * a.2 + a.1 * b1) / (b1 * a.2) + 150 := by
  have p := ha.p
  have d := Int.mul_pos h1 p
  have m1 : lo * b0 * a.2 ≤ x * b0 * a.2 := Int.mul_le_mul_of_nonneg_right (Int.mul_le_mul_of_nonneg_right hl (by omega)) (by omega)
  refine ⟨Int.ediv_le_ediv d (by omega), ?_⟩
  have e : (lo * b0 * a.2 + a.1 * b1) / (b1 * a.2) + 150 = (lo * b0 * a.2 + a.1 * b1 + 150 * (b1 * a.2)) / (b1 * a.2) := by rw [Int.add_mul_ediv_right _ _ (by omega)]
  rw [e]
  refine Int.ediv_le_ediv d ?_
  have m2 : x * b0 * a.2 ≤ (lo + 27) * b0 * a.2 := Int.mul_le_mul_of_nonneg_right (Int.mul_le_mul_of_nonneg_right hu (by omega)) (by omega)
  have m3 : (lo + 27) * b0 * a.2 = lo * b0 * a.2 + 27 * b0 * a.2 := by grind
  have m4 : 27 * b0 * a.2 ≤ 81 * a.2 := Int.mul_le_mul_of_nonneg_right (by omega) (by omega)
  have m5 : 1 * a.2 ≤ b1 * a.2 := Int.mul_le_mul_of_nonneg_right (by omega) (by omega)
  omega
theorem aff_abs {x b0 b1 : Int} {a : Fq} (hl : -100 ≤ x) (hu : x ≤ 100) (h0 : 0 < b0) (h0' : b0 ≤ 9) (h1 : 0 < b1) (h1' : b1 ≤ 7) (ha : AwB a) :
    -10000 ≤ (x * b0 * a.2 + a.1 * b1) / (b1 * a.2) ∧ (x * b0 * a.2 + a.1 * b1) / (b1 * a.2) ≤ 10000 := by
  have p := ha.p
  have d := Int.mul_pos h1 p
  have q := ha.q
  have l := ha.l
  have u := ha.u
  have n1 : x * b0 * a.2 ≤ 100 * b0 * a.2 := Int.mul_le_mul_of_nonneg_right (Int.mul_le_mul_of_nonneg_right hu (by omega)) (by omega)
  have n2 : -100 * b0 * a.2 ≤ x * b0 * a.2 := Int.mul_le_mul_of_nonneg_right (Int.mul_le_mul_of_nonneg_right hl (by omega)) (by omega)
  have n3 : 100 * b0 * a.2 ≤ 900 * a.2 := Int.mul_le_mul_of_nonneg_right (by omega) (by omega)
  have n4 : a.1 * b1 ≤ 20 * b1 := Int.mul_le_mul_of_nonneg_right u (by omega)
  have n5 : -20 * b1 ≤ a.1 * b1 := Int.mul_le_mul_of_nonneg_right l (by omega)
  have n6 : -100 * b0 * a.2 = -(100 * b0 * a.2) := by grind
  constructor
  · rw [Int.le_ediv_iff_mul_le d]
    have : 1 ≤ b1 * a.2 := d
    omega
  · have : (x * b0 * a.2 + a.1 * b1) / (b1 * a.2) < 10001 := by
      rw [Int.ediv_lt_iff_lt_mul d]
      have : 1 ≤ b1 * a.2 := d
      omega
    omega

def sp_law_arch (_ : PySem.W.Frag) : Sp := fun vs H Q _ => ∃ (d : Addr) (most far : Int), vs = [.ref d, .int most, .int far] ∧ Dr H d ∧ 0 < most ∧ most ≤ 18 ∧ 0 < far ∧ far ≤ 3 ∧
  ∀ l rs H', H l = none → Kp d H H' → Dr H' d → RgS H' l rs → RingI (rcs rs) → rs.length ≤ most + 2 → (most ≤ 3 → far = 1 → SmR (rcs rs)) → Q (.ref l) H'
theorem use_law_arch {K : PySem.W.Frag} {H : Hp} {Q : VK} {E : XK} {d : Addr} {most far : Int} (D : Dr H d) (m0 : 0 < most) (m1 : most ≤ 18) (f0 : 0 < far) (f1 : far ≤ 3)
  (q : ∀ l rs H', H l = none → Kp d H H' → Dr H' d → RgS H' l rs → RingI (rcs rs) → rs.length ≤ most + 2 → (most ≤ 3 → far = 1 → SmR (rcs rs)) → Q (.ref l) H') : sp_law_arch K [.ref d, .int most, .int far] H Q E := ⟨d, most, far, rfl, D, m0, m1, f0, f1, q⟩
abbrev s_law_arch : Stmt := topS 26
abbrev nm_law_arch : List Str := ["draws", "most", "far", "many", "ring", "lean", "rise", "by", "away", "found", "x", "y", "one", "at", "k", "j"]
theorem sc_law_arch : FnScope nm_law_arch ["draws", "most", "far"] (defScope s_law_arch) := ⟨rfl, rfl, rfl, by decide +kernel, rfl, by decide +kernel, by decide +kernel⟩
theorem st_law_arch {v0 v1 v2 : V} : start nm_law_arch [v0, v1, v2] = [some v0, some v1, some v2, none, none, none, none, none, none, none, none, none, none, none, none, none] := rfl
section
variable {P : Program} {w : World} {K : PySem.W.Frag} {mg : Str → Option Value} {base : Heap}
theorem ok_law_arch (D : DefAt K mg "_law_arch" s_law_arch ["draws", "most", "far"]) (B_range : mg "range" = none) (B_len : mg "len" = none) (G__law_draw : Has P w K mg base CX0 2 "_law_draw" ["draws", "many"] (sp_law_draw K)) (G__law_low : Has P w K mg base CX0 3 "_law_low" ["top", "bottom"] (sp_law_low K)) : Has P w K mg base CX0 4 "_law_arch" ["draws", "most", "far"] (sp_law_arch K) := by
  refine D.ok sc_law_arch (by rintro _ _ _ _ ⟨_, _, _, rfl, _⟩; rfl) (fun f cdv A outer s H vs Q E hr h => ?_)
  obtain ⟨d, most, far, rfl, D, m0, m1, f0, f1, q⟩ := h
  refine ⟨_, (pss_cons (ps_set (i := 3) sc_law_arch.nd rfl (Or.inl rfl) (pe_op op_add pe_int (pcall G__law_draw (hr.mono (by decide)) (pa_cons (pv 0) (pa_cons (pv 1) pa_nil)))))
      (pss_cons (ps_setLc (i := 4) rfl sc_law_arch.nd rfl rfl (sw_true rfl rfl rfl (by decide +kernel)) (pi_range1 rfl B_range (pa_cons (pv 3) pa_nil)) (blkOk_by (own := [("k", 14)]) (N := nm_law_arch) (sc := defScope s_law_arch) (by decide +kernel)) (fun _ _ _ _ _ => (pg_name (i := 14) sc_law_arch.nd rfl (Or.inl rfl))) (fun _ _ _ _ _ => pts_nil) (fun _ _ _ _ _ => (pe_tup (pa_cons (pv 14) (pa_cons (pe_op op_mulX (pv 14) (pv 14)) pa_nil)))))
      (pcut (ps_if (PW.pt (pw_or (pt_cmpR op_eq (pv 3) pe_int (nomark _)) (pw_or1 (pt_cmpR op_eq (pcall G__law_draw (hr.mono (by decide)) (pa_cons (pv 0) (pa_cons pe_int pa_nil))) pe_int (nomark _))))) (pss_one (ps_expr (pe_bm PySem.F.plainAttrs_list PySem.F.slot_list_append PySem.F.type_list_append mt_append (pv 4) (pa_cons (pe_tup (pa_cons (pcall G__law_draw (hr.mono (by decide)) (pa_cons (pv 0) (pa_cons (pv 3) pa_nil))) (pa_cons (pe_op op_add (pe_op op_mulX (pv 3) (pv 3)) (pcall G__law_draw (hr.mono (by decide)) (pa_cons (pv 0) (pa_cons pe_int pa_nil)))) pa_nil))) pa_nil)))) pss_nil)
      (pss_cons (ps_set (i := 5) sc_law_arch.nd rfl (Or.inl rfl) (pe_op op_sub (pcall G__law_draw (hr.mono (by decide)) (pa_cons (pv 0) (pa_cons (pe_op op_add (pe_op op_mulX pe_int (pv 2)) pe_int) pa_nil))) (pv 2)))
      (pss_cons (ps_set (i := 6) sc_law_arch.nd rfl (Or.inl rfl) (pe_op op_sub (pcall G__law_draw (hr.mono (by decide)) (pa_cons (pv 0) (pa_cons (pe_op op_add (pe_op op_mulX pe_int (pv 2)) pe_int) pa_nil))) (pv 2)))
      (pss_cons (ps_set (i := 7) sc_law_arch.nd rfl (Or.inl rfl) (pe_tup (pa_cons (pe_op op_add pe_int (pcall G__law_draw (hr.mono (by decide)) (pa_cons (pv 0) (pa_cons (pe_op op_mulX pe_int (pv 2)) pa_nil)))) (pa_cons (pe_op op_add pe_int (pcall G__law_draw (hr.mono (by decide)) (pa_cons (pv 0) (pa_cons (pe_ix ix_list (pe_lst (pa_cons pe_int (pa_cons pe_int pa_nil))) (pcall G__law_draw (hr.mono (by decide)) (pa_cons (pv 0) (pa_cons pe_int pa_nil))) (fun _ _ => rfl)) pa_nil)))) pa_nil))))
      (pss_cons (ps_setLc (i := 8) rfl sc_law_arch.nd rfl rfl (sw_true rfl rfl rfl (by decide +kernel)) (pi_range1 rfl B_range (pa_cons pe_int pa_nil)) (blkOk_by (own := [("j", 15)]) (N := nm_law_arch) (sc := defScope s_law_arch) (by decide +kernel)) (fun _ _ _ _ _ => (pg_name (i := 15) sc_law_arch.nd rfl (Or.inl rfl))) (fun _ _ _ _ _ => pts_nil) (fun _ _ _ _ _ => (pcall G__law_low (hr.mono (by decide)) (pa_cons (pe_op op_sub (pcall G__law_draw (hr.mono (by decide)) (pa_cons (pv 0) (pa_cons pe_int pa_nil))) pe_int) (pa_cons (pe_op op_add pe_int (pcall G__law_draw (hr.mono (by decide)) (pa_cons (pv 0) (pa_cons pe_int pa_nil)))) pa_nil)))))
      (pss_cons (ps_set (i := 9) sc_law_arch.nd rfl (Or.inl rfl) (pe_lst pa_nil))
      (pss_cons (ps_for PassesOwn.never rfl (pi_list (pv 4)) (pg_tup (by rfl) (pgs_cons (pg_name (i := 10) sc_law_arch.nd rfl (Or.inl rfl)) (pgs_cons (pg_name (i := 11) sc_law_arch.nd rfl (Or.inl rfl)) pgs_nil)))
        (pss_cons (ps_set (i := 10) sc_law_arch.nd rfl (Or.inl rfl) (pe_op op_add (pv 10) (pe_op op_mulX (pv 5) (pv 11))))
        (pss_cons (ps_set (i := 11) sc_law_arch.nd rfl (Or.inl rfl) (pe_op op_add (pv 11) (pe_op op_mulX (pv 6) (pv 10))))
        (pss_cons (ps_set (i := 12) sc_law_arch.nd rfl (Or.inl rfl) (pcall G__law_low (hr.mono (by decide)) (pa_cons (pe_op op_add (pe_op op_mulX (pe_op op_mulX (pv 10) (pe_ix ix_tup (pv 7) pe_int (fun _ _ => rfl))) (pe_ix ix_tup (pe_ix ix_list (pv 8) pe_int (fun _ _ => rfl)) pe_int (fun _ _ => rfl))) (pe_op op_mulX (pe_ix ix_tup (pe_ix ix_list (pv 8) pe_int (fun _ _ => rfl)) pe_int (fun _ _ => rfl)) (pe_ix ix_tup (pv 7) pe_int (fun _ _ => rfl)))) (pa_cons (pe_op op_mulX (pe_ix ix_tup (pv 7) pe_int (fun _ _ => rfl)) (pe_ix ix_tup (pe_ix ix_list (pv 8) pe_int (fun _ _ => rfl)) pe_int (fun _ _ => rfl))) pa_nil))))
        (pss_one (ps_expr (pe_bm PySem.F.plainAttrs_list PySem.F.slot_list_append PySem.F.type_list_append mt_append (pv 9) (pa_cons (pe_tup (pa_cons (pv 12) (pa_cons (pcall G__law_low (hr.mono (by decide)) (pa_cons (pe_op op_add (pe_op op_mulX (pe_op op_mulX (pv 11) (pe_ix ix_tup (pv 7) pe_int (fun _ _ => rfl))) (pe_ix ix_tup (pe_ix ix_list (pv 8) pe_int (fun _ _ => rfl)) pe_int (fun _ _ => rfl))) (pe_op op_mulX (pe_ix ix_tup (pe_ix ix_list (pv 8) pe_int (fun _ _ => rfl)) pe_int (fun _ _ => rfl)) (pe_ix ix_tup (pv 7) pe_int (fun _ _ => rfl)))) (pa_cons (pe_op op_mulX (pe_ix ix_tup (pv 7) pe_int (fun _ _ => rfl)) (pe_ix ix_tup (pe_ix ix_list (pv 8) pe_int (fun _ _ => rfl)) pe_int (fun _ _ => rfl))) pa_nil))) pa_nil))) pa_nil))))))))
      (pss_cons (ps_set (i := 13) sc_law_arch.nd rfl (Or.inl rfl) (pcall G__law_draw (hr.mono (by decide)) (pa_cons (pv 0) (pa_cons (pe_callB cl_len (by rfl) B_len (by decide +kernel) (pa_cons (pv 9) pa_nil)) pa_nil))))
      (pss_one (ps_ret (pe_op op_cat (pe_slice sl_list (pv 9) (po_some (pv 13)) po_none) (pe_slice sl_list (pv 9) po_none (po_some (pv 13)))))))))))))))), ?_⟩
  rw [st_law_arch]
  try dsimp only [Cx.nox, Cx.wish, Cx.blk, cx_K]
  walk_at "go"
  refine use_law_draw D m0 ((Sz.small (by omega)).mono (by decide)) fun v1 H1 a0 a1 k1 D1 => ?_
  walk_at "go"
  refine r_rng1 (by omega) (by omega) ?_
  refine lc_rngE (fun D i v H' => ∃ r, v = .ref r ∧ r ≠ D ∧ H' r = some (.tup [.int (i : Int), .int ((i : Int) * i)])) (fun D i v G G' kp h => ?_) (by omega) (fun _ => rfl) (fun Dl hD i hi G e hd QE kE => ?_) (fun bl H2 us nb e2 h2 lus hus => ?_)
  · obtain ⟨r, e, n, h⟩ := h
    exact ⟨r, e, n, kp _ _ n h⟩
  · obtain ⟨xs, hd⟩ := hd
    have zi : Sz 200 (0 + (i : Int)) := Sz.small (by omega)
    walk_at "go"
    rename_i p G2 n2 e2 h2
    refine kE _ _ e2 ⟨p, rfl, (ne_of_none hd n2).symm, ?_⟩
    rw [h2, show (0 : Int) + (i : Int) = i by omega]
  have R2 : RowsA H2 us ((bowL (2 + v1).toNat).map rw2) := by
    refine RowsA.of_get (by rw [lus, List.length_map, bowL_len]) fun i v r g g' => ?_
    obtain ⟨p, e, _, hp⟩ := hus i v g
    have li : i < (2 + v1).toNat := by rw [← lus]; exact (List.getElem?_eq_some_iff.mp g).1
    rw [List.getElem?_map, show (bowL (2 + v1).toNat)[i]? = some ((i : Int), (i : Int) * i) by have := bow_at [] li; rwa [List.append_nil] at this] at g'
    cases g'
    exact ⟨p, e, hp⟩
  have K2 := k1.trans e2.kp
  have D2 := D1.up e2
  have nbl : H bl = none := free_kp k1 D1 nb
  have nbd : bl ≠ d := D.free nbl
  clear k1 e2 nb D1 hus
  walk_at "go"
  have mn2 : 2 ≤ (2 + v1).toNat := by omega
  have mn20 : (2 + v1).toNat ≤ 19 := by omega
  have em : 2 + v1 = (((2 + v1).toNat : Nat) : Int) := by omega
  have mmost : (((2 + v1).toNat : Nat) : Int) ≤ most + 1 := by omega
  generalize (2 + v1).toNat = m at *
  rw [em]
  clear em a0 a1
  have zmm : Sz 200 (m : Int) := Sz.small (by omega)
  refine r_cut (fun σ' H' => ∃ (B : List Zp) (xs : List V), σ' = [some (.ref d), some (.int most), some (.int far), some (.int (m : Int)), some (.ref bl), none, none, none, none, none, none, none, none, none, none, none] ∧ Kp d H H' ∧ Dr H' d ∧ H' bl = some (.lst xs) ∧ RowsA H' xs (B.map rw2) ∧ RingZ B ∧ B.length ≤ m + 1 ∧ ∀ p ∈ B, 0 ≤ p.1 ∧ p.1 < m ∧ 0 ≤ p.2 ∧ p.2 ≤ m * m + 8) ?_ ?_
  · have bow : ∀ p ∈ bowL m, 0 ≤ p.1 ∧ p.1 < m ∧ 0 ≤ p.2 ∧ p.2 ≤ (m : Int) * m + 8 := by
      intro p hp
      obtain ⟨k, hk, rfl⟩ := List.mem_map.mp hp
      have hk := List.mem_range.mp hk
      refine ⟨by show 0 ≤ (k : Int); omega, by show (k : Int) < m; omega, Int.mul_nonneg (by omega) (by omega), ?_⟩
      have := sq_le (c := (k : Int)) (m := m) (by omega) (by omega)
      show (k : Int) * k ≤ _
      omega
    by_cases z : m = 2
    · walk_at "go"
      refine use_law_draw D2 (by omega) (zmm.mono (by decide)) fun c G1 c0 c1 k1 D3 => ?_
      walk_at "go"
      refine use_law_draw D3 (by decide) (by walk_at "szm") fun u G2 u0 u1 k2 D4 => ?_
      walk_at "go"
      rename_i t G3 n3 e3 h3
      have k12 := k1.trans k2
      have hb := e3.at (k12 _ _ nbd h2)
      have RR := (R2.kp k12 D2).ex e3
      refine r_app hb (by rw [lus]; omega) fun G4 k4 h4 => ?_
      walk_at "go"
      refine ⟨bowL m ++ [(c, (m : Int) * m + u)], us ++ [.ref t], rfl, kp_own ((K2.trans k12).trans e3.kp) nbl k4, (D4.up e3).own nbd k4, h4, ?_, ringZ_top mn2 c0 c1 (by omega), by rw [List.length_append, bowL_len]; exact Nat.le_refl _, fun p hp => ?_⟩
      · rw [List.map_append]
        exact RowsA.app (k4.tupL hb h3) (RR.kpL k4 hb)
      · rcases List.mem_append.mp hp with hp | hp
        · exact bow p hp
        · rw [List.mem_singleton.mp hp]
          have : 0 ≤ (m : Int) * m := Int.mul_nonneg (by omega) (by omega)
          exact ⟨c0, c1, by show 0 ≤ (m : Int) * m + u; omega, by show (m : Int) * m + u ≤ _; omega⟩
    · walk_at "go"
      refine use_law_draw D2 (by decide) (by walk_at "szm") fun w G0 w0 w1 k0 D2' => ?_
      have K2 := K2.trans k0
      have R2 := R2.kp k0 D2
      have h2 := k0 _ _ nbd h2
      have D2 := D2'
      clear k0 D2'
      walk_at "go"
      refine if_2 (fun hx => ?_) (fun hx => ?_)
      · walk_at "go"
        refine use_law_draw D2 (by omega) (zmm.mono (by decide)) fun c G1 c0 c1 k1 D3 => ?_
        walk_at "go"
        refine use_law_draw D3 (by decide) (by walk_at "szm") fun u G2 u0 u1 k2 D4 => ?_
        walk_at "go"
        rename_i t G3 n3 e3 h3
        have k12 := k1.trans k2
        have hb := e3.at (k12 _ _ nbd h2)
        have RR := (R2.kp k12 D2).ex e3
        refine r_app hb (by rw [lus]; omega) fun G4 k4 h4 => ?_
        walk_at "go"
        refine ⟨bowL m ++ [(c, (m : Int) * m + u)], us ++ [.ref t], rfl, kp_own ((K2.trans k12).trans e3.kp) nbl k4, (D4.up e3).own nbd k4, h4, ?_, ringZ_top mn2 c0 c1 (by omega), by rw [List.length_append, bowL_len]; exact Nat.le_refl _, fun p hp => ?_⟩
        · rw [List.map_append]
          exact RowsA.app (k4.tupL hb h3) (RR.kpL k4 hb)
        · rcases List.mem_append.mp hp with hp | hp
          · exact bow p hp
          · rw [List.mem_singleton.mp hp]
            have : 0 ≤ (m : Int) * m := Int.mul_nonneg (by omega) (by omega)
            exact ⟨c0, c1, by show 0 ≤ (m : Int) * m + u; omega, by show (m : Int) * m + u ≤ _; omega⟩
      · walk_at "go"
        exact ⟨bowL m, us, rfl, K2, D2, h2, R2, ringZ_bow (by omega), by rw [bowL_len]; omega, bow⟩
  rintro σ' H3 ⟨B, xs, rfl, K3, D3, h3, R3, RZ, lB, bB⟩
  clear R2 h2 K2 D2 lus
  walk_at "go"
  refine use_law_draw D3 (by omega) ((Sz.small (by omega)).mono (by decide)) fun v4 H4 l0 l1 k4 D4 => ?_
  walk_at "go"
  refine use_law_draw D4 (by omega) ((Sz.small (by omega)).mono (by decide)) fun v5 H5 r0 r1 k5 D5 => ?_
  walk_at "go"
  refine use_law_draw D5 (by omega) ((Sz.small (by omega)).mono (by decide)) fun v6 H6 b0 b0' k6 D6 => ?_
  walk_at "go"
  rename_i l7 H7 n7 e7 h7
  refine use_law_draw (D6.up e7) (by decide) (by walk_at "szm") fun v8 H8 s0 s1 k8 D8 => ?_
  have h8 := k8 _ _ (D6.free n7) h7
  obtain ⟨z9, hz9, z90, z91⟩ : ∃ z : Int, atI [V.int 1, .int 7] v8 = some (V.int z) ∧ 0 < z ∧ z ≤ 7 := by
    obtain rfl | rfl : v8 = 0 ∨ v8 = 1 := by omega
    · exact ⟨1, rfl, by decide, by decide⟩
    · exact ⟨7, rfl, by decide, by decide⟩
  have k78 := (((k4.trans k5).trans k6).trans e7.kp).trans k8
  have h3 := k78 _ _ nbd h3
  have R3 := R3.kp k78 D3
  have K8 := K3.trans k78
  clear k4 k5 k6 e7 k8 D3 D4 D5 D6 n7 h7 k78 K3
  walk_at "go"
  refine r_ixL (SqL.of h8) hz9 ?_
  walk_at "go"
  refine use_law_draw D8 (by omega) ((Sz.small (by omega)).mono (by decide)) fun v9 H9 t0 t1 k9 D9 => ?_
  walk_at "go"
  rename_i by_ H10 n10 e10 h10
  have h3 := e10.at (k9 _ _ nbd h3)
  have R3 := (R3.kp k9 D8).ex e10
  have K10 := (K8.trans k9).trans e10.kp
  have D10 := D9.up e10
  clear k9 e10 D8 D9 K8 h8 hz9
  walk_at "go"
  refine r_rng1 (by decide) (by decide) ?_
  refine lc_rngD (fun _ v G => ∃ f, FrAt G v f ∧ AwB f) (fun _ v G G' kt ⟨f, ⟨p, e, h⟩, w⟩ => ⟨f, ⟨p, e, kt _ _ h⟩, w⟩) D10 (by decide) (fun _ => rfl) (fun i hi G k D QE kE => ?_) (fun aw H11 us11 n11 k11 D11 h11 lus11 hus11 => ?_)
  · walk_at "go"
    refine use_law_draw D (by decide) (by walk_at "szm") fun x1 G1 x10 x11 k1 D1 => ?_
    walk_at "go"
    refine use_law_draw D1 (by decide) (by walk_at "szm") fun x2 G2 x20 x21 k2 D2 => ?_
    walk_at "go"
    refine use_law_low (by omega) ((Sz.small (by omega)).mono (by decide)) fun p G3 n3 e3 h3 => ?_
    exact kE _ _ ((k1.trans k2).trans e3.kp) (D2.up e3) ⟨_, h3, awB_frd (by omega) (by omega) (by omega) (by omega)⟩
  obtain ⟨w0, w1, rfl⟩ : ∃ w0 w1, us11 = [w0, w1] := by
    match us11, lus11 with
    | [w0, w1], _ => exact ⟨w0, w1, rfl⟩
  obtain ⟨⟨x0, y0⟩, ⟨px, rfl, hpx⟩, ax⟩ := hus11 0 _ rfl
  obtain ⟨⟨x1, y1⟩, ⟨py, rfl, hpy⟩, ay⟩ := hus11 1 _ rfl
  have h10 := k11.tup D10 h10
  have h3 := k11 _ _ nbd h3
  have R3 := R3.kp k11 D10
  have K11 := K10.trans k11
  have nawd := D10.free n11
  clear k11 hus11 K10 D10 n11 n10
  have bl0 : ∃ lo : Int, (-100 ≤ lo ∧ lo ≤ 100) ∧ ∀ p ∈ B, most ≤ 3 → far = 1 → lo ≤ p.1 + (v4 - far) * p.2 ∧ p.1 + (v4 - far) * p.2 ≤ lo + 27 := by
    by_cases c : most ≤ 3 ∧ far = 1
    · obtain ⟨c1, rfl⟩ := c
      have mm : (m : Int) * m ≤ 16 := by have := sq_le (c := (m : Int)) (m := 4) (by omega) (by omega); omega
      obtain rfl | rfl | rfl : v4 = 0 ∨ v4 = 1 ∨ v4 = 2 := by omega
      · refine ⟨-24, by decide, fun p hp _ _ => ?_⟩
        have := bB p hp
        omega
      · refine ⟨0, by decide, fun p hp _ _ => ?_⟩
        have := bB p hp
        omega
      · refine ⟨0, by decide, fun p hp _ _ => ?_⟩
        have := bB p hp
        omega
    · exact ⟨0, by decide, fun p hp c1 c2 => absurd ⟨c1, c2⟩ c⟩
  have mm : (m : Int) * m ≤ 361 := by have := sq_le (c := (m : Int)) (m := 19) (by omega) (by omega); omega
  have bx : ∀ p ∈ B, -2000 ≤ p.1 + (v4 - far) * p.2 ∧ p.1 + (v4 - far) * p.2 ≤ 2000 := by
    intro p hp
    obtain ⟨a1, a2, a3, a4⟩ := bB p hp
    have u1 : (v4 - far) * p.2 ≤ 3 * p.2 := Int.mul_le_mul_of_nonneg_right (by omega) a3
    have u2 : -3 * p.2 ≤ (v4 - far) * p.2 := Int.mul_le_mul_of_nonneg_right (by omega) a3
    omega
  have by' : ∀ p ∈ B, ZB (p.2 + (v5 - far) * (p.1 + (v4 - far) * p.2)) := by
    intro p hp
    obtain ⟨a1, a2, a3, a4⟩ := bB p hp
    obtain ⟨b1, b2⟩ := bx p hp
    generalize p.1 + (v4 - far) * p.2 = X at *
    have r0' : -3 ≤ v5 - far := by omega
    have r1' : v5 - far ≤ 3 := by omega
    generalize v5 - far = r at *
    have p1 : 0 ≤ (3 - r) * (X + 2000) := Int.mul_nonneg (by omega) (by omega)
    have p2 : 0 ≤ (3 + r) * (2000 - X) := Int.mul_nonneg (by omega) (by omega)
    have p3 : 0 ≤ (3 + r) * (X + 2000) := Int.mul_nonneg (by omega) (by omega)
    have p4 : 0 ≤ (3 - r) * (2000 - X) := Int.mul_nonneg (by omega) (by omega)
    have e1 : (3 - r) * (X + 2000) + (3 + r) * (2000 - X) = 12000 - 2 * (r * X) := by grind
    have e2 : (3 + r) * (X + 2000) + (3 - r) * (2000 - X) = 12000 + 2 * (r * X) := by grind
    constructor <;> omega
  have bys : ∀ p ∈ B, most ≤ 3 → far = 1 → -100 ≤ p.2 + (v5 - far) * (p.1 + (v4 - far) * p.2) ∧ p.2 + (v5 - far) * (p.1 + (v4 - far) * p.2) ≤ 100 := by
    intro p hp c1 c2
    have mm : (m : Int) * m ≤ 16 := by have := sq_le (c := (m : Int)) (m := 4) (by omega) (by omega); omega
    obtain ⟨a1, a2, a3, a4⟩ := bB p hp
    subst c2
    obtain rfl | rfl | rfl : v4 = 0 ∨ v4 = 1 ∨ v4 = 2 := by omega
    all_goals
      obtain rfl | rfl | rfl : v5 = 0 ∨ v5 = 1 ∨ v5 = 2 := by omega
      all_goals omega
  have zlean : Sz 200 (v4 - far) := Sz.small (by omega)
  have zrise : Sz 200 (v5 - far) := Sz.small (by omega)
  have zb0 : Sz 200 (1 + v6) := Sz.small (by omega)
  have zb1 : Sz 200 (1 + v9) := Sz.small (by omega)
  have hb0 : 0 < 1 + v6 := by omega
  have hb0' : 1 + v6 ≤ 9 := by omega
  have hb03 : far = 1 → 1 + v6 ≤ 3 := by omega
  have hb1 : 0 < 1 + v9 := by omega
  have hb1' : 1 + v9 ≤ 7 := by omega
  generalize v4 - far = lean at *
  generalize v5 - far = rise at *
  generalize 1 + v6 = b0 at *
  generalize 1 + v9 = b1 at *
  clear l0 l1 r0 r1 t0 t1 s0 s1 z90 z91
  obtain ⟨ax1, ax2, ax3, ax4⟩ := id ax
  obtain ⟨ay1, ay2, ay3, ay4⟩ := id ay
  dsimp only at ax1 ax2 ax3 ax4 ay1 ay2 ay3 ay4
  have zx0 : Sz 200 x0 := Sz.small (by omega)
  have zy0 : Sz 200 y0 := Sz.small (by omega)
  have zx1 : Sz 200 x1 := Sz.small (by omega)
  have zy1 : Sz 200 y1 := Sz.small (by omega)
  walk_at "go"
  rename_i fl H12 n12 e12 h12
  have nfb : fl ≠ bl := (ne_of_none h3 n12).symm
  have nfa : fl ≠ aw := (ne_of_none h11 n12).symm
  have h3 := e12.at h3
  have R3 := R3.ex e12
  have h10 := e12.at h10
  have h11 := e12.at h11
  have hpx := e12.at hpx
  have hpy := e12.at hpy
  have nfl : H fl = none := free_kp K11 D11 n12
  have K12 := K11.trans e12.kp
  have nfd := D11.free n12
  have D12 := D11.up e12
  clear e12 n12 K11 D11
  have lxs := R3.len
  rw [List.length_map] at lxs
  refine for_lst (xs := xs) (fun i σ H' => ∃ (rs : List (V × Cn)) (o10 o11 o12 : Option V), σ = [some (.ref d), some (.int most), some (.int far), some (.int (m : Int)), some (.ref bl), some (.int lean), some (.int rise), some (.ref by_), some (.ref aw), some (.ref fl), o10, o11, o12, none, none, none] ∧ Kp d H H' ∧ Dr H' d ∧ H' bl = some (.lst xs) ∧ RowsA H' xs (B.map rw2) ∧ H' by_ = some (.tup [.int b0, .int b1]) ∧ H' aw = some (.lst [.ref px, .ref py]) ∧ H' px = some (.tup [.int x0, .int y0]) ∧ H' py = some (.tup [.int x1, .int y1]) ∧ RgS H' fl rs ∧ rs.map (·.2) = (B.take i).map (affC lean rise b0 b1 (x0, y0) (x1, y1))) ⟨[], none, none, none, rfl, K12, D12, h3, R3, h10, h11, hpx, hpy, ⟨h12, fun r hr => absurd hr List.not_mem_nil, fun r hr => absurd hr List.not_mem_nil⟩, rfl⟩ (fun i σ H' _ h => ?_) ?_ ?_
  · obtain ⟨_, _, _, _, _, _, _, z, _⟩ := h
    exact SqL.of z
  · clear K12 D12 h3 R3 h10 h11 hpx hpy h12
    rintro i x σ G hx ⟨rs, o10, o11, o12, rfl, K, D, h3, R3, h10, h11, hpx, hpy, RG, ers⟩
    obtain ⟨p, r, rfl, hr, hp⟩ := R3.get hx
    rw [List.getElem?_map] at hr
    obtain ⟨z, hz, rfl⟩ := Option.map_eq_some_iff.mp hr
    have hp : G p = some (.tup [.int z.1, .int z.2]) := hp
    have mz := List.mem_of_getElem? hz
    obtain ⟨c1, c2, c3, c4⟩ := bB z mz
    have zz1 : Sz 200 z.1 := Sz.small (by omega)
    have zz2 : Sz 200 z.2 := Sz.small (by omega)
    have cx := bx z mz
    have cy := by' z mz
    have zX : Sz 200 (z.1 + lean * z.2) := Sz.small (by omega)
    have zY : Sz 200 (z.2 + rise * (z.1 + lean * z.2)) := Sz.small (by have := cy.l; have := cy.u; omega)
    walk_at "go"
    refine use_law_low (Int.mul_pos hb1 ax1) ((zb1.mul zy0).mono (by decide)) fun q1 G1 m1 g1 f1 => ?_
    walk_at "go"
    have h10 := g1.at h10
    have h11 := g1.at h11
    have hpy := g1.at hpy
    have hfl := g1.at RG.l
    walk_at "go"
    refine use_law_low (Int.mul_pos hb1 ay1) ((zb1.mul zy1).mono (by decide)) fun q2 G2 m2 g2 f2 => ?_
    walk_at "go"
    rename_i q3 G3 m3 g3 f3
    have g23 := g2.trans g3
    have g13 := g1.trans g23
    have RG3 := RG.ex g13
    have C3 : CnAt G3 (.ref q3) (affC lean rise b0 b1 (x0, y0) (x1, y1) z) := ⟨q3, _, _, rfl, f3, f1.ex g23, f2.ex g3⟩
    have lr : rs.length ≤ 100000 := by
      have := congrArg List.length ers
      rw [List.length_map, List.length_map, List.length_take] at this
      omega
    refine r_app RG3.l (by rw [List.length_map]; exact lr) fun G4 k4 h4 => ?_
    walk_at "go"
    have zc : SzS (affC lean rise b0 b1 (x0, y0) (x1, y1) z) := ⟨aff_sz ⟨by omega, by omega⟩ hb0 hb0' hb1 hb1' ax, aff_sz cy hb0 hb0' hb1 hb1' ay⟩
    refine ⟨rs ++ [(.ref q3, affC lean rise b0 b1 (x0, y0) (x1, y1) z)], _, _, _, rfl, kp_own (K.trans g13.kp) nfl k4, (D.up g13).own nfd k4, k4 _ _ nfb.symm (g13.at h3), (R3.ex g13).kpL k4 RG3.l, k4.tupL RG3.l (g23.at h10), k4 _ _ nfa.symm (g23.at h11), k4.tupL RG3.l (g13.at hpx), k4.tupL RG3.l (g23.at hpy), ⟨?_, ?_, ?_⟩, ?_⟩
    · rw [h4, List.map_append]
      rfl
    · intro r hr
      rcases List.mem_append.mp hr with hr | hr
      · exact (RG3.c r hr).kpL k4 RG3.l
      · rw [List.mem_singleton.mp hr]
        exact C3.kpL k4 RG3.l
    · intro r hr
      rcases List.mem_append.mp hr with hr | hr
      · exact RG3.z r hr
      · rw [List.mem_singleton.mp hr]
        exact zc
    · rw [List.map_append, ers, List.take_add_one, hz, List.map_append]
      rfl
  · clear K12 D12 h3 R3 h10 h11 hpx hpy h12
    rintro σ G ⟨rs, o10, o11, o12, rfl, K, D, _, _, _, _, _, _, RG, ers⟩
    rw [lxs, List.take_length] at ers
    have lrs : rs.length = B.length := by
      have := congrArg List.length ers
      rwa [List.length_map, List.length_map] at this
    have lB3 := RZ.1
    have hfl := RG.l
    have lmap : (rs.map (·.1)).length = rs.length := List.length_map ..
    walk_at "go"
    refine use_law_draw D (by omega) ((Sz.small (by omega)).mono (by decide)) fun at_ G1 a0 a1 k1 D1 => ?_
    have RG1 := RG.kp k1 D nfd
    have hfl := RG1.l
    walk_at "go"
    refine r_slL hfl fun s1 G2 n2 e2 h2 => ?_
    have hfl := e2.at hfl
    walk_at "go"
    refine r_slL hfl fun s2 G3 n3 e3 h3 => ?_
    rw [cut_fromN _ a0 (by omega)] at h2
    rw [cut_toN _ a0 (by omega)] at h3
    have h2 := e3.at h2
    walk_at "go"
    refine r_catL h2 h3 (by rw [List.length_drop, List.length_take]; omega) fun l G4 n4 e4 h4 => ?_
    walk_at "go"
    have E4 := (e2.trans e3).trans e4
    have K4 := (K.trans k1).trans E4.kp
    have mem : ∀ {r : V × Cn}, r ∈ rs.drop at_.toNat ++ rs.take at_.toNat → r ∈ rs := fun {r} hr => by
      rcases List.mem_append.mp hr with hr | hr
      · exact List.mem_of_mem_drop hr
      · exact List.mem_of_mem_take hr
    have RG4 := RG1.ex E4
    have cse : rcs (rs.drop at_.toNat ++ rs.take at_.toNat) = (rcs rs).drop at_.toNat ++ (rcs rs).take at_.toNat := by
      unfold rcs
      rw [List.map_append, List.map_drop, List.map_take]
    have RP : RingP (pts (rcs rs)) := by
      rw [show rcs rs = B.map (affC lean rise b0 b1 (x0, y0) (x1, y1)) from ers]
      exact ring_aff RZ hb0 hb1 ax1 ay1
    refine q l (rs.drop at_.toNat ++ rs.take at_.toNat) G4 (free_kp (K.trans k1) D1 (free_back (e2.trans e3) n4)) K4 (D1.up E4) ⟨?_, fun r hr => RG4.c r (mem hr), fun r hr => RG4.z r (mem hr)⟩ ?_ ?_ ?_
    · rw [h4, List.map_append, List.map_drop, List.map_take]
    · refine (ringI_iff (fun c hc => ?_)).mpr ⟨?_, ?_⟩
      · obtain ⟨r, hr, rfl⟩ := List.mem_map.mp hc
        exact (RG4.z r (mem hr)).c.ok
      · rw [cse]
        have ep : pts ((rcs rs).drop at_.toNat ++ (rcs rs).take at_.toNat) = (pts (rcs rs)).drop at_.toNat ++ (pts (rcs rs)).take at_.toNat := by
          unfold pts
          rw [List.map_append, List.map_drop, List.map_take]
        rw [ep]
        refine RP.rot ?_
        unfold pts rcs
        rw [List.length_map, List.length_map]
        omega
      · unfold rcs
        rw [List.length_map, List.length_append, List.length_drop, List.length_take]
        omega
    · rw [List.length_append, List.length_drop, List.length_take]
      omega
    · intro c1 c2
      refine SmR.perm (cs := rcs rs) ?_ (fun c hc => by
        obtain ⟨r, hr, rfl⟩ := List.mem_map.mp hc
        exact List.mem_map.mpr ⟨r, mem hr, rfl⟩)
      rw [show rcs rs = B.map (affC lean rise b0 b1 (x0, y0) (x1, y1)) from ers]
      obtain ⟨lo, ⟨lo0, lo1⟩, hlo⟩ := bl0
      have zn := aff_abs (a := (x0, y0)) lo0 lo1 hb0 hb0' hb1 hb1' ax
      dsimp only at zn
      have h03 := hb03 c2
      refine ⟨⟨(lo * b0 * y0 + x0 * b1) / (b1 * y0), ?_, ?_, ?_⟩, ?_⟩
      · omega
      · omega
      · intro c hc
        obtain ⟨p, hp, rfl⟩ := List.mem_map.mp hc
        obtain ⟨u1, u2⟩ := hlo p hp c1 c2
        have e := aff_floor (x := p.1 + lean * p.2) (b0 := b0) hb1 ax
        have n := aff_near (a := (x0, y0)) u1 u2 hb0 h03 hb1 ax
        show _ ≤ (frd ((p.1 + lean * p.2) * b0 * (x0, y0).2 + (x0, y0).1 * b1, b1 * (x0, y0).2)).1 / (frd ((p.1 + lean * p.2) * b0 * (x0, y0).2 + (x0, y0).1 * b1, b1 * (x0, y0).2)).2 ∧ (frd ((p.1 + lean * p.2) * b0 * (x0, y0).2 + (x0, y0).1 * b1, b1 * (x0, y0).2)).1 / (frd ((p.1 + lean * p.2) * b0 * (x0, y0).2 + (x0, y0).1 * b1, b1 * (x0, y0).2)).2 ≤ _
        rw [e]
        exact n
      · intro c hc
        obtain ⟨p, hp, rfl⟩ := List.mem_map.mp hc
        obtain ⟨u1, u2⟩ := bys p hp c1 c2
        have e := aff_floor (x := p.2 + rise * (p.1 + lean * p.2)) (b0 := b0) hb1 ay
        have n := aff_abs (a := (x1, y1)) u1 u2 hb0 hb0' hb1 hb1' ay
        show _ ≤ (frd ((p.2 + rise * (p.1 + lean * p.2)) * b0 * (x1, y1).2 + (x1, y1).1 * b1, b1 * (x1, y1).2)).1 / (frd ((p.2 + rise * (p.1 + lean * p.2)) * b0 * (x1, y1).2 + (x1, y1).1 * b1, b1 * (x1, y1).2)).2 ∧ (frd ((p.2 + rise * (p.1 + lean * p.2)) * b0 * (x1, y1).2 + (x1, y1).1 * b1, b1 * (x1, y1).2)).1 / (frd ((p.2 + rise * (p.1 + lean * p.2)) * b0 * (x1, y1).2 + (x1, y1).1 * b1, b1 * (x1, y1).2)).2 ≤ _
        rw [e]
        omega

end
def sp_divisor (_ : PySem.W.Frag) : Sp := fun vs H Q _ => ∃ (x y : Int), vs = [.int x, .int y] ∧ Q (.int (Int.gcd x y : Int)) H
theorem use_divisor {K : PySem.W.Frag} {H : Hp} {Q : VK} {E : XK} {x y : Int} (q : Q (.int (Int.gcd x y : Int)) H) : sp_divisor K [.int x, .int y] H Q E := ⟨x, y, rfl, q⟩
abbrev s_divisor : Stmt := topS 4
abbrev nm_divisor : List Str := ["one", "other"]
theorem sc_divisor : FnScope nm_divisor ["one", "other"] (defScope s_divisor) := ⟨rfl, rfl, rfl, by decide +kernel, rfl, by decide +kernel, by decide +kernel⟩
theorem st_divisor {v0 v1 : V} : start nm_divisor [v0, v1] = [some v0, some v1] := rfl
section
variable {P : Program} {w : World} {K : PySem.W.Frag} {mg : Str → Option Value} {base : Heap}
theorem ok_divisor (D : DefAt K mg "divisor" s_divisor ["one", "other"]) (B_abs : mg "abs" = none) : Has P w K mg base CX0 2 "divisor" ["one", "other"] (sp_divisor K) := by
  refine D.ok sc_divisor (by rintro _ _ _ _ ⟨_, _, rfl, _⟩; rfl) (fun f cdv A outer s H vs Q E hr h => ?_)
  obtain ⟨x, y, rfl, q⟩ := h
  refine ⟨_, (pss_cons (ps_set (i := 0) sc_divisor.nd rfl (Or.inl rfl) (pe_callB cl_abs (by rfl) B_abs (by decide +kernel) (pa_cons (pv 0) pa_nil)))
      (pss_cons (ps_set (i := 1) sc_divisor.nd rfl (Or.inl rfl) (pe_callB cl_abs (by rfl) B_abs (by decide +kernel) (pa_cons (pv 1) pa_nil)))
      (pss_cons (ps_while PassesOwn.never (pt_cmpR op_gt (pv 1) pe_int (nomark _)) (pss_one (ps_par (i := 0) (j := 1) (by rfl) sc_divisor.nd rfl rfl (by decide) rfl rfl (pa_cons (pv 1) (pa_cons (pe_op op_mod (pv 0) (pv 1)) pa_nil)) (by rfl))))
      (pss_one (ps_ret (pv 0)))))), ?_⟩
  rw [st_divisor]
  try dsimp only [Cx.nox, Cx.wish, Cx.blk, cx_K]
  walk_at "go"
  refine while_m (fun μ σ H' => H' = H ∧ ∃ (u v : Nat), σ = [some (.int (u : Int)), some (.int (v : Int))] ∧ μ = v ∧ Nat.gcd u v = Int.gcd x y) y.natAbs ⟨rfl, x.natAbs, y.natAbs, rfl, rfl, rfl⟩ ?_
  rintro v σ H1 ⟨eH, u, v', rfl, rfl, e⟩
  walk_at "go"
  refine if_2 (fun hx => ?_) (fun hx => ?_)
  · have hx := of_decide_eq_true hx
    refine r_body (fun σ H' => H' = H ∧ σ = [some (.int (v : Int)), some (.int ((u % v : Nat) : Int))]) ?_ ?_
    · rintro σ H2 ⟨e2, rfl⟩
      exact ⟨u % v, Nat.mod_lt _ (by omega), e2, v, u % v, rfl, rfl, by rw [gcd_step, e]⟩
    walk_at "go"
    exact ⟨eH, rfl⟩
  · have hx := of_decide_eq_false hx
    walk_at "go"
    have ev : v = 0 := by omega
    subst ev
    rw [Nat.gcd_zero_right] at e
    rw [e, eH]
    exact q

end
def sp_fraction (_ : PySem.W.Frag) : Sp := fun vs H Q _ => ∃ (t b : Int), vs = [.int t, .int b] ∧ 0 < b ∧ Sz 8000 b ∧
  ∀ p H', H p = none → Ex H H' → FrAt H' (.ref p) (frd (t, b)) → Q (.ref p) H'
theorem use_fraction {K : PySem.W.Frag} {H : Hp} {Q : VK} {E : XK} {t b : Int} (hb : 0 < b) (zb : Sz 8000 b)
    (q : ∀ p H', H p = none → Ex H H' → FrAt H' (.ref p) (frd (t, b)) → Q (.ref p) H') : sp_fraction K [.int t, .int b] H Q E := ⟨t, b, rfl, hb, zb, q⟩
abbrev s_fraction : Stmt := topS 11
abbrev nm_fraction : List Str := ["top", "bottom", "by"]
theorem sc_fraction : FnScope nm_fraction ["top", "bottom"] (defScope s_fraction) := ⟨rfl, rfl, rfl, by decide +kernel, rfl, by decide +kernel, by decide +kernel⟩
theorem st_fraction {v0 v1 : V} : start nm_fraction [v0, v1] = [some v0, some v1, none] := rfl
section
variable {P : Program} {w : World} {K : PySem.W.Frag} {mg : Str → Option Value} {base : Heap}
theorem ok_fraction (D : DefAt K mg "fraction" s_fraction ["top", "bottom"]) (G_divisor : Has P w K mg base CX0 2 "divisor" ["one", "other"] (sp_divisor K)) : Has P w K mg base CX0 3 "fraction" ["top", "bottom"] (sp_fraction K) := by
  refine D.ok sc_fraction (by rintro _ _ _ _ ⟨_, _, rfl, _⟩; rfl) (fun f cdv A outer s H vs Q E hr h => ?_)
  obtain ⟨t, b, rfl, hb, zb, q⟩ := h
  refine ⟨_, (pss_cons (ps_set (i := 2) sc_fraction.nd rfl (Or.inl rfl) (pcall G_divisor (hr.mono (by decide)) (pa_cons (pv 0) (pa_cons (pv 1) pa_nil))))
      (pss_one (ps_ret (pe_tup (pa_cons (pe_op op_fdivW (pv 0) (pv 2)) (pa_cons (pe_op op_fdivW (pv 1) (pv 2)) pa_nil)))))), ?_⟩
  rw [st_fraction]
  try dsimp only [Cx.nox, Cx.wish, Cx.blk, cx_K]
  walk_at "go"
  refine use_divisor ?_
  have g := gcd_pos (a := t) hb
  have zg : Sz 8000 (Int.gcd t b : Int) := zb.le (by omega) (Int.gcd_le_right t hb)
  walk_at "go"
  rename_i p H1 n1 e1 h1
  exact q _ _ n1 e1 ⟨p, rfl, h1⟩

end
def sp_difference (_ : PySem.W.Frag) : Sp := fun vs H Q _ => ∃ (x y : V) (f g : Fq), vs = [x, y] ∧ FrAt H x f ∧ FrAt H y g ∧ SzF 2000 2000 f ∧ SzF 2000 2000 g ∧
  ∀ p H', H p = none → Ex H H' → FrAt H' (.ref p) (fDif f g) → Q (.ref p) H'
theorem use_difference {K : PySem.W.Frag} {H : Hp} {Q : VK} {E : XK} {x y : V} {f g : Fq} (hx : FrAt H x f) (hy : FrAt H y g) (zf : SzF 2000 2000 f) (zg : SzF 2000 2000 g)
    (q : ∀ p H', H p = none → Ex H H' → FrAt H' (.ref p) (fDif f g) → Q (.ref p) H') : sp_difference K [x, y] H Q E := ⟨x, y, f, g, rfl, hx, hy, zf, zg, q⟩
abbrev s_difference : Stmt := topS 12
abbrev nm_difference : List Str := ["one", "other"]
theorem sc_difference : FnScope nm_difference ["one", "other"] (defScope s_difference) := ⟨rfl, rfl, rfl, by decide +kernel, rfl, by decide +kernel, by decide +kernel⟩
theorem st_difference {v0 v1 : V} : start nm_difference [v0, v1] = [some v0, some v1] := rfl
section
variable {P : Program} {w : World} {K : PySem.W.Frag} {mg : Str → Option Value} {base : Heap}
theorem ok_difference (D : DefAt K mg "difference" s_difference ["one", "other"]) (G_fraction : Has P w K mg base CX0 3 "fraction" ["top", "bottom"] (sp_fraction K)) : Has P w K mg base CX0 4 "difference" ["one", "other"] (sp_difference K) := by
  refine D.ok sc_difference (by rintro _ _ _ _ ⟨_, _, _, _, rfl, _⟩; rfl) (fun f cdv A outer s H vs Q E hr h => ?_)
  obtain ⟨_, _, ⟨t, b⟩, ⟨u, c⟩, rfl, ⟨p1, rfl, h1⟩, ⟨p2, rfl, h2⟩, ⟨b0, zt, zb⟩, ⟨c0, zu, zc⟩, q⟩ := h
  dsimp only at h1 h2 b0 zt zb c0 zu zc
  refine ⟨_, (pss_one (ps_ret (pcall G_fraction (hr.mono (by decide)) (pa_cons (pe_op op_sub (pe_op op_mulX (pe_ix ix_tup (pv 0) pe_int (fun _ _ => rfl)) (pe_ix ix_tup (pv 1) pe_int (fun _ _ => rfl))) (pe_op op_mulX (pe_ix ix_tup (pv 1) pe_int (fun _ _ => rfl)) (pe_ix ix_tup (pv 0) pe_int (fun _ _ => rfl)))) (pa_cons (pe_op op_mulX (pe_ix ix_tup (pv 0) pe_int (fun _ _ => rfl)) (pe_ix ix_tup (pv 1) pe_int (fun _ _ => rfl))) pa_nil))))), ?_⟩
  rw [st_difference]
  try dsimp only [Cx.nox, Cx.wish, Cx.blk, cx_K]
  walk_at "go"
  refine use_fraction (Int.mul_pos b0 c0) ((zb.mul zc).mono (by decide)) fun p H1 n1 e1 h3 => ?_
  exact q _ _ n1 e1 h3

end
def sp_product_of (_ : PySem.W.Frag) : Sp := fun vs H Q _ => ∃ (x y : V) (f g : Fq), vs = [x, y] ∧ FrAt H x f ∧ FrAt H y g ∧ SzF 2000 2000 f ∧ SzF 2000 2000 g ∧
  ∀ p H', H p = none → Ex H H' → FrAt H' (.ref p) (fPro f g) → Q (.ref p) H'
theorem use_product_of {K : PySem.W.Frag} {H : Hp} {Q : VK} {E : XK} {x y : V} {f g : Fq} (hx : FrAt H x f) (hy : FrAt H y g) (zf : SzF 2000 2000 f) (zg : SzF 2000 2000 g)
    (q : ∀ p H', H p = none → Ex H H' → FrAt H' (.ref p) (fPro f g) → Q (.ref p) H') : sp_product_of K [x, y] H Q E := ⟨x, y, f, g, rfl, hx, hy, zf, zg, q⟩
abbrev s_product_of : Stmt := topS 13
abbrev nm_product_of : List Str := ["one", "other"]
theorem sc_product_of : FnScope nm_product_of ["one", "other"] (defScope s_product_of) := ⟨rfl, rfl, rfl, by decide +kernel, rfl, by decide +kernel, by decide +kernel⟩
theorem st_product_of {v0 v1 : V} : start nm_product_of [v0, v1] = [some v0, some v1] := rfl
section
variable {P : Program} {w : World} {K : PySem.W.Frag} {mg : Str → Option Value} {base : Heap}
theorem ok_product_of (D : DefAt K mg "product_of" s_product_of ["one", "other"]) (G_fraction : Has P w K mg base CX0 3 "fraction" ["top", "bottom"] (sp_fraction K)) : Has P w K mg base CX0 4 "product_of" ["one", "other"] (sp_product_of K) := by
  refine D.ok sc_product_of (by rintro _ _ _ _ ⟨_, _, _, _, rfl, _⟩; rfl) (fun f cdv A outer s H vs Q E hr h => ?_)
  obtain ⟨_, _, ⟨t, b⟩, ⟨u, c⟩, rfl, ⟨p1, rfl, h1⟩, ⟨p2, rfl, h2⟩, ⟨b0, zt, zb⟩, ⟨c0, zu, zc⟩, q⟩ := h
  dsimp only at h1 h2 b0 zt zb c0 zu zc
  refine ⟨_, (pss_one (ps_ret (pcall G_fraction (hr.mono (by decide)) (pa_cons (pe_op op_mulX (pe_ix ix_tup (pv 0) pe_int (fun _ _ => rfl)) (pe_ix ix_tup (pv 1) pe_int (fun _ _ => rfl))) (pa_cons (pe_op op_mulX (pe_ix ix_tup (pv 0) pe_int (fun _ _ => rfl)) (pe_ix ix_tup (pv 1) pe_int (fun _ _ => rfl))) pa_nil))))), ?_⟩
  rw [st_product_of]
  try dsimp only [Cx.nox, Cx.wish, Cx.blk, cx_K]
  walk_at "go"
  refine use_fraction (Int.mul_pos b0 c0) ((zb.mul zc).mono (by decide)) fun p H1 n1 e1 h3 => ?_
  exact q _ _ n1 e1 h3

end
def sp_hand_of (_ : PySem.W.Frag) : Sp := fun vs H Q _ => ∃ (x y z : V) (a b c : Cn), vs = [x, y, z] ∧ CnAt H x a ∧ CnAt H y b ∧ CnAt H z c ∧ SzC a ∧ SzC b ∧ SzC c ∧
  ∀ H', Ex H H' → Q (.int (handI a b c)) H'
theorem use_hand_of {K : PySem.W.Frag} {H : Hp} {Q : VK} {E : XK} {x y z : V} {a b c : Cn} (hx : CnAt H x a) (hy : CnAt H y b) (hz : CnAt H z c) (za : SzC a) (zb : SzC b) (zc : SzC c)
    (q : ∀ H', Ex H H' → Q (.int (handI a b c)) H') : sp_hand_of K [x, y, z] H Q E := ⟨x, y, z, a, b, c, rfl, hx, hy, hz, za, zb, zc, q⟩
abbrev s_hand_of : Stmt := topS 14
abbrev nm_hand_of : List Str := ["one", "other", "third", "first"]
theorem sc_hand_of : FnScope nm_hand_of ["one", "other", "third"] (defScope s_hand_of) := ⟨rfl, rfl, rfl, by decide +kernel, rfl, by decide +kernel, by decide +kernel⟩
theorem st_hand_of {v0 v1 v2 : V} : start nm_hand_of [v0, v1, v2] = [some v0, some v1, some v2, none] := rfl
section
variable {P : Program} {w : World} {K : PySem.W.Frag} {mg : Str → Option Value} {base : Heap}
theorem ok_hand_of (D : DefAt K mg "hand_of" s_hand_of ["one", "other", "third"]) (G_difference : Has P w K mg base CX0 4 "difference" ["one", "other"] (sp_difference K)) (G_product_of : Has P w K mg base CX0 4 "product_of" ["one", "other"] (sp_product_of K)) : Has P w K mg base CX0 5 "hand_of" ["one", "other", "third"] (sp_hand_of K) := by
  refine D.ok sc_hand_of (by rintro _ _ _ _ ⟨_, _, _, _, _, _, rfl, _⟩; rfl) (fun f cdv A outer s H vs Q E hr h => ?_)
  obtain ⟨_, _, _, a, b, c, rfl, ⟨pa, ua, wa, rfl, ha, fa1, fa2⟩, ⟨pb, ub, wb, rfl, hb, fb1, fb2⟩, ⟨pc, uc, wc, rfl, hc, fc1, fc2⟩, ⟨za1, za2⟩, ⟨zb1, zb2⟩, ⟨zc1, zc2⟩, q⟩ := h
  have y1 : SzF 331 60 (fDif b.1 a.1) := fDif_sz zb1 za1
  have y2 : SzF 331 60 (fDif c.2 a.2) := fDif_sz zc2 za2
  have y3 : SzF 331 60 (fDif b.2 a.2) := fDif_sz zb2 za2
  have y4 : SzF 331 60 (fDif c.1 a.1) := fDif_sz zc1 za1
  refine ⟨_, (pss_cons (ps_set (i := 3) sc_hand_of.nd rfl (Or.inl rfl) (pcall G_product_of (hr.mono (by decide)) (pa_cons (pcall G_difference (hr.mono (by decide)) (pa_cons (pe_ix ix_tup (pv 1) pe_int (fun _ _ => rfl)) (pa_cons (pe_ix ix_tup (pv 0) pe_int (fun _ _ => rfl)) pa_nil))) (pa_cons (pcall G_difference (hr.mono (by decide)) (pa_cons (pe_ix ix_tup (pv 2) pe_int (fun _ _ => rfl)) (pa_cons (pe_ix ix_tup (pv 0) pe_int (fun _ _ => rfl)) pa_nil))) pa_nil))))
      (pss_one (ps_ret (pe_ix ix_tup (pcall G_difference (hr.mono (by decide)) (pa_cons (pv 3) (pa_cons (pcall G_product_of (hr.mono (by decide)) (pa_cons (pcall G_difference (hr.mono (by decide)) (pa_cons (pe_ix ix_tup (pv 1) pe_int (fun _ _ => rfl)) (pa_cons (pe_ix ix_tup (pv 0) pe_int (fun _ _ => rfl)) pa_nil))) (pa_cons (pcall G_difference (hr.mono (by decide)) (pa_cons (pe_ix ix_tup (pv 2) pe_int (fun _ _ => rfl)) (pa_cons (pe_ix ix_tup (pv 0) pe_int (fun _ _ => rfl)) pa_nil))) pa_nil))) pa_nil))) pe_int (fun _ _ => rfl))))), ?_⟩
  rw [st_hand_of]
  try dsimp only [Cx.nox, Cx.wish, Cx.blk, cx_K]
  walk_at "go"
  refine use_difference fb1 fa1 zb1.mono za1.mono fun p1 H1 n1 e1 h1 => ?_
  walk_at "go"
  refine use_difference (fc2.ex e1) (fa2.ex e1) zc2.mono za2.mono fun p2 H2 n2 e2 h2 => ?_
  walk_at "go"
  refine use_product_of (h1.ex e2) h2 y1.mono y2.mono fun p3 H3 n3 e3 h3 => ?_
  have E3 := (e1.trans e2).trans e3
  clear e1 e2 e3
  walk_at "go"
  refine use_difference (fb2.ex E3) (fa2.ex E3) zb2.mono za2.mono fun p4 H4 n4 e4 h4 => ?_
  have E4 := E3.trans e4
  have h3 := h3.ex e4
  clear E3 e4
  walk_at "go"
  refine use_difference (fc1.ex E4) (fa1.ex E4) zc1.mono za1.mono fun p5 H5 n5 e5 h5 => ?_
  walk_at "go"
  refine use_product_of (h4.ex e5) h5 y3.mono y4.mono fun p6 H6 n6 e6 h6 => ?_
  have E6 := (E4.trans e5).trans e6
  have h3 := (h3.ex e5).ex e6
  clear E4 e5 e6
  walk_at "go"
  refine use_difference h3 h6 (fPro_sz y1 y2).mono (fPro_sz y3 y4).mono fun p7 H7 n7 e7 h7 => ?_
  obtain ⟨_, e, h7⟩ := h7
  cases e
  walk_at "go"
  exact q _ (E6.trans e7)

end
abbrev LEAST_CORNERS_val : Int := 3
abbrev MOST_CORNERS_val : Int := 20
def sp_need_ring (K : PySem.W.Frag) : Sp := fun vs H Q _ => ∃ (a : Addr) (rs : List (V × Cn)), vs = [.ref a] ∧ RgAt K H a rs ∧ RingI (rcs rs) ∧ ∀ H', Ex H H' → Q .non H'
theorem use_need_ring {K : PySem.W.Frag} {H : Hp} {Q : VK} {E : XK} {a : Addr} {rs : List (V × Cn)} (R : RgAt K H a rs) (I : RingI (rcs rs)) (q : ∀ H', Ex H H' → Q .non H') : sp_need_ring K [.ref a] H Q E := ⟨a, rs, rfl, R, I, q⟩
abbrev s_need_ring : Stmt := topS 15
abbrev nm_need_ring : List Str := ["ring", "k", "j"]
theorem sc_need_ring : FnScope nm_need_ring ["ring"] (defScope s_need_ring) := ⟨rfl, rfl, rfl, by decide +kernel, rfl, by decide +kernel, by decide +kernel⟩
theorem st_need_ring {v0 : V} : start nm_need_ring [v0] = [some v0, none, none] := rfl
section
variable {P : Program} {w : World} {K : PySem.W.Frag} {mg : Str → Option Value} {base : Heap}
theorem ok_need_ring (D : DefAt K mg "need_ring" s_need_ring ["ring"]) (B_len : mg "len" = none) (B_range : mg "range" = none) (T_LEAST_CORNERS : ∃ t, mg "LEAST_CORNERS" = some (.int LEAST_CORNERS_val t)) (T_MOST_CORNERS : ∃ t, mg "MOST_CORNERS" = some (.int MOST_CORNERS_val t)) (G_hand_of : Has P w K mg base CX0 5 "hand_of" ["one", "other", "third"] (sp_hand_of K)) : Has P w K mg base CX0 6 "need_ring" ["ring"] (sp_need_ring K) := by
  refine D.ok sc_need_ring (by rintro _ _ _ _ ⟨_, _, rfl, _⟩; rfl) (fun f cdv A outer s H vs Q E hr h => ?_)
  obtain ⟨_, T_LEAST_CORNERS⟩ := T_LEAST_CORNERS
  obtain ⟨_, T_MOST_CORNERS⟩ := T_MOST_CORNERS
  obtain ⟨a, rs, rfl, R, I, q⟩ := h
  have nl : (rs.map (·.1)).length = rs.length := List.length_map ..
  have nc : (rcs rs).length = rs.length := List.length_map ..
  obtain ⟨n3, n20, I⟩ := I
  rw [nc] at n3 n20 I
  have hl := R.l
  refine ⟨_, (pss_cons (ps_if (pt_not (pt_chain op_le op_le (pe_glob (v := .int (3)) rfl T_LEAST_CORNERS ⟨_, rfl⟩) (pe_callB cl_len (by rfl) B_len (by decide +kernel) (pa_cons (pv 0) pa_nil)) (pe_glob (v := .int (20)) rfl T_MOST_CORNERS ⟨_, rfl⟩))) (pss_one ps_never) pss_nil)
      (pss_one (ps_for PassesOwn.never rfl (pi_range1 rfl B_range (pa_cons (pe_callB cl_len (by rfl) B_len (by decide +kernel) (pa_cons (pv 0) pa_nil)) pa_nil)) (pg_name (i := 1) sc_need_ring.nd rfl (Or.inl rfl))
        (pss_one (ps_for PassesOwn.never rfl (pi_range1 rfl B_range (pa_cons (pe_callB cl_len (by rfl) B_len (by decide +kernel) (pa_cons (pv 0) pa_nil)) pa_nil)) (pg_name (i := 2) sc_need_ring.nd rfl (Or.inl rfl))
          (pss_one (ps_if (PW.pt (pw_and (pt_cmpR op_ne (pv 2) (pv 1) (nomark _)) (pw_and (pt_cmpR op_ne (pv 2) (pe_op op_mod (pe_op op_add (pv 1) pe_int) (pe_callB cl_len (by rfl) B_len (by decide +kernel) (pa_cons (pv 0) pa_nil))) (nomark _)) (pw_and1 (pt_cmpR op_le (pcall G_hand_of (hr.mono (by decide)) (pa_cons (pe_ix ix_list (pv 0) (pv 1) (fun _ _ => rfl)) (pa_cons (pe_ix ix_list (pv 0) (pe_op op_mod (pe_op op_add (pv 1) pe_int) (pe_callB cl_len (by rfl) B_len (by decide +kernel) (pa_cons (pv 0) pa_nil))) (fun _ _ => rfl)) (pa_cons (pe_ix ix_list (pv 0) (pv 2) (fun _ _ => rfl)) pa_nil)))) pe_int (nomark _)))))) (pss_one ps_never) pss_nil))))))), ?_⟩
  rw [st_need_ring]
  try dsimp only [Cx.nox, Cx.wish, Cx.blk, cx_K]
  walk_at "go"
  refine r_rng1 (by omega) (by omega) ?_
  refine for_rng (fun i σ H' => ∃ (o1 o2 : Option V), σ = [some (.ref a), o1, o2] ∧ Ex H H') ⟨none, none, rfl, Ex.refl⟩ ?_ ?_
  · rintro i σ H1 hi ⟨o1, o2, rfl, e1⟩
    have hl := sql_up e1 hl
    rw [nl] at hi
    walk_at "go"
    refine r_rng1 (by omega) (by omega) ?_
    refine for_rng (fun j σ H' => ∃ (o2 : Option V), σ = [some (.ref a), some (.int (0 + (i : Int))), o2] ∧ Ex H H') ⟨o2, rfl, e1⟩ ?_ ?_
    · clear e1 hl
      rintro j σ H1 hj ⟨o2, rfl, e1⟩
      have R1 := R.ex e1
      have hl := R1.l
      rw [nl] at hj
      walk_at "go"
      obtain ⟨vk, ak, ck, zk⟩ := R1.at (i := 0 + (i : Int)) (by omega) (by omega)
      obtain ⟨vj, aj, cj, zj⟩ := R1.at (i := 0 + (j : Int)) (by omega) (by omega)
      obtain ⟨vn, an, cn, zn⟩ := R1.at (i := (((i + 1) % rs.length : Nat) : Int)) (by omega) (by have := Nat.mod_lt (i + 1) (show 0 < rs.length by omega); omega)
      have en := mod1 rs.length i
      rw [show (0 + (i : Int)).toNat = i by omega] at ck zk
      rw [show (0 + (j : Int)).toNat = j by omega] at cj zj
      rw [Int.toNat_natCast, ← nc, cI_mod] at cn zn
      by_cases hk : j = i
      · walk_at "go"
        exact ⟨_, rfl, e1⟩
      · walk_at "go"
        rw [nl, show (0 + (i : Int) + 1) = (i : Int) + 1 by omega, en]
        by_cases hn : j = (i + 1) % rs.length
        · walk_at "go"
          exact ⟨_, rfl, e1⟩
        · walk_at "go"
          refine r_ixL hl ak ?_
          walk_at "go"
          rw [nl, show (0 + (i : Int) + 1) = (i : Int) + 1 by omega, en]
          refine r_ixL hl an ?_
          walk_at "go"
          refine r_ixL hl aj ?_
          walk_at "go"
          refine use_hand_of ck cn cj zk zn zj fun H2 e2 => ?_
          have := I i (by omega) j (by omega) hk hn
          walk_at "go"
          exact ⟨_, rfl, e1.trans e2⟩
    · rintro σ H1 ⟨o2, rfl, e1⟩
      walk_at "go"
      exact ⟨_, _, rfl, e1⟩
  · rintro σ H1 ⟨o1, o2, rfl, e1⟩
    walk_at "go"
    exact q _ e1

end
def sp_line_of (_ : PySem.W.Frag) : Sp := fun vs H Q _ => ∃ (x y : V) (a b : Cn), vs = [x, y] ∧ CnAt H x a ∧ CnAt H y b ∧ SzC a ∧ SzC b ∧ 0 < (fDif b.1 a.1).1 ∧
  ∀ t H', H t = none → Ex H H' → H' t = some (.tup [.int (lineI a b).1, .int (lineI a b).2.1, .int (lineI a b).2.2]) → Q (.ref t) H'
theorem use_line_of {K : PySem.W.Frag} {H : Hp} {Q : VK} {E : XK} {x y : V} {a b : Cn} (hx : CnAt H x a) (hy : CnAt H y b) (za : SzC a) (zb : SzC b) (h0 : 0 < (fDif b.1 a.1).1)
    (q : ∀ t H', H t = none → Ex H H' → H' t = some (.tup [.int (lineI a b).1, .int (lineI a b).2.1, .int (lineI a b).2.2]) → Q (.ref t) H') : sp_line_of K [x, y] H Q E := ⟨x, y, a, b, rfl, hx, hy, za, zb, h0, q⟩
abbrev s_line_of : Stmt := topS 16
abbrev nm_line_of : List Str := ["one", "other", "wide", "up", "slope", "begin"]
theorem sc_line_of : FnScope nm_line_of ["one", "other"] (defScope s_line_of) := ⟨rfl, rfl, rfl, by decide +kernel, rfl, by decide +kernel, by decide +kernel⟩
theorem st_line_of {v0 v1 : V} : start nm_line_of [v0, v1] = [some v0, some v1, none, none, none, none] := rfl
section
variable {P : Program} {w : World} {K : PySem.W.Frag} {mg : Str → Option Value} {base : Heap}
theorem ok_line_of (D : DefAt K mg "line_of" s_line_of ["one", "other"]) (G_difference : Has P w K mg base CX0 4 "difference" ["one", "other"] (sp_difference K)) (G_fraction : Has P w K mg base CX0 3 "fraction" ["top", "bottom"] (sp_fraction K)) (G_product_of : Has P w K mg base CX0 4 "product_of" ["one", "other"] (sp_product_of K)) : Has P w K mg base CX0 5 "line_of" ["one", "other"] (sp_line_of K) := by
  refine D.ok sc_line_of (by rintro _ _ _ _ ⟨_, _, _, _, rfl, _⟩; rfl) (fun f cdv A outer s H vs Q E hr h => ?_)
  obtain ⟨_, _, a, b, rfl, ⟨pa, ua, wa, rfl, ha, fa1, fa2⟩, ⟨pb, ub, wb, rfl, hb, fb1, fb2⟩, za, zb, h0, q⟩ := h
  obtain ⟨za1, za2⟩ := id za
  obtain ⟨zb1, zb2⟩ := id zb
  have y1 : SzF 331 60 (fDif b.1 a.1) := fDif_sz zb1 za1
  have y2 : SzF 331 60 (fDif b.2 a.2) := fDif_sz zb2 za2
  have ys := slopeI_sz za zb h0
  have yp : SzF 691 421 (fPro (slopeI a b) a.1) := fPro_sz ys za1
  have yb := beginI_sz za zb h0
  refine ⟨_, (pss_cons (ps_set (i := 2) sc_line_of.nd rfl (Or.inl rfl) (pcall G_difference (hr.mono (by decide)) (pa_cons (pe_ix ix_tup (pv 1) pe_int (fun _ _ => rfl)) (pa_cons (pe_ix ix_tup (pv 0) pe_int (fun _ _ => rfl)) pa_nil))))
      (pss_cons (ps_set (i := 3) sc_line_of.nd rfl (Or.inl rfl) (pcall G_difference (hr.mono (by decide)) (pa_cons (pe_ix ix_tup (pv 1) pe_int (fun _ _ => rfl)) (pa_cons (pe_ix ix_tup (pv 0) pe_int (fun _ _ => rfl)) pa_nil))))
      (pss_cons (ps_set (i := 4) sc_line_of.nd rfl (Or.inl rfl) (pcall G_fraction (hr.mono (by decide)) (pa_cons (pe_op op_mulX (pe_ix ix_tup (pv 3) pe_int (fun _ _ => rfl)) (pe_ix ix_tup (pv 2) pe_int (fun _ _ => rfl))) (pa_cons (pe_op op_mulX (pe_ix ix_tup (pv 3) pe_int (fun _ _ => rfl)) (pe_ix ix_tup (pv 2) pe_int (fun _ _ => rfl))) pa_nil))))
      (pss_cons (ps_set (i := 5) sc_line_of.nd rfl (Or.inl rfl) (pcall G_difference (hr.mono (by decide)) (pa_cons (pe_ix ix_tup (pv 0) pe_int (fun _ _ => rfl)) (pa_cons (pcall G_product_of (hr.mono (by decide)) (pa_cons (pv 4) (pa_cons (pe_ix ix_tup (pv 0) pe_int (fun _ _ => rfl)) pa_nil))) pa_nil))))
      (pss_one (ps_ret (pe_tup (pa_cons (pe_op op_mulX (pe_ix ix_tup (pv 4) pe_int (fun _ _ => rfl)) (pe_ix ix_tup (pv 5) pe_int (fun _ _ => rfl))) (pa_cons (pe_op op_mulX (pe_ix ix_tup (pv 5) pe_int (fun _ _ => rfl)) (pe_ix ix_tup (pv 4) pe_int (fun _ _ => rfl))) (pa_cons (pe_op op_mulX (pe_ix ix_tup (pv 4) pe_int (fun _ _ => rfl)) (pe_ix ix_tup (pv 5) pe_int (fun _ _ => rfl))) pa_nil)))))))))), ?_⟩
  rw [st_line_of]
  try dsimp only [Cx.nox, Cx.wish, Cx.blk, cx_K]
  walk_at "go"
  refine use_difference fb1 fa1 zb1.mono za1.mono fun p1 H1 n1 e1 h1 => ?_
  walk_at "go"
  refine use_difference (fb2.ex e1) (fa2.ex e1) zb2.mono za2.mono fun p2 H2 n2 e2 h2 => ?_
  obtain ⟨_, w1, h1⟩ := h1
  cases w1
  obtain ⟨_, w2, h2⟩ := h2
  cases w2
  have h1 := e2.at h1
  have ⟨z10, z11, z12⟩ := y1
  have ⟨z20, z21, z22⟩ := y2
  walk_at "go"
  refine use_fraction (Int.mul_pos y2.1 h0) ((y2.2.2.mul y1.2.1).mono (by decide)) fun p3 H3 n3 e3 h3 => ?_
  have E3 := (e1.trans e2).trans e3
  clear e1 e2 e3
  walk_at "go"
  refine use_product_of h3 (fa1.ex E3) ys.mono za1.mono fun p4 H4 n4 e4 h4 => ?_
  have E4 := E3.trans e4
  have h3 := h3.ex e4
  clear E3 e4
  walk_at "go"
  refine use_difference (fa2.ex E4) h4 za2.mono yp.mono fun p5 H5 n5 e5 h5 => ?_
  obtain ⟨_, w3, h3⟩ := h3.ex e5
  cases w3
  obtain ⟨_, w5, h5⟩ := h5
  cases w5
  have ⟨zs0, zs1, zs2⟩ := ys
  have ⟨zb0, zb1', zb2'⟩ := yb
  have h3 : H5 p3 = some (.tup [.int (slopeI a b).1, .int (slopeI a b).2]) := h3
  have h5 : H5 p5 = some (.tup [.int (fDif a.2 (fPro (slopeI a b) a.1)).1, .int (fDif a.2 (fPro (slopeI a b) a.1)).2]) := h5
  clear n1 n2 n3 n4 n5 h1 h2
  walk_at "go"
  rename_i t H6 n6 e6 h6
  exact q _ _ (free_back (E4.trans e5) n6) ((E4.trans e5).trans e6) h6

end
def sp_side_of (K : PySem.W.Frag) : Sp := fun vs H Q _ => ∃ (a : Addr) (rs : List (V × Cn)) (side : Int), vs = [.ref a, .int side] ∧ RgAt K H a rs ∧ 0 < rs.length ∧ rs.length ≤ 20 ∧
  ∀ l H' es, H l = none → Ex H H' → EgsAt H' l es → (es.map (·.2)).Perm (sideL (rcs rs) side rs.length) → (es.map (·.2)).Pairwise (fun e e' => e.f ≤ e'.f) → Q (.ref l) H'
theorem use_side_of {K : PySem.W.Frag} {H : Hp} {Q : VK} {E : XK} {a : Addr} {rs : List (V × Cn)} {side : Int} (R : RgAt K H a rs) (n0 : 0 < rs.length) (n20 : rs.length ≤ 20)
    (q : ∀ l H' es, H l = none → Ex H H' → EgsAt H' l es → (es.map (·.2)).Perm (sideL (rcs rs) side rs.length) → (es.map (·.2)).Pairwise (fun e e' => e.f ≤ e'.f) → Q (.ref l) H') : sp_side_of K [.ref a, .int side] H Q E := ⟨a, rs, side, rfl, R, n0, n20, q⟩
abbrev s_side_of : Stmt := topS 17
abbrev nm_side_of : List Str := ["ring", "side", "found", "k", "one", "other"]
theorem sc_side_of : FnScope nm_side_of ["ring", "side"] (defScope s_side_of) := ⟨rfl, rfl, rfl, by decide +kernel, rfl, by decide +kernel, by decide +kernel⟩
theorem st_side_of {v0 v1 : V} : start nm_side_of [v0, v1] = [some v0, some v1, none, none, none, none] := rfl
section
variable {P : Program} {w : World} {K : PySem.W.Frag} {mg : Str → Option Value} {base : Heap}
theorem ok_side_of (D : DefAt K mg "side_of" s_side_of ["ring", "side"]) (B_range : mg "range" = none) (B_len : mg "len" = none) (B_sorted : mg "sorted" = none) (G_difference : Has P w K mg base CX0 4 "difference" ["one", "other"] (sp_difference K)) (G_line_of : Has P w K mg base CX0 5 "line_of" ["one", "other"] (sp_line_of K)) : Has P w K mg base CX0 6 "side_of" ["ring", "side"] (sp_side_of K) := by
  refine D.ok sc_side_of (by rintro _ _ _ _ ⟨_, _, _, rfl, _⟩; rfl) (fun f cdv A outer s H vs Q E hr h => ?_)
  obtain ⟨a, rs, side, rfl, R, n0, n20, q⟩ := h
  have nl : (rs.map (·.1)).length = rs.length := List.length_map ..
  have nc : (rcs rs).length = rs.length := List.length_map ..
  have hl := R.l
  refine ⟨_, (pss_cons (ps_set (i := 2) sc_side_of.nd rfl (Or.inl rfl) (pe_lst pa_nil))
      (pss_cons (ps_for PassesOwn.never rfl (pi_range1 rfl B_range (pa_cons (pe_callB cl_len (by rfl) B_len (by decide +kernel) (pa_cons (pv 0) pa_nil)) pa_nil)) (pg_name (i := 3) sc_side_of.nd rfl (Or.inl rfl))
        (pss_cons (ps_set (i := 4) sc_side_of.nd rfl (Or.inl rfl) (pe_ix ix_list (pv 0) (pv 3) (fun _ _ => rfl)))
        (pss_cons (ps_set (i := 5) sc_side_of.nd rfl (Or.inl rfl) (pe_ix ix_list (pv 0) (pe_op op_mod (pe_op op_add (pv 3) pe_int) (pe_callB cl_len (by rfl) B_len (by decide +kernel) (pa_cons (pv 0) pa_nil))) (fun _ _ => rfl)))
        (pcut (ps_if (pt_cmpR op_eq (pv 1) pe_int (nomark _)) (pss_one (ps_par (i := 4) (j := 5) (by rfl) sc_side_of.nd rfl rfl (by decide) rfl rfl (pa_cons (pv 5) (pa_cons (pv 4) pa_nil)) (by rfl))) pss_nil)
        (pss_one (ps_if (pt_cmpR op_gt (pe_ix ix_tup (pcall G_difference (hr.mono (by decide)) (pa_cons (pe_ix ix_tup (pv 5) pe_int (fun _ _ => rfl)) (pa_cons (pe_ix ix_tup (pv 4) pe_int (fun _ _ => rfl)) pa_nil))) pe_int (fun _ _ => rfl)) pe_int (nomark _)) (pss_one (ps_expr (pe_bm PySem.F.plainAttrs_list PySem.F.slot_list_append PySem.F.type_list_append mt_append (pv 2) (pa_cons (pe_tup (pa_cons (pe_op op_sub pe_int (pe_op op_fdivW (pe_op op_sub pe_int (pe_ix ix_tup (pe_ix ix_tup (pv 4) pe_int (fun _ _ => rfl)) pe_int (fun _ _ => rfl))) (pe_ix ix_tup (pe_ix ix_tup (pv 4) pe_int (fun _ _ => rfl)) pe_int (fun _ _ => rfl)))) (pa_cons (pe_op op_fdivW (pe_ix ix_tup (pe_ix ix_tup (pv 5) pe_int (fun _ _ => rfl)) pe_int (fun _ _ => rfl)) (pe_ix ix_tup (pe_ix ix_tup (pv 5) pe_int (fun _ _ => rfl)) pe_int (fun _ _ => rfl))) (pa_cons (pcall G_line_of (hr.mono (by decide)) (pa_cons (pv 4) (pa_cons (pv 5) pa_nil))) pa_nil)))) pa_nil)))) pss_nil))))))
      (pss_one (ps_ret (pe_callB (cr_sortedD hr.units) (by rfl) B_sorted (by decide +kernel) (pa_cons (pv 2) pa_nil)))))), ?_⟩
  rw [st_side_of]
  try dsimp only [Cx.nox, Cx.wish, Cx.blk, cx_K]
  walk_at "go"
  rename_i l H0 nl0 e0 h0
  have hl := sql_up e0 hl
  walk_at "go"
  refine r_rng1 (by omega) (by omega) ?_
  refine for_rng (fun i σ H' => ∃ (es : List (V × Eg)) (o1 o2 o3 : Option V), σ = [some (.ref a), some (.int side), some (.ref l), o1, o2, o3] ∧ Ex H H' ∧ EgsAt H' l es ∧ es.map (·.2) = sideL (rcs rs) side i ∧ es.length ≤ i) ⟨[], none, none, none, rfl, e0, ⟨h0, fun e he => absurd he List.not_mem_nil⟩, rfl, Nat.le_refl _⟩ ?_ ?_
  · clear hl
    rintro i σ H1 hi ⟨es, o1, o2, o3, rfl, e1, L, le, ln⟩
    rw [nl] at hi
    have R1 := R.ex e1
    have hl := R1.l
    obtain ⟨vk, ak, ck, zk⟩ := R1.at (i := 0 + (i : Int)) (by omega) (by omega)
    obtain ⟨vn, an, cn, zn⟩ := R1.at (i := (((i + 1) % rs.length : Nat) : Int)) (by omega) (by have := Nat.mod_lt (i + 1) n0; omega)
    have en := mod1 rs.length i
    rw [show (0 + (i : Int)).toNat = i by omega] at ck zk
    rw [Int.toNat_natCast, ← nc, cI_mod] at cn zn
    walk_at "go"
    refine r_ixL hl ak ?_
    walk_at "go"
    rw [nl, show (0 + (i : Int) + 1) = (i : Int) + 1 by omega, en]
    refine r_ixL hl an ?_
    have key : ∃ (vo vt : V) (o t : Cn), CnAt H1 vo o ∧ CnAt H1 vt t ∧ SzC o ∧ SzC t ∧ egI (rcs rs) side i = egO o t ∧ (vo, vt) = if side = 1 then (vn, vk) else (vk, vn) := by
      by_cases s : side = 1
      · rw [if_pos s]
        exact ⟨vn, vk, _, _, cn, ck, zn, zk, by unfold egI; rw [if_pos s], rfl⟩
      · rw [if_neg s]
        exact ⟨vk, vn, _, _, ck, cn, zk, zn, by unfold egI; rw [if_neg s], rfl⟩
    clear ck cn zk zn ak an en
    obtain ⟨vo, vt, o, t, co, ct, zo, zt, eg, ev⟩ := key
    walk_at "go"
    refine r_cut (fun σ' H' => σ' = [some (.ref a), some (.int side), some (.ref l), some (.int (0 + (i : Int))), some vo, some vt] ∧ H' = H1) ?_ ?_
    · by_cases s : side = 1
      · rw [if_pos s] at ev
        obtain ⟨rfl, rfl⟩ := Prod.mk.inj ev
        walk_at "go"
        exact ⟨rfl, rfl⟩
      · rw [if_neg s] at ev
        obtain ⟨rfl, rfl⟩ := Prod.mk.inj ev
        walk_at "go"
        exact ⟨rfl, rfl⟩
    rintro σ' H' ⟨rfl, rfl⟩
    have co' := co
    have ct' := ct
    obtain ⟨po, uo, wo, rfl, ho, fo1, fo2⟩ := co'
    obtain ⟨pt, ut, wt, rfl, ht, ft1, ft2⟩ := ct'
    walk_at "go"
    refine use_difference ft1 fo1 zt.1.mono zo.1.mono fun p1 H2 n2 e2 h2 => ?_
    obtain ⟨_, w2, h2⟩ := h2
    cases w2
    walk_at "go"
    have L2 := L.ex e2
    obtain ⟨_, wo1, ho1⟩ := fo1.ex e2
    obtain ⟨_, wt1, ht1⟩ := ft1.ex e2
    subst wo1
    subst wt1
    have bo := zo.1.1
    have bt := zt.1.1
    have zo1 := zo.1.2.1
    have zo2 := zo.1.2.2
    have zt1 := zt.1.2.1
    have zt2 := zt.1.2.2
    have ho := e2.at ho
    have ht := e2.at ht
    refine if_2 (fun hx => ?_) (fun hx => ?_)
    · have hx := of_decide_eq_true hx
      have eg : egI (rcs rs) side i = some ⟨0 - (0 - o.1.1) / o.1.2, t.1.1 / t.1.2, (lineI o t).1, (lineI o t).2.1, (lineI o t).2.2⟩ := by
        rw [eg]
        unfold egO
        rw [if_pos hx]
      have hll := L2.l
      walk_at "go"
      refine use_line_of (co.ex e2) (ct.ex e2) zo zt hx fun p3 H3 n3 e3 h3 => ?_
      walk_at "go"
      rename_i p4 H4 n4 e4 h4
      have L4 := (L2.ex e3).ex e4
      have h3 := e4.at h3
      refine r_app L4.l (by rw [List.length_map]; omega) fun H5 k5 h5 => ?_
      walk_at "go"
      refine ⟨es ++ [(.ref p4, ⟨0 - (0 - o.1.1) / o.1.2, t.1.1 / t.1.2, (lineI o t).1, (lineI o t).2.1, (lineI o t).2.2⟩)], _, _, _, rfl, (((e1.trans e2).trans e3).trans e4).kpd nl0 k5, ⟨?_, ?_⟩, ?_, ?_⟩
      · rw [h5, List.map_append]
        rfl
      · intro e he
        rcases List.mem_append.mp he with he | he
        · exact (L4.e e he).kpL k5 L4.l
        · rw [List.mem_singleton.mp he]
          exact ⟨p4, p3, rfl, k5.tupL L4.l h4, k5.tupL L4.l h3⟩
      · rw [List.map_append, le, sideL_succ, eg]
        rfl
      · rw [List.length_append, List.length_singleton]
        omega
    · have hx := of_decide_eq_false hx
      have eg : egI (rcs rs) side i = none := by
        rw [eg]
        unfold egO
        rw [if_neg hx]
      walk_at "go"
      refine ⟨es, _, _, _, rfl, e1.trans e2, L2, ?_, by omega⟩
      rw [le, sideL_succ, eg]
      exact (List.append_nil _).symm
  · rintro σ H1 ⟨es, o1, o2, o3, rfl, e1, L, le, ln⟩
    walk_at "go"
    refine r_sortE L fun p H2 es' np e2 L2 pm up => ?_
    walk_at "go"
    refine q p H2 es' (free_back e1 np) (e1.trans e2) L2 ?_ up
    rw [nl, Int.toNat_natCast] at le
    rw [← le]
    exact pm.map _

end
def sp_over_down (_ : PySem.W.Frag) : Sp := fun vs H Q _ => ∃ (p : Addr) (a b m : Int), vs = [.ref p] ∧ H p = some (.tup [.int a, .int b, .int m]) ∧
  ∀ t H', H t = none → Ex H H' → H' t = some (.tup [.int (0 - a), .int (0 - b), .int m]) → Q (.ref t) H'
theorem use_over_down {K : PySem.W.Frag} {H : Hp} {Q : VK} {E : XK} {p : Addr} {a b m : Int} (h : H p = some (.tup [.int a, .int b, .int m]))
    (q : ∀ t H', H t = none → Ex H H' → H' t = some (.tup [.int (0 - a), .int (0 - b), .int m]) → Q (.ref t) H') : sp_over_down K [.ref p] H Q E := ⟨p, a, b, m, rfl, h, q⟩
abbrev s_over_down : Stmt := topS 18
abbrev nm_over_down : List Str := ["line"]
theorem sc_over_down : FnScope nm_over_down ["line"] (defScope s_over_down) := ⟨rfl, rfl, rfl, by decide +kernel, rfl, by decide +kernel, by decide +kernel⟩
theorem st_over_down {v0 : V} : start nm_over_down [v0] = [some v0] := rfl
section
variable {P : Program} {w : World} {K : PySem.W.Frag} {mg : Str → Option Value} {base : Heap}
theorem ok_over_down (D : DefAt K mg "over_down" s_over_down ["line"]) : Has P w K mg base CX0 2 "over_down" ["line"] (sp_over_down K) := by
  refine D.ok sc_over_down (by rintro _ _ _ _ ⟨_, _, _, _, rfl, _⟩; rfl) (fun f cdv A outer s H vs Q E hr h => ?_)
  obtain ⟨p, a, b, m, rfl, hp, q⟩ := h
  refine ⟨_, (pss_one (ps_ret (pe_tup (pa_cons (pe_op op_sub pe_int (pe_ix ix_tup (pv 0) pe_int (fun _ _ => rfl))) (pa_cons (pe_op op_sub pe_int (pe_ix ix_tup (pv 0) pe_int (fun _ _ => rfl))) (pa_cons (pe_ix ix_tup (pv 0) pe_int (fun _ _ => rfl)) pa_nil)))))), ?_⟩
  rw [st_over_down]
  try dsimp only [Cx.nox, Cx.wish, Cx.blk, cx_K]
  walk_at "go"
  rename_i t H1 n1 e1 h1
  exact q _ _ n1 e1 h1

end
def sp_summed (_ : PySem.W.Frag) : Sp := fun vs H Q _ => ∃ (n a b m : Int), vs = [.int n, .int a, .int b, .int m] ∧ 0 < m ∧ Sz 4000 n ∧ Sz 4000 a ∧ Sz 4000 b ∧ Sz 4000 m ∧ Q (.int (fs n.toNat a b m)) H
theorem use_summed {K : PySem.W.Frag} {H : Hp} {Q : VK} {E : XK} {n a b m : Int} (hm : 0 < m) (zn : Sz 4000 n) (za : Sz 4000 a) (zb : Sz 4000 b) (zm : Sz 4000 m) (q : Q (.int (fs n.toNat a b m)) H) : sp_summed K [.int n, .int a, .int b, .int m] H Q E := ⟨n, a, b, m, rfl, hm, zn, za, zb, zm, q⟩
theorem summed_n {n r s m : Int} (hn : 0 ≤ n) (r0 : 0 ≤ r) (r1 : r < m) (s1 : s < m) : (r * n + s) / m ≤ n := by
  have h : (r * n + s) / m < n + 1 := by
    refine (Int.ediv_lt_iff_lt_mul (by omega)).mpr ?_
    have h1 : r * n ≤ (m - 1) * n := Int.mul_le_mul_of_nonneg_right (by omega) hn
    rw [Int.sub_mul, Int.one_mul] at h1
    rw [Int.add_mul, Int.one_mul, Int.mul_comm n m]
    omega
  omega
abbrev s_summed : Stmt := topS 6
abbrev nm_summed : List Str := ["n", "a", "b", "m", "total", "top"]
theorem sc_summed : FnScope nm_summed ["n", "a", "b", "m"] (defScope s_summed) := ⟨rfl, rfl, rfl, by decide +kernel, rfl, by decide +kernel, by decide +kernel⟩
theorem st_summed {v0 v1 v2 v3 : V} : start nm_summed [v0, v1, v2, v3] = [some v0, some v1, some v2, some v3, none, none] := rfl
section
variable {P : Program} {w : World} {K : PySem.W.Frag} {mg : Str → Option Value} {base : Heap}
theorem ok_summed (D : DefAt K mg "summed" s_summed ["n", "a", "b", "m"]) : Has P w K mg base CX0 2 "summed" ["n", "a", "b", "m"] (sp_summed K) := by
  refine D.ok sc_summed (by rintro _ _ _ _ ⟨_, _, _, _, rfl, _⟩; rfl) (fun f cdv A outer s H vs Q E hr h => ?_)
  obtain ⟨n, a, b, m, rfl, hm, zn, za, zb, zm, q⟩ := h
  refine ⟨_, (pss_cons (ps_set (i := 4) sc_summed.nd rfl (Or.inl rfl) pe_int)
      (pss_cons (ps_while PassesOwn.never (pt_cmpR op_gt (pv 0) pe_int (nomark _)) (pss_cons (ps_aug (i := 4) sc_summed.nd rfl (Or.inl rfl) (pe_op op_add (pe_op op_mulX (pe_op op_fdivW (pv 1) (pv 3)) (pe_op op_fdivW (pe_op op_mulX (pv 0) (pe_op op_sub (pv 0) pe_int)) pe_int)) (pe_op op_mulX (pe_op op_fdivW (pv 2) (pv 3)) (pv 0))) ip_add)
        (pss_cons (ps_set (i := 1) sc_summed.nd rfl (Or.inl rfl) (pe_op op_mod (pv 1) (pv 3)))
        (pss_cons (ps_set (i := 5) sc_summed.nd rfl (Or.inl rfl) (pe_op op_add (pe_op op_mulX (pv 1) (pv 0)) (pe_op op_mod (pv 2) (pv 3))))
        (pss_cons (ps_par (i := 0) (j := 2) (by rfl) sc_summed.nd rfl rfl (by decide) rfl rfl (pa_cons (pe_op op_fdivW (pv 5) (pv 3)) (pa_cons (pe_op op_mod (pv 5) (pv 3)) pa_nil)) (by rfl))
        (pss_one (ps_par (i := 1) (j := 3) (by rfl) sc_summed.nd rfl rfl (by decide) rfl rfl (pa_cons (pv 3) (pa_cons (pv 1) pa_nil)) (by rfl))))))))
      (pss_one (ps_ret (pv 4))))), ?_⟩
  rw [st_summed]
  try dsimp only [Cx.nox, Cx.wish, Cx.blk, cx_K]
  walk_at "go"
  refine while_m (fun μ σ H' => H' = H ∧ ∃ (n' a' b' m' t : Int) (o : Option V), σ = [some (.int n'), some (.int a'), some (.int b'), some (.int m'), some (.int t), o] ∧ μ = m'.toNat ∧ 0 ≤ m' ∧ (0 < n' → 0 < m') ∧ Sz 4000 n' ∧ Sz 4000 a' ∧ Sz 4000 b' ∧ Sz 4000 m' ∧ t + fs n'.toNat a' b' m' = fs n.toNat a b m)
    m.toNat ⟨rfl, n, a, b, m, 0, none, rfl, rfl, by omega, fun _ => hm, zn, za, zb, zm, by omega⟩ ?_
  rintro μ σ H1 ⟨eH, n', a', b', m', t, o, rfl, rfl, m0, hnm, zn', za', zb', zm', e⟩
  walk_at "go"
  refine if_2 (fun hx => ?_) (fun hx => ?_)
  · have hx := of_decide_eq_true hx
    have mp := hnm hx
    refine r_body (fun σ H' => ∃ (n1 a1 b1 m1 t1 : Int) (o : Option V), σ = [some (.int n1), some (.int a1), some (.int b1), some (.int m1), some (.int t1), o] ∧ H' = H ∧ m1.toNat < m'.toNat ∧ 0 ≤ m1 ∧ (0 < n1 → 0 < m1) ∧ Sz 4000 n1 ∧ Sz 4000 a1 ∧ Sz 4000 b1 ∧ Sz 4000 m1 ∧ t1 + fs n1.toNat a1 b1 m1 = fs n.toNat a b m) ?_ ?_
    · rintro σ H2 ⟨n1, a1, b1, m1, t1, o, rfl, e2, lt, r⟩
      exact ⟨_, lt, e2, n1, a1, b1, m1, t1, o, rfl, rfl, r⟩
    walk_at "go"
    have r0 := Int.emod_nonneg a' (show m' ≠ 0 by omega)
    have r1 := Int.emod_lt_of_pos a' mp
    have s0 := Int.emod_nonneg b' (show m' ≠ 0 by omega)
    have s1 := Int.emod_lt_of_pos b' mp
    have hN : ((n'.toNat : Nat) : Int) = n' := by omega
    have rn : 0 ≤ a' % m' * n' := Int.mul_nonneg r0 (by omega)
    have y0 : 0 ≤ (a' % m' * n' + b' % m') / m' := Int.ediv_nonneg (by omega) (by omega)
    have y1 := summed_n (n := n') (by omega) r0 r1 s1
    refine ⟨_, _, _, _, _, _, rfl, eH, by omega, r0, fun yp => ?_, zn'.le (by omega) (by omega), zm', Sz.mod zm' mp, Sz.mod zm' mp, ?_⟩
    · by_cases z : a' % m' = 0
      · rw [z, Int.zero_mul, Int.zero_add, Int.ediv_eq_zero_of_lt s0 s1] at yp
        omega
      · omega
    · rw [← e, fs_loop n'.toNat a' b' mp, hN]
      omega
  · have hx := of_decide_eq_false hx
    walk_at "go"
    have e0 : n'.toNat = 0 := by omega
    rw [e0, fs_zero] at e
    rw [show t = fs n.toNat a b m by omega, eH]
    exact q

end
def sp_summed_from (_ : PySem.W.Frag) : Sp := fun vs H Q _ => ∃ (p : Addr) (a b m k n : Int), vs = [.ref p, .int k, .int n] ∧ H p = some (.tup [.int a, .int b, .int m]) ∧ 0 < m ∧ Sz 1300 a ∧ Sz 1300 b ∧ Sz 4000 m ∧ Sz 1300 k ∧ Sz 4000 n ∧ Q (.int (fs n.toNat a (a * k + b) m)) H
theorem use_summed_from {K : PySem.W.Frag} {H : Hp} {Q : VK} {E : XK} {p : Addr} {a b m k n : Int} (h : H p = some (.tup [.int a, .int b, .int m])) (hm : 0 < m) (za : Sz 1300 a) (zb : Sz 1300 b) (zm : Sz 4000 m) (zk : Sz 1300 k) (zn : Sz 4000 n) (q : Q (.int (fs n.toNat a (a * k + b) m)) H) : sp_summed_from K [.ref p, .int k, .int n] H Q E :=
  ⟨p, a, b, m, k, n, rfl, h, hm, za, zb, zm, zk, zn, q⟩
abbrev s_summed_from : Stmt := topS 7
abbrev nm_summed_from : List Str := ["stair", "k", "n", "a", "b", "m"]
theorem sc_summed_from : FnScope nm_summed_from ["stair", "k", "n"] (defScope s_summed_from) := ⟨rfl, rfl, rfl, by decide +kernel, rfl, by decide +kernel, by decide +kernel⟩
theorem st_summed_from {v0 v1 v2 : V} : start nm_summed_from [v0, v1, v2] = [some v0, some v1, some v2, none, none, none] := rfl
section
variable {P : Program} {w : World} {K : PySem.W.Frag} {mg : Str → Option Value} {base : Heap}
theorem ok_summed_from (D : DefAt K mg "summed_from" s_summed_from ["stair", "k", "n"]) (G_summed : Has P w K mg base CX0 2 "summed" ["n", "a", "b", "m"] (sp_summed K)) : Has P w K mg base CX0 3 "summed_from" ["stair", "k", "n"] (sp_summed_from K) := by
  refine D.ok sc_summed_from (by rintro _ _ _ _ ⟨_, _, _, _, _, _, rfl, _⟩; rfl) (fun f cdv A outer s H vs Q E hr h => ?_)
  obtain ⟨p, a, b, m, k, n, rfl, hp, hm, za, zb, zm, zk, zn, q⟩ := h
  refine ⟨_, (pss_cons (ps_asg (pv 0) (pg_tup (by rfl) (pgs_cons (pg_name (i := 3) sc_summed_from.nd rfl (Or.inl rfl)) (pgs_cons (pg_name (i := 4) sc_summed_from.nd rfl (Or.inl rfl)) (pgs_cons (pg_name (i := 5) sc_summed_from.nd rfl (Or.inl rfl)) pgs_nil)))))
      (pss_one (ps_ret (pcall G_summed (hr.mono (by decide)) (pa_cons (pv 2) (pa_cons (pv 3) (pa_cons (pe_op op_add (pe_op op_mulX (pv 3) (pv 1)) (pv 4)) (pa_cons (pv 5) pa_nil)))))))), ?_⟩
  rw [st_summed_from]
  try dsimp only [Cx.nox, Cx.wish, Cx.blk, cx_K]
  walk_at "go"
  have zb' : Sz 3901 (a * k + b) := (za.mul zk).add zb
  refine use_summed hm zn (za.mono (by decide)) (zb'.mono (by decide)) zm ?_
  exact q

end
def sp_side_sum (K : PySem.W.Frag) : Sp := fun vs H Q _ => ∃ (l : Addr) (es : List (V × Eg)) (t : Bool) (g : Int → Int) (e0 : Eg), vs = [.ref l, .bl t] ∧ EgsAt H l es ∧ (∀ e ∈ es, szE e.2) ∧ SideW ((es.map (·.2)).map (turnE t)) g ∧ ((es.map (·.2)).map (turnE t))[0]? = some e0 ∧
  ∀ p H' fin total, H p = none → Ex H H' → SideI ((es.map (·.2)).map (turnE t)) g e0.f ((es.map (·.2)).map (turnE t)).length fin total → H' p = some (.tup [.int total, .int (fin - e0.f)]) → Q (.ref p) H'
theorem use_side_sum {K : PySem.W.Frag} {H : Hp} {Q : VK} {E : XK} {l : Addr} {es : List (V × Eg)} {t : Bool} {g : Int → Int} {e0 : Eg} (L : EgsAt H l es) (z : ∀ e ∈ es, szE e.2) (W : SideW ((es.map (·.2)).map (turnE t)) g) (h0 : ((es.map (·.2)).map (turnE t))[0]? = some e0)
    (q : ∀ p H' fin total, H p = none → Ex H H' → SideI ((es.map (·.2)).map (turnE t)) g e0.f ((es.map (·.2)).map (turnE t)).length fin total → H' p = some (.tup [.int total, .int (fin - e0.f)]) → Q (.ref p) H') : sp_side_sum K [.ref l, .bl t] H Q E := ⟨l, es, t, g, e0, rfl, L, z, W, h0, q⟩
abbrev s_side_sum : Stmt := topS 19
abbrev nm_side_sum : List Str := ["edges", "turn_over", "total", "first", "begin", "edge", "line"]
theorem sc_side_sum : FnScope nm_side_sum ["edges", "turn_over"] (defScope s_side_sum) := ⟨rfl, rfl, rfl, by decide +kernel, rfl, by decide +kernel, by decide +kernel⟩
theorem st_side_sum {v0 v1 : V} : start nm_side_sum [v0, v1] = [some v0, some v1, none, none, none, none, none] := rfl
section
variable {P : Program} {w : World} {K : PySem.W.Frag} {mg : Str → Option Value} {base : Heap}
theorem ok_side_sum (D : DefAt K mg "side_sum" s_side_sum ["edges", "turn_over"]) (G_over_down : Has P w K mg base CX0 2 "over_down" ["line"] (sp_over_down K)) (G_summed_from : Has P w K mg base CX0 3 "summed_from" ["stair", "k", "n"] (sp_summed_from K)) : Has P w K mg base CX0 4 "side_sum" ["edges", "turn_over"] (sp_side_sum K) := by
  refine D.ok sc_side_sum (by rintro _ _ _ _ ⟨_, _, _, _, _, rfl, _⟩; rfl) (fun f cdv A outer s H vs Q E hr h => ?_)
  obtain ⟨l, es, t, g, e0, rfl, L, z, W, h0, q⟩ := h
  have nl : (es.map (·.1)).length = es.length := List.length_map ..
  have nt : ((es.map (·.2)).map (turnE t)).length = es.length := by rw [List.length_map, List.length_map]
  have hl := L.l
  have gt : ∀ i (hi : i < es.length), ((es.map (·.2)).map (turnE t))[i]? = some (turnE t (es[i]).2) := fun i hi => by
    rw [List.getElem?_map, List.getElem?_map, List.getElem?_eq_getElem hi]
    rfl
  have n0 : 0 < es.length := by
    rw [← nt]
    exact (List.getElem?_eq_some_iff.mp h0).1
  have f0 : (es[0]).2.f = e0.f := by
    have := (gt 0 n0).symm.trans h0
    rw [← Option.some.inj this, turnE_f]
  obtain ⟨p0, q0, v0, a0, b0⟩ := L.e _ (List.getElem_mem n0)
  have x0 : atI (es.map (·.1)) 0 = some (.ref p0) := by
    refine at_of (j := 0) rfl ?_
    rw [List.getElem?_map, List.getElem?_eq_getElem n0, ← v0]
    rfl
  rw [f0] at a0
  refine ⟨_, (pss_cons (ps_set (i := 2) sc_side_sum.nd rfl (Or.inl rfl) pe_int)
      (pss_cons (ps_set (i := 3) sc_side_sum.nd rfl (Or.inl rfl) (pe_ix ix_tup (pe_ix ix_list (pv 0) pe_int (fun _ _ => rfl)) pe_int (fun _ _ => rfl)))
      (pss_cons (ps_set (i := 4) sc_side_sum.nd rfl (Or.inl rfl) (pv 3))
      (pss_cons (ps_for PassesOwn.never rfl (pi_list (pv 0)) (pg_name (i := 5) sc_side_sum.nd rfl (Or.inl rfl))
        (pss_cons (ps_set (i := 6) sc_side_sum.nd rfl (Or.inl rfl) (pe_ix ix_tup (pv 5) pe_int (fun _ _ => rfl)))
        (pcut (ps_if (pt_val (pv 1)) (pss_one (ps_set (i := 6) sc_side_sum.nd rfl (Or.inl rfl) (pcall G_over_down (hr.mono (by decide)) (pa_cons (pv 6) pa_nil)))) pss_nil)
        (pss_one (ps_if (pt_cmpR op_ge (pe_ix ix_tup (pv 5) pe_int (fun _ _ => rfl)) (pv 4) (nomark _)) (pss_cons (ps_aug (i := 2) sc_side_sum.nd rfl (Or.inl rfl) (pcall G_summed_from (hr.mono (by decide)) (pa_cons (pv 6) (pa_cons (pv 4) (pa_cons (pe_op op_add (pe_op op_sub (pe_ix ix_tup (pv 5) pe_int (fun _ _ => rfl)) (pv 4)) pe_int) pa_nil)))) ip_add)
          (pss_one (ps_set (i := 4) sc_side_sum.nd rfl (Or.inl rfl) (pe_op op_add (pe_ix ix_tup (pv 5) pe_int (fun _ _ => rfl)) pe_int)))) pss_nil)))))
      (pss_one (ps_ret (pe_tup (pa_cons (pv 2) (pa_cons (pe_op op_sub (pv 4) (pv 3)) pa_nil))))))))), ?_⟩
  rw [st_side_sum]
  try dsimp only [Cx.nox, Cx.wish, Cx.blk, cx_K]
  walk_at "go"
  refine r_ixL (SqL.of hl) x0 ?_
  walk_at "go"
  refine for_lst (xs := es.map (·.1)) (fun i σ H' => ∃ (fin total : Int) (o1 o2 : Option V), σ = [some (.ref l), some (.bl t), some (.int total), some (.int e0.f), some (.int fin), o1, o2] ∧ Ex H H' ∧ SideI ((es.map (·.2)).map (turnE t)) g e0.f i fin total ∧ Sz 303 fin) ⟨_, _, none, none, rfl, Ex.refl, SideI.zero h0, ?_⟩ (fun i σ H' _ h => ?_) ?_ ?_
  · rw [← f0]
    exact ((z _ (List.getElem_mem n0)).1).mono (by decide)
  · obtain ⟨_, _, _, _, _, e, _⟩ := h
    exact SqL.of (e.at hl)
  · rintro i x σ H1 hx ⟨fin, total, o1, o2, rfl, e1, I, zf⟩
    have hi : i < es.length := by
      rw [← nl]
      exact (List.getElem?_eq_some_iff.mp hx).1
    rw [List.getElem?_map, List.getElem?_eq_getElem hi] at hx
    cases hx
    have ge := gt i hi
    obtain ⟨z1, z2, z3, z4, z5, m0⟩ := z _ (List.getElem_mem hi)
    obtain ⟨pe, qe, ve, ae, be⟩ := (L.e _ (List.getElem_mem hi)).ex e1
    generalize es[i] = ex at *
    obtain ⟨v, e⟩ := ex
    dsimp only at *
    subst ve
    walk_at "go"
    refine r_cut (fun σ' H' => ∃ q2, σ' = [some (.ref l), some (.bl t), some (.int total), some (.int e0.f), some (.int fin), some (.ref pe), some (.ref q2)] ∧ Ex H1 H' ∧ H' q2 = some (.tup [.int (turnE t e).a, .int (turnE t e).b, .int e.m])) ?_ ?_
    · cases t with
      | true =>
        walk_at "go"
        refine use_over_down be fun q2 H2 n2 e2 h2 => ?_
        walk_at "go"
        exact ⟨q2, rfl, e2, h2⟩
      | false =>
        walk_at "go"
        exact ⟨qe, rfl, Ex.refl, be⟩
    rintro σ' H2 ⟨q2, rfl, e2, h2⟩
    have ae := e2.at ae
    have zA : Sz 1300 (turnE t e).a := by
      cases t with
      | true => exact (Sz.sub1 (k := 1300) (Sz.lit (x := 0)) z3 (by decide) (by decide))
      | false => exact z3.mono (by decide)
    have zB : Sz 1300 (turnE t e).b := by
      cases t with
      | true => exact (Sz.sub1 (k := 1300) (Sz.lit (x := 0)) z4 (by decide) (by decide))
      | false => exact z4.mono (by decide)
    have eM : (turnE t e).m = e.m := by cases t <;> rfl
    have zn : Sz 4000 (e.l - fin + 1) := (Sz.add1 (k := 700) (Sz.sub1 (k := 600) z2 zf (by decide) (by decide)) (Sz.lit (x := 1)) (by decide) (by decide)).mono (by decide)
    walk_at "go"
    refine if_2 (fun hx => ?_) (fun hx => ?_)
    · have hx := of_decide_eq_true hx
      walk_at "go"
      refine use_summed_from h2 m0 zA zB (z5.mono (by decide)) (zf.mono (by decide)) zn ?_
      walk_at "go"
      have st := I.step W h0 ge (by rw [turnE_l]; exact hx)
      rw [turnE_l, eM] at st
      exact ⟨_, _, _, _, rfl, e1.trans e2, st, Sz.add1 (k := 303) z2 (Sz.lit (x := 1)) (by decide) (by decide)⟩
    · have hx := of_decide_eq_false hx
      walk_at "go"
      exact ⟨_, _, _, _, rfl, e1.trans e2, I.skip ge (by rw [turnE_l]; exact hx), zf⟩
  · rintro σ H1 ⟨fin, total, o1, o2, rfl, e1, I, zf⟩
    walk_at "go"
    rename_i p H2 n2 e2 h2
    refine q p H2 fin total (free_back e1 n2) (e1.trans e2) ?_ h2
    rw [nl] at I
    rw [nt]
    exact I

end
def sp_points_in (K : PySem.W.Frag) : Sp := fun vs H Q _ => ∃ (a : Addr) (rs : List (V × Cn)), vs = [.ref a] ∧ RgAt K H a rs ∧ RingI (rcs rs) ∧ ∀ N H', Ex H H' → Cnt (ringS (rcs rs)) N → Q (.int N) H'
theorem use_points_in {K : PySem.W.Frag} {H : Hp} {Q : VK} {E : XK} {a : Addr} {rs : List (V × Cn)} (R : RgAt K H a rs) (I : RingI (rcs rs)) (q : ∀ N H', Ex H H' → Cnt (ringS (rcs rs)) N → Q (.int N) H') : sp_points_in K [.ref a] H Q E := ⟨a, rs, rfl, R, I, q⟩
abbrev s_points_in : Stmt := topS 20
abbrev nm_points_in : List Str := ["ring", "below", "many", "above"]
theorem sc_points_in : FnScope nm_points_in ["ring"] (defScope s_points_in) := ⟨rfl, rfl, rfl, by decide +kernel, rfl, by decide +kernel, by decide +kernel⟩
theorem st_points_in {v0 : V} : start nm_points_in [v0] = [some v0, none, none, none] := rfl
section
variable {P : Program} {w : World} {K : PySem.W.Frag} {mg : Str → Option Value} {base : Heap}
theorem ok_points_in (D : DefAt K mg "points_in" s_points_in ["ring"]) (G_need_ring : Has P w K mg base CX0 6 "need_ring" ["ring"] (sp_need_ring K)) (G_side_of : Has P w K mg base CX0 6 "side_of" ["ring", "side"] (sp_side_of K)) (G_side_sum : Has P w K mg base CX0 4 "side_sum" ["edges", "turn_over"] (sp_side_sum K)) : Has P w K mg base CX0 7 "points_in" ["ring"] (sp_points_in K) := by
  refine D.ok sc_points_in (by rintro _ _ _ _ ⟨_, _, rfl, _⟩; rfl) (fun f cdv A outer s H vs Q E hr h => ?_)
  obtain ⟨a, rs, rfl, R, I, q⟩ := h
  have nc : (rcs rs).length = rs.length := List.length_map ..
  have n3 := I.1
  have n20 := I.2.1
  have n0 : 0 < rs.length := by omega
  have ok := R.ok
  have RP := ((ringI_iff ok).mp I).1
  refine ⟨_, (pss_cons (ps_expr (pcall G_need_ring (hr.mono (by decide)) (pa_cons (pv 0) pa_nil)))
      (pss_cons (ps_asg (pcall G_side_sum (hr.mono (by decide)) (pa_cons (pcall G_side_of (hr.mono (by decide)) (pa_cons (pv 0) (pa_cons pe_int pa_nil))) (pa_cons pe_bl pa_nil))) (pg_tup (by rfl) (pgs_cons (pg_name (i := 1) sc_points_in.nd rfl (Or.inl rfl)) (pgs_cons (pg_name (i := 2) sc_points_in.nd rfl (Or.inl rfl)) pgs_nil))))
      (pss_cons (ps_set (i := 3) sc_points_in.nd rfl (Or.inl rfl) (pe_ix ix_tup (pcall G_side_sum (hr.mono (by decide)) (pa_cons (pcall G_side_of (hr.mono (by decide)) (pa_cons (pv 0) (pa_cons pe_int pa_nil))) (pa_cons pe_bl pa_nil))) pe_int (fun _ _ => rfl)))
      (pss_one (ps_ret (pe_op op_add (pe_op op_add (pv 3) (pv 1)) (pv 2))))))), ?_⟩
  rw [st_points_in]
  try dsimp only [Cx.nox, Cx.wish, Cx.blk, cx_K]
  walk_at "go"
  try (refine r_eiL ?_; walk_at "go")
  refine use_need_ring R I fun H1 e1 => ?_
  walk_at "go"
  refine use_side_of (R.ex e1) n0 (by omega) fun l2 H2 es n2 e2 L2 p2 u2 => ?_
  have E0 : SideE (pts (rcs rs)) 0 (es.map (·.2)) := (nc ▸ sideL_e I.len ok).perm p2
  obtain ⟨b0, hb0⟩ := ringI_low ok I E0
  have hb0' : ((es.map (·.2)).map (turnE true))[0]? = some (turnE true b0) := by rw [List.getElem?_map, hb0]; rfl
  walk_at "go"
  refine use_side_sum L2 (fun e he => sideL_szE n0 R.z _ (p2.mem_iff.mp (List.mem_map.mpr ⟨e, he, rfl⟩))) (sideW_low RP E0 u2) hb0' fun p3 H3 fin tot n3 e3 I3 h3 => ?_
  walk_at "go"
  refine use_side_of ((((R.ex e1).ex e2).ex e3)) n0 (by omega) fun l4 H4 es4 n4 e4 L4 p4 u4 => ?_
  have E4 : SideE (pts (rcs rs)) 1 (es4.map (·.2)) := (nc ▸ sideL_e I.len ok).perm p4
  obtain ⟨c0, hc0⟩ := ringI_high ok I E4
  have hc0' : ((es4.map (·.2)).map (turnE false))[0]? = some (turnE false c0) := by rw [List.getElem?_map, hc0]; rfl
  walk_at "go"
  refine use_side_sum L4 (fun e he => sideL_szE n0 R.z _ (p4.mem_iff.mp (List.mem_map.mpr ⟨e, he, rfl⟩))) (sideW_high RP E4 u4) hc0' fun p5 H5 fin5 tot5 n5 e5 I5 h5 => ?_
  walk_at "go"
  exact q _ _ ((((e1.trans e2).trans e3).trans e4).trans e5) (ring_count RP E0 E4 u2 u4 hb0' hc0' I3 I5)

end
def sp_law_figures (_ : PySem.W.Frag) : Sp := fun vs H Q _ => ∃ (d : Addr) (n : Int), vs = [.ref d, .int n] ∧ Dr H d ∧ 0 < n ∧ n ≤ 20 ∧ ∀ v H', Sz 600 v → v.natAbs < 1000000 ^ n.toNat → Kp d H H' → Dr H' d → Q (.int v) H'
theorem use_law_figuresB {K : PySem.W.Frag} {H : Hp} {Q : VK} {E : XK} {d : Addr} {n : Int} (D : Dr H d) (p : 0 < n) (z : n ≤ 20) (k : ∀ v H', Sz 600 v → v.natAbs < 1000000 ^ n.toNat → Kp d H H' → Dr H' d → Q (.int v) H') : sp_law_figures K [.ref d, .int n] H Q E := ⟨d, n, rfl, D, p, z, k⟩
theorem use_law_figures {K : PySem.W.Frag} {H : Hp} {Q : VK} {E : XK} {d : Addr} {n : Int} (D : Dr H d) (p : 0 < n) (z : n ≤ 20) (k : ∀ v H', Sz 600 v → Kp d H H' → Dr H' d → Q (.int v) H') : sp_law_figures K [.ref d, .int n] H Q E := ⟨d, n, rfl, D, p, z, fun v H' z _ => k v H' z⟩
abbrev s_law_figures : Stmt := topS 27
abbrev nm_law_figures : List Str := ["draws", "most", "number", "k"]
theorem sc_law_figures : FnScope nm_law_figures ["draws", "most"] (defScope s_law_figures) := ⟨rfl, rfl, rfl, by decide +kernel, rfl, by decide +kernel, by decide +kernel⟩
theorem st_law_figures {v0 v1 : V} : start nm_law_figures [v0, v1] = [some v0, some v1, none, none] := rfl
section
variable {P : Program} {w : World} {K : PySem.W.Frag} {mg : Str → Option Value} {base : Heap}
theorem ok_law_figures (D : DefAt K mg "_law_figures" s_law_figures ["draws", "most"]) (B_range : mg "range" = none) (G__law_draw : Has P w K mg base CX0 2 "_law_draw" ["draws", "many"] (sp_law_draw K)) : Has P w K mg base CX0 3 "_law_figures" ["draws", "most"] (sp_law_figures K) := by
  refine D.ok sc_law_figures (by rintro _ _ _ _ ⟨_, _, rfl, _⟩; rfl) (fun f cdv A outer s H vs Q E hr h => ?_)
  obtain ⟨d, n, rfl, D, hn, h20, k⟩ := h
  refine ⟨_, (pss_cons (ps_set (i := 2) sc_law_figures.nd rfl (Or.inl rfl) (pcall G__law_draw (hr.mono (by decide)) (pa_cons (pv 0) (pa_cons (pe_op op_pow pe_int pe_int) pa_nil))))
      (pss_cons (ps_for PassesOwn.never rfl (pi_range1 rfl B_range (pa_cons (pcall G__law_draw (hr.mono (by decide)) (pa_cons (pv 0) (pa_cons (pv 1) pa_nil))) pa_nil)) (pg_name (i := 3) sc_law_figures.nd rfl (Or.inl rfl))
        (pss_one (ps_set (i := 2) sc_law_figures.nd rfl (Or.inl rfl) (pe_op op_add (pe_op op_mulX (pv 2) (pe_op op_pow pe_int pe_int)) (pcall G__law_draw (hr.mono (by decide)) (pa_cons (pv 0) (pa_cons (pe_op op_pow pe_int pe_int) pa_nil)))))))
      (pss_one (ps_ret (pe_ix ix_list (pe_lst (pa_cons (pv 2) (pa_cons (pe_op op_sub pe_int (pv 2)) (pa_cons (pe_op op_sub (pe_op op_mod (pv 2) pe_int) pe_int) pa_nil)))) (pcall G__law_draw (hr.mono (by decide)) (pa_cons (pv 0) (pa_cons pe_int pa_nil))) (fun _ _ => rfl)))))), ?_⟩
  rw [st_law_figures]
  try dsimp only [Cx.nox, Cx.wish, Cx.blk, cx_K]
  walk_at "go"
  refine use_law_draw D (by decide) (Sz.mono (n := 200) Sz.lit (by decide)) fun v1 H1 a1 b1 k1 D1 => ?_
  walk_at "go"
  refine use_law_draw D1 hn (Sz.mono (n := 200) (Sz.small (by omega)) (by decide)) fun v2 H2 a2 b2 k2 D2 => ?_
  walk_at "go"
  refine r_rng1 (by omega) (by omega) ?_
  refine for_rng (fun i σ H' => ∃ (w : Int) (o : Option V), σ = [some (.ref d), some (.int n), some (.int w), o] ∧ Kp d H H' ∧ Dr H' d ∧ 0 ≤ w ∧ w < ((1000000 ^ (i + 1) : Nat) : Int)) ⟨v1, none, rfl, k1.trans k2, D2, a1, b1⟩ ?_ ?_
  · rintro i σ H' hi ⟨w', o, rfl, kk, DD, w0, w1⟩
    have zw : Sz 600 w' := by
      refine Sz.lt (y := ((1000000 ^ 22 : Nat) : Int)) ?_ w0 (Int.lt_of_lt_of_le w1 (Int.ofNat_le.mpr (Nat.pow_le_pow_right (by decide) (by omega))))
      show ((1000000 ^ 22 : Nat) : Int).natAbs < 2 ^ 600
      decide +kernel
    walk_at "go"
    refine use_law_draw DD (by decide) (Sz.mono (n := 200) Sz.lit (by decide)) fun v3 H3 a3 b3 k3 D3 => ?_
    walk_at "go"
    refine ⟨_, _, rfl, kk.trans k3, D3, ?_, ?_⟩
    · omega
    · rw [Nat.pow_succ]
      generalize 1000000 ^ (i + 1) = z at w1 ⊢
      omega
  · rintro σ H' ⟨w', o, rfl, kk, DD, w0, w1⟩
    have zw : Sz 598 w' := by
      refine Sz.lt (y := ((1000000 ^ 22 : Nat) : Int)) ?_ w0 (Int.lt_of_lt_of_le w1 (Int.ofNat_le.mpr (Nat.pow_le_pow_right (by decide) (by omega))))
      show ((1000000 ^ 22 : Nat) : Int).natAbs < 2 ^ 598
      decide +kernel
    walk_at "go"
    rename_i l H3 nl e3 hl
    refine use_law_draw (DD.up e3) (by decide) (Sz.mono (n := 200) Sz.lit (by decide)) fun v3 H4 a3 b3 k3 D3 => ?_
    walk_at "go"
    obtain ⟨v, hv, hv'⟩ := at_3 (x := .int w') (y := .int (0 - w')) (z := .int (w' % 7 - 3)) a3 b3
    have ndl : l ≠ d := DD.free nl
    refine r_ixL (SqL.of (k3 _ _ ndl hl)) hv ?_
    walk_at "go"
    have w2 : w'.natAbs < 1000000 ^ n.toNat := by
      have l1 : (1000000 : Nat) ^ (v2.toNat + 1) ≤ 1000000 ^ n.toNat := Nat.pow_le_pow_right (by decide) (by omega)
      generalize (1000000 : Nat) ^ (v2.toNat + 1) = z1 at w1 l1
      generalize (1000000 : Nat) ^ n.toNat = z2 at l1 ⊢
      omega
    have l2 : (1000000 : Nat) ^ 1 ≤ 1000000 ^ n.toNat := Nat.pow_le_pow_right (by decide) (by omega)
    obtain ⟨u, rfl, zu, bu⟩ : ∃ u, v = .int u ∧ Sz 600 u ∧ u.natAbs < 1000000 ^ n.toNat := by
      generalize (1000000 : Nat) ^ n.toNat = z2 at w2 l2 ⊢
      rcases hv' with rfl | rfl | rfl
      · exact ⟨_, rfl, zw.mono (by decide), w2⟩
      · refine ⟨_, rfl, ?_, by omega⟩
        rw [Int.zero_sub]
        exact zw.neg.mono (by decide)
      · exact ⟨_, rfl, (Sz.small (by omega)).mono (by decide), by omega⟩
    exact k _ _ zu bu (kk.trans (e3.kp.trans k3)) D3

end
/-! list(range(a, b)) -/
def rListR : List V → Hp → VK → Prop := fun vs H Q => ∃ (p : Addr) (lo hi : Int), vs = [.ref p] ∧ H p = some (.rng lo hi) ∧ (-(2 ^ 62) ≤ lo ∧ lo < 2 ^ 62) ∧ (-(2 ^ 62) ≤ hi ∧ hi < 2 ^ 62) ∧ (hi - lo).toNat ≤ 100000 ∧ ∀ l, H l = none → Q (.ref l) (upd H l (.lst ((List.range (hi - lo).toNat).map fun k : Nat => V.int (lo + k))))
theorem vals_from : ∀ (us : List Value) (lo : Int), (∀ (j : Nat) v, us[j]? = some v → ∃ t, v = .int (lo + (j : Int)) t) → Vals ((List.range us.length).map fun k : Nat => V.int (lo + k)) us
  | [], _, _ => .nil
  | u :: us, lo, h => by
    have t := vals_from us (lo + 1) fun j v g => by
      obtain ⟨t, e⟩ := h (j + 1) v g
      exact ⟨t, by rw [e, show lo + 1 + (j : Int) = lo + ((j + 1 : Nat) : Int) by omega]⟩
    rw [List.length_cons, List.range_succ_eq_map, List.map_cons, List.map_map]
    refine .cons ?_ ?_
    · obtain ⟨t, e⟩ := h 0 u rfl
      exact ⟨t, e⟩
    · have e : ((fun k : Nat => V.int (lo + (k : Int))) ∘ Nat.succ) = fun k : Nat => V.int (lo + 1 + (k : Int)) := by
        funext k
        show V.int (lo + ((k + 1 : Nat) : Int)) = _
        congr 1
        omega
      rw [e]
      exact t
theorem cl_listR {X : Cx} (hc : X.calm = true) : CallR X (.type "list") rListR := by
  intro pins s σ H xs us Q I r h
  obtain ⟨p, lo, hi, rfl, hp, l1, h1, hn, q⟩ := h
  obtain ⟨u, rfl, rx⟩ := vals1 r
  cases rx
  obtain ⟨t, v, k, ho⟩ := I.hok _ _ hp
  have hsz : Builtin.Range.rangeSize lo hi 1 = (((hi - lo).toNat : Nat) : Int) := by
    have := size_0 (lo := lo) (hi := hi)
    omega
  refine call_list_range (n := (hi - lo).toNat) (I.ok.hd hc) ho ?_ hsz (by omega) fun h' tk acc' c' hk hS hacc => ?_
  · exact small_one l1.1 l1.2 h1.1 h1.2
  · have hlen : acc'.toList.length = (hi - lo).toNat := by rw [Array.length_toList]; exact hacc.1
    have vv : Vals ((List.range (hi - lo).toNat).map fun k : Nat => V.int (lo + k)) acc'.toList := by
      rw [← hlen]
      refine vals_from _ _ fun j w hw => ?_
      obtain ⟨t, e⟩ := hacc.2 j w (by rw [← Array.getElem?_toList]; exact hw)
      exact ⟨t, by rw [e, Int.mul_one]⟩
    exact ⟨.ref _, upd H s.heap.objs.size (.lst ((List.range (hi - lo).toNat).map fun k : Nat => V.int (lo + k))), I.laid (t' := tk) hk (Nat.le_refl _) ⟨by rw [List.length_map, List.length_range]; exact Nat.le_trans hn (by decide), acc'.toList, c', vv, by simpa using hS⟩, rfl, q _ (I.hok.fresh (Nat.le_refl _))⟩

--@ needs ArchM RngL
/-! k34: points tried one by one -/
def nsI (lo : Int) (n : Nat) : List Int := (List.range n).map fun k : Nat => lo + k
theorem nsI_len (lo : Int) (n : Nat) : (nsI lo n).length = n := by unfold nsI; simp
theorem nsI_add (lo : Int) (a b : Nat) : nsI lo (a + b) = nsI lo a ++ nsI (lo + a) b := by
  unfold nsI
  rw [List.range_add, List.map_append, List.map_map]
  congr 1
  refine List.map_congr_left fun k _ => ?_
  show lo + ((a + k : Nat) : Int) = lo + a + k
  omega
theorem nsI_mem {lo : Int} {n : Nat} {y : Int} : y ∈ nsI lo n ↔ lo ≤ y ∧ y < lo + n := by
  unfold nsI
  rw [List.mem_map]
  constructor
  · rintro ⟨k, hk, rfl⟩
    have := List.mem_range.mp hk
    omega
  · rintro ⟨a, b⟩
    exact ⟨(y - lo).toNat, List.mem_range.mpr (by omega), by omega⟩
noncomputable def cB (p : Prop) : Bool := @decide p (Classical.propDecidable p)
theorem cB_iff {p : Prop} : cB p = true ↔ p := by unfold cB; exact @decide_eq_true_iff p (Classical.propDecidable p)
theorem cB_f {p : Prop} : cB p = false ↔ ¬ p := by unfold cB; exact @decide_eq_false_iff_not p (Classical.propDecidable p)
theorem filter_len (p : Int → Prop) (lo : Int) : ∀ n : Nat, (((nsI lo n).filter fun y => cB (p y)).length : Int) = sr (fun y => ind (p y)) lo (lo + n)
  | 0 => by
    rw [show lo + ((0 : Nat) : Int) = lo by omega, sr_self]
    rfl
  | n + 1 => by
    have ih := filter_len p lo n
    rw [nsI_add, List.filter_append, List.length_append, Int.natCast_add, ih, sr_split _ (show lo ≤ lo + (n : Int) by omega) (show lo + (n : Int) ≤ lo + ((n + 1 : Nat) : Int) by omega)]
    congr 1
    have e1 : nsI (lo + n) 1 = [lo + n] := by unfold nsI; simp
    have e2 : sr (fun y => ind (p y)) (lo + n) (lo + ((n + 1 : Nat) : Int)) = ind (p (lo + n)) := by
      unfold sr
      rw [show (lo + ((n + 1 : Nat) : Int) - (lo + n)).toNat = 1 by omega]
      show 0 + ind (p (lo + n + ((0 : Nat) : Int))) = _
      rw [show lo + (n : Int) + ((0 : Nat) : Int) = lo + n by omega]
      omega
    rw [e1, e2]
    by_cases c : p (lo + n)
    · rw [List.filter_cons_of_pos (p := fun y => cB (p y)) (cB_iff.mpr c), ind_yes c]
      rfl
    · rw [List.filter_cons_of_neg (p := fun y => cB (p y)) (by rw [cB_iff]; exact c), ind_no c]
      rfl
theorem filter_mid {p : Int → Prop} {lo a b : Int} {n : Nat} (h : ∀ y, p y ↔ a ≤ y ∧ y ≤ b) (ab : a ≤ b) (l : lo ≤ a) (u : b < lo + n) : (nsI lo n).filter (fun y => cB (p y)) = nsI a (b - a + 1).toNat := by
  have e : n = (a - lo).toNat + ((b - a + 1).toNat + (lo + n - 1 - b).toNat) := by omega
  rw [e, nsI_add, nsI_add, List.filter_append, List.filter_append]
  rw [List.filter_eq_nil_iff.mpr fun y hy => by
    have := nsI_mem.mp hy
    rw [cB_iff, h]
    omega]
  rw [List.filter_eq_self.mpr fun y hy => by
    have := nsI_mem.mp hy
    rw [cB_iff, h]
    omega]
  rw [List.filter_eq_nil_iff.mpr fun y hy => by
    have := nsI_mem.mp hy
    rw [cB_iff, h]
    omega]
  rw [List.nil_append, List.append_nil, show lo + (((a - lo).toNat : Nat) : Int) = a by omega]
theorem nsI_first {a : Int} {n : Nat} (h : 0 < n) : atI ((nsI a n).map V.int) 0 = some (.int a) := by
  refine at_of (j := 0) rfl ?_
  unfold nsI
  rw [List.getElem?_map, List.getElem?_map, List.getElem?_range h]
  show some (V.int (a + ((0 : Nat) : Int))) = _
  congr 2
  omega
theorem nsI_last {a b : Int} (h : a ≤ b) : atI ((nsI a (b - a + 1).toNat).map V.int) (-1) = some (.int b) := by
  have e : (b - a + 1).toNat = (b - a).toNat + 1 := by omega
  rw [e, nsI_add]
  have e1 : nsI (a + (((b - a).toNat : Nat) : Int)) 1 = [b] := by
    unfold nsI
    show [a + (((b - a).toNat : Nat) : Int) + ((0 : Nat) : Int)] = _
    congr 1
    omega
  rw [e1]
  exact at_lastI _ _
/-- least and greatest floors are told once for all -/
structure SpanP (cs : List Cn) (f : Cn → Int) (lo hi : Int) : Prop where
  all : ∀ c ∈ cs, lo ≤ f c ∧ f c ≤ hi
  l : ∃ c ∈ cs, f c = lo
  u : ∃ c ∈ cs, f c = hi
theorem SpanP.uniq {cs : List Cn} {f : Cn → Int} {lo hi lo' hi' : Int} (h : SpanP cs f lo hi) (h' : SpanP cs f lo' hi') : lo = lo' ∧ hi = hi' := by
  obtain ⟨c1, m1, e1⟩ := h.l
  obtain ⟨c2, m2, e2⟩ := h.u
  obtain ⟨c3, m3, e3⟩ := h'.l
  obtain ⟨c4, m4, e4⟩ := h'.u
  have a1 := h'.all c1 m1
  have a2 := h'.all c2 m2
  have a3 := h.all c3 m3
  have a4 := h.all c4 m4
  omega
theorem SpanP.le {cs : List Cn} {f : Cn → Int} {lo hi : Int} (h : SpanP cs f lo hi) : lo ≤ hi := by
  obtain ⟨c1, m1, e1⟩ := h.l
  have := h.all c1 m1
  omega
/-- what is within is not above or below the ring -/
theorem RingP.ins_high {P : List Pt} (R : RingP P) {x y : Rat} (h : InsP P (x, y)) : (∃ i, (cor P i).2 ≤ y) ∧ ∃ j, y ≤ (cor P j).2 := by
  have n0 : 0 < P.length := by have := R.1; omega
  obtain ⟨⟨i, hi⟩, j, hj⟩ := R.ins_wide h
  constructor
  · obtain ⟨k, hk, k1, k2, k3⟩ := R.low_at hi hj
    have c := h.all n0 k
    apply Classical.byContradiction
    intro no
    have a1 : 0 < (cor P k).2 - y := Classical.byContradiction fun z => no ⟨k, by grind⟩
    have a2 : 0 < (cor P (k + 1)).2 - y := Classical.byContradiction fun z => no ⟨k + 1, by grind⟩
    have e : cr (cor P k) (cor P (k + 1)) (x, y) = -(((cor P (k + 1)).1 - x) * ((cor P k).2 - y) + (x - (cor P k).1) * ((cor P (k + 1)).2 - y)) := by unfold cr; grind
    have b1 : 0 ≤ ((cor P (k + 1)).1 - x) * ((cor P k).2 - y) := Rat.mul_nonneg (by grind) (Rat.le_of_lt a1)
    have b2 : 0 ≤ (x - (cor P k).1) * ((cor P (k + 1)).2 - y) := Rat.mul_nonneg (by grind) (Rat.le_of_lt a2)
    by_cases z : x = (cor P k).1
    · have : 0 < ((cor P (k + 1)).1 - x) * ((cor P k).2 - y) := Rat.mul_pos (by grind) a1
      grind
    · have : 0 < (x - (cor P k).1) * ((cor P (k + 1)).2 - y) := Rat.mul_pos (by grind) a2
      grind
  · obtain ⟨k, hk, k1, k2, k3⟩ := R.high_at hi hj
    have c := h.all n0 k
    apply Classical.byContradiction
    intro no
    have a1 : 0 < y - (cor P k).2 := Classical.byContradiction fun z => no ⟨k, by grind⟩
    have a2 : 0 < y - (cor P (k + 1)).2 := Classical.byContradiction fun z => no ⟨k + 1, by grind⟩
    have e : cr (cor P k) (cor P (k + 1)) (x, y) = -((x - (cor P (k + 1)).1) * (y - (cor P k).2) + ((cor P k).1 - x) * (y - (cor P (k + 1)).2)) := by unfold cr; grind
    have b1 : 0 ≤ (x - (cor P (k + 1)).1) * (y - (cor P k).2) := Rat.mul_nonneg (by grind) (Rat.le_of_lt a1)
    have b2 : 0 ≤ ((cor P k).1 - x) * (y - (cor P (k + 1)).2) := Rat.mul_nonneg (by grind) (Rat.le_of_lt a2)
    by_cases z : x = (cor P k).1
    · have : 0 < (x - (cor P (k + 1)).1) * (y - (cor P k).2) := Rat.mul_pos (by grind) a1
      grind
    · have : 0 < ((cor P k).1 - x) * (y - (cor P (k + 1)).2) := Rat.mul_pos (by grind) a2
      grind
theorem floor_le {t b x : Int} (h : 0 < b) (q : qv t b ≤ (x : Rat)) : t / b ≤ x := by
  have e := (le_floor (t := t) (x := t / b) h).mp (Int.le_refl _)
  have := Rat.le_trans e q
  exact Rat.intCast_le_intCast.mp this
theorem ringS_x {cs : List Cn} (ok : ∀ c ∈ cs, OkC c) (I : RingI cs) {lo hi : Int} (s : SpanP cs (fun c => c.1.1 / c.1.2) lo hi) {x y : Int} (h : ringS cs x y) : lo ≤ x ∧ x ≤ hi := by
  have n0 := I.len
  obtain ⟨⟨i, hi'⟩, j, hj⟩ := ((ringI_iff ok).mp I).1.ins_wide h
  rw [cor_pts n0] at hi' hj
  have m1 := cI_mem n0 i
  have m2 := cI_mem n0 j
  have a := floor_le (ok _ m1).1 hi'
  have b := (le_floor (ok _ m2).1).mpr hj
  have := s.all _ m1
  have := s.all _ m2
  omega
theorem ringS_y {cs : List Cn} (ok : ∀ c ∈ cs, OkC c) (I : RingI cs) {lo hi : Int} (s : SpanP cs (fun c => c.2.1 / c.2.2) lo hi) {x y : Int} (h : ringS cs x y) : lo ≤ y ∧ y ≤ hi := by
  have n0 := I.len
  obtain ⟨⟨i, hi'⟩, j, hj⟩ := ((ringI_iff ok).mp I).1.ins_high h
  rw [cor_pts n0] at hi' hj
  have m1 := cI_mem n0 i
  have m2 := cI_mem n0 j
  have a := floor_le (ok _ m1).2 hi'
  have b := (le_floor (ok _ m2).2).mpr hj
  have := s.all _ m1
  have := s.all _ m2
  omega
/-- counted in a box -/
theorem Cnt.box {S : Int → Int → Prop} {x0 x1 y0 y1 : Int} (hx : x0 ≤ x1) (hy : y0 ≤ y1) (h : ∀ x y, S x y → (x0 ≤ x ∧ x < x1) ∧ y0 ≤ y ∧ y < y1) : Cnt S (sr (fun x => sr (fun y => ind (S x y)) y0 y1) x0 x1) := by
  refine ⟨max (max (max x0 (-x0)) (max x1 (-x1))) (max (max y0 (-y0)) (max y1 (-y1))), fun B hB => ?_⟩
  unfold cnt
  rw [sr_wide (lo := x0) (hi := x1) (by omega) hx (by omega)]
  · refine sr_congr fun x _ _ => ?_
    rw [sr_wide (lo := y0) (hi := y1) (by omega) hy (by omega)]
    · intro y hy
      exact ind_no fun z => by have := h x y z; omega
    · intro y hy
      exact ind_no fun z => by have := h x y z; omega
  · intro x hx
    exact sr_zero fun y _ _ => ind_no fun z => by have := h x y z; omega
  · intro x hx
    exact sr_zero fun y _ _ => ind_no fun z => by have := h x y z; omega
/-- the ring that is asked about -/
structure R34 (H0 H : Hp) (d l : Addr) (rs : List (V × Cn)) : Prop where
  w : Lw H0 d H
  R : RgS H l rs
  I : RingI (rcs rs)
  S : SmR (rcs rs)
  n3 : 3 ≤ rs.length
  n5 : rs.length ≤ 5
  ld : l ≠ d
theorem R34.ex {H0 H H' : Hp} {d l : Addr} {rs : List (V × Cn)} (r : R34 H0 H d l rs) (e : Ex H H') : R34 H0 H' d l rs := ⟨r.w.ex e, r.R.ex e, r.I, r.S, r.n3, r.n5, r.ld⟩
theorem R34.kp {H0 H H' : Hp} {d l : Addr} {rs : List (V × Cn)} (r : R34 H0 H d l rs) (k : Kp d H H') (D : Dr H' d) : R34 H0 H' d l rs := ⟨r.w.kp k D, r.R.kp k r.w.D r.ld, r.I, r.S, r.n3, r.n5, r.ld⟩
theorem SmR.span0 {cs : List Cn} (S : SmR cs) : ∃ z, -(10 ^ 15) ≤ z ∧ z ≤ 10 ^ 15 ∧ ∀ c ∈ cs, z ≤ c.1.1 / c.1.2 ∧ c.1.1 / c.1.2 ≤ z + 90000 := by
  obtain ⟨⟨z, a, b, c⟩, _⟩ := S
  exact ⟨z, by omega, by omega, fun x hx => by have := c x hx; omega⟩
theorem SmR.span1 {cs : List Cn} (S : SmR cs) : ∃ z, -(10 ^ 15) ≤ z ∧ z ≤ 10 ^ 15 ∧ ∀ c ∈ cs, z ≤ c.2.1 / c.2.2 ∧ c.2.1 / c.2.2 ≤ z + 90000 := ⟨-20000, by decide, by decide, fun x hx => by have := S.2 x hx; omega⟩
theorem SmR.near {cs : List Cn} (S : SmR cs) {lo hi : Int} (p : SpanP cs (fun c => c.1.1 / c.1.2) lo hi) : hi ≤ lo + 150 ∧ -(10 ^ 7) ≤ lo ∧ lo ≤ 10 ^ 7 := by
  obtain ⟨⟨z, a, b, c⟩, _⟩ := S
  obtain ⟨c1, m1, e1⟩ := p.l
  obtain ⟨c2, m2, e2⟩ := p.u
  have := c c1 m1
  have := c c2 m2
  omega
theorem SmR.near1 {cs : List Cn} (S : SmR cs) {lo hi : Int} (p : SpanP cs (fun c => c.2.1 / c.2.2) lo hi) : -20000 ≤ lo ∧ lo ≤ hi ∧ hi ≤ 20000 := by
  obtain ⟨c1, m1, e1⟩ := p.l
  obtain ⟨c2, m2, e2⟩ := p.u
  have := S.2 c1 m1
  have := S.2 c2 m2
  have := p.le
  omega
/-- the whole points at x stand in one row -/
theorem col_iv {cs : List Cn} (ok : ∀ c ∈ cs, OkC c) (I : RingI cs) {x y0 : Int} (h : ringS cs x y0) : ∃ lo hi, lo ≤ hi ∧ ∀ y, ringS cs x y ↔ lo ≤ y ∧ y ≤ hi := by
  have R := ((ringI_iff ok).mp I).1
  have n0 := I.len
  have o : OverX (pts cs) x := R.ins_wide h
  have hl := sideL_e (side := 0) n0 ok
  have hh := sideL_e (side := 1) n0 ok
  obtain ⟨e, he, c⟩ := hl.cov R (.inl rfl) o
  obtain ⟨e', he', c'⟩ := hh.cov R (.inr rfl) o
  have i := ins_by R hl hh he he' c c'
  refine ⟨lowC e x, highU e' x, ?_, i⟩
  have := (i y0).mp h
  omega
/-- pairs of a pair of whole numbers and a text compared -/
theorem r_neNest {K : PySem.W.Frag} {H : Hp} {Q : VK} {p q p2 q2 : Addr} {a b : Int} (h : H p = some (.tup [.ref p2, .str ""])) (h2 : H p2 = some (.tup [.int a, .int b])) (g : H q = some (.tup [.ref q2, .str ""])) (g2 : H q2 = some (.tup [.int a, .int b])) (k : Q (.bl false) H) : rNeD K (.ref p) (.ref q) H Q := by
  have dp : ∀ {u v : Addr}, H u = some (.tup [.ref v, .str ""]) → H v = some (.tup [.int a, .int b]) → Dp K H (.ref u) (.tuple [.tuple [.int a, .int b], .str ""]) := fun h h2 => .tup (SqT.of h) (.cons (.tup (SqT.of h2) (dp_ints [a, b])) (.cons (.str _) .nil))
  have sh : SeqAt.shaped (.tuple [.tuple [.int a, .int b], .str ""]) = true := by
    have s : PyData.canLay0 (.str "") = true := by decide +kernel
    unfold SeqAt.shaped
    rw [Bool.and_eq_true]
    refine ⟨?_, decide_eq_true ?_⟩
    · unfold PyData.canLay0
      show (PyData.canLay0 (.tuple [.int a, .int b]) && (PyData.canLay0 (.str "") && true)) = true
      rw [s]
      rfl
    · simp [PyData.depth, PyData.depthAll]
  refine r_neD (dp h h2) (dp g g2) sh sh ?_
  have e : PyData.eqv (.tuple [.tuple [.int a, .int b], .str ""]) (.tuple [.tuple [.int a, .int b], .str ""]) = true := by
    simp [PyData.eqv, PyData.eqvAll]
  rw [e]
  exact k
theorem r_neII {K : PySem.W.Frag} {H : Hp} {Q : VK} {x : Int} (k : Q (.bl false) H) : rNeD K (.int x) (.int x) H Q :=
  r_neD (.int x) (.int x) rfl rfl (by
    have e : PyData.eqv (.int x) (.int x) = true := by simp [PyData.eqv]
    rw [e]
    exact k)
/-! corners as data -/
def cnD4 (c : Cn) : PyData := .tuple [.tuple [.int c.1.1, .int c.1.2], .tuple [.int c.2.1, .int c.2.2]]
theorem cnD4_dp {K : PySem.W.Frag} {H : Hp} {v : V} {c : Cn} (h : CnAt H v c) : Dp K H v (cnD4 c) := by
  obtain ⟨p, u, w, rfl, hp, ⟨q, rfl, hq⟩, r, rfl, hr⟩ := h
  exact .tup (SqT.of hp) (.cons (.tup (SqT.of hq) (dp_ints [c.1.1, c.1.2])) (.cons (.tup (SqT.of hr) (dp_ints [c.2.1, c.2.2])) .nil))
theorem cnsD_dp {K : PySem.W.Frag} {H : Hp} : ∀ {rs : List (V × Cn)}, (∀ r ∈ rs, CnAt H r.1 r.2) → DpAll K H (rs.map (·.1)) (rs.map fun r => cnD4 r.2)
  | [], _ => .nil
  | r :: rs, h => .cons (cnD4_dp (h r List.mem_cons_self)) (cnsD_dp fun x hx => h x (List.mem_cons_of_mem _ hx))
theorem cnsD_eq : ∀ rs : List (V × Cn), PyData.eqvAll (rs.map fun r => cnD4 r.2) (rs.map fun r => cnD4 r.2) = true
  | [] => rfl
  | r :: rs => by
    show (PyData.eqv (cnD4 r.2) (cnD4 r.2) && PyData.eqvAll (rs.map fun r => cnD4 r.2) (rs.map fun r => cnD4 r.2)) = true
    rw [cnsD_eq rs]
    simp [cnD4, PyData.eqv, PyData.eqvAll]
theorem cnsD_lay : ∀ rs : List (V × Cn), PyData.canLayAll0 (rs.map fun r => cnD4 r.2) = true
  | [] => rfl
  | r :: rs => by
    show (PyData.canLay0 (cnD4 r.2) && PyData.canLayAll0 (rs.map fun r => cnD4 r.2)) = true
    rw [cnsD_lay rs]
    rfl
theorem cnsD_dep : ∀ rs : List (V × Cn), PyData.depthAll (rs.map fun r => cnD4 r.2) ≤ 4
  | [] => Nat.zero_le _
  | r :: rs => by
    show max (PyData.depth (cnD4 r.2)) (PyData.depthAll (rs.map fun r => cnD4 r.2)) ≤ 4
    have := cnsD_dep rs
    have : PyData.depth (cnD4 r.2) ≤ 4 := by simp [cnD4, PyData.depth, PyData.depthAll]
    omega
theorem r_neRing {K : PySem.W.Frag} {H : Hp} {Q : VK} {p q : Addr} {rs : List (V × Cn)} (h : H p = some (.lst (rs.map (·.1)))) (h' : H q = some (.lst (rs.map (·.1)))) (c : ∀ r ∈ rs, CnAt H r.1 r.2) (k : Q (.bl false) H) : rNeD K (.ref p) (.ref q) H Q := by
  have sh : SeqAt.shaped (.list (rs.map fun r => cnD4 r.2)) = true := by
    unfold SeqAt.shaped
    rw [Bool.and_eq_true]
    refine ⟨?_, decide_eq_true ?_⟩
    · unfold PyData.canLay0
      exact cnsD_lay rs
    · unfold PyData.depth
      have := cnsD_dep rs
      omega
  refine r_neD (.lst (SqL.of h) (cnsD_dp c)) (.lst (SqL.of h') (cnsD_dp c)) sh sh ?_
  have e : PyData.eqv (.list (rs.map fun r => cnD4 r.2)) (.list (rs.map fun r => cnD4 r.2)) = true := by
    unfold PyData.eqv
    exact cnsD_eq rs
  rw [e]
  exact k
/-- something to be judged, kept while lists of ds change -/
def OddAt (H : Hp) (ds : List Addr) (v : V) : Prop := ∃ (l : Addr) (rs : List (V × Cn)), v = .ref l ∧ l ∉ ds ∧ H l = some (.lst (rs.map (·.1))) ∧ (∀ r ∈ rs, CnAt H r.1 r.2) ∧ (∀ r ∈ rs, SzC r.2) ∧ rs.length ≤ 100
theorem OddAt.ex {H H' : Hp} {ds : List Addr} {v : V} (h : OddAt H ds v) (e : Ex H H') : OddAt H' ds v := by
  obtain ⟨l, rs, a, b, c, d, z, n⟩ := h
  exact ⟨l, rs, a, b, e.at c, fun r hr => (d r hr).ex e, z, n⟩
theorem OddAt.kp {H H' : Hp} {ds : List Addr} {v : V} {m : Addr} {ys : List V} (h : OddAt H ds v) (k : Kp m H H') (hm : m ∈ ds) (D : H m = some (.lst ys)) : OddAt H' ds v := by
  obtain ⟨l, rs, a, b, c, d, z, n⟩ := h
  exact ⟨l, rs, a, b, k _ _ (fun e => b (by rw [e]; exact hm)) c, fun r hr => (d r hr).kpL k D, z, n⟩
theorem OddAt.add {H H' : Hp} {ds : List Addr} {v : V} {o : Addr} (h : OddAt H ds v) (e : Ex H H') (no : H o = none) : OddAt H' (o :: ds) v := by
  obtain ⟨l, rs, a, b, c, d, z, n⟩ := h
  refine ⟨l, rs, a, fun hm => ?_, e.at c, fun r hr => (d r hr).ex e, z, n⟩
  rcases List.mem_cons.mp hm with rfl | hm
  · rw [no] at c
    cases c
  · exact b hm
/-- one made of the ring's corners -/
theorem OddAt.of {H : Hp} {ds : List Addr} {l : Addr} {rs ts : List (V × Cn)} {xs : List V} (hl : H l = some (.lst xs)) (e : xs = ts.map (·.1)) (c : ∀ r ∈ rs, CnAt H r.1 r.2) (z : ∀ r ∈ rs, SzS r.2) (s : ∀ t ∈ ts, t ∈ rs) (n : ts.length ≤ 100) (ld : l ∉ ds) : OddAt H ds (.ref l) := by
  subst e
  exact ⟨l, ts, rfl, ld, hl, fun r hr => c r (s r hr), fun r hr => (z r (s r hr)).c, n⟩
theorem at_back {rs : List (V × Cn)} {i : Int} (n : 0 < rs.length) (h0 : 0 ≤ i) (h1 : i < rs.length) : ∃ r ∈ rs, atI (rs.map (·.1)) (i - 1) = some r.1 := by
  by_cases z : i = 0
  · subst z
    have hl : rs.length - 1 < rs.length := by omega
    refine ⟨rs[rs.length - 1], List.getElem_mem hl, ?_⟩
    unfold atI ixN
    rw [if_neg (by omega), List.length_map, if_pos (by omega)]
    show (rs.map (·.1))[(0 - 1 + (rs.length : Int)).toNat]? = _
    rw [show (0 - 1 + (rs.length : Int)).toNat = rs.length - 1 by omega, List.getElem?_map, List.getElem?_eq_getElem hl]
    rfl
  · have hl : (i - 1).toNat < rs.length := by omega
    refine ⟨rs[(i - 1).toNat], List.getElem_mem hl, at_of (j := (i - 1).toNat) (by omega) ?_⟩
    rw [List.getElem?_map, List.getElem?_eq_getElem hl]
    rfl
theorem at_here {rs : List (V × Cn)} {i : Int} (h0 : 0 ≤ i) (h1 : i < rs.length) : ∃ r ∈ rs, atI (rs.map (·.1)) i = some r.1 := by
  have hl : i.toNat < rs.length := by omega
  refine ⟨rs[i.toNat], List.getElem_mem hl, at_of (j := i.toNat) (by omega) ?_⟩
  rw [List.getElem?_map, List.getElem?_eq_getElem hl]
  rfl
theorem r_rep8 {H : Hp} {Q : VK} {l : Addr} {xs : List V} {k : Int} (h : H l = some (.lst xs)) (k0 : 0 ≤ k) (k1 : k ≤ 100) (n : xs.length ≤ 1000) (q : ∀ p H1, H p = none → Ex H H1 → H1 p = some (.lst (List.replicate k.toNat xs).flatten) → Q (.ref p) H1) : rRep (.ref l) (.int k) H Q :=
  ⟨l, k, xs, rfl, rfl, h, by omega, by omega, by
    have h1 : xs.length * k.toNat ≤ 1000 * 100 := Nat.mul_le_mul n (by omega)
    exact Nat.le_trans h1 (by decide), fun p hp => q p _ hp (Ex.new hp) upd_same⟩
theorem r_neStr {K : PySem.W.Frag} {H : Hp} {Q : VK} {x : Str} (ok : PyData.canLay0 (.str x) = true) (k : Q (.bl false) H) : rNeD K (.str x) (.str x) H Q := by
  have sh : SeqAt.shaped (.str x) = true := by
    unfold SeqAt.shaped
    rw [Bool.and_eq_true]
    exact ⟨ok, by simp [PyData.depth]⟩
  refine r_neD (.str x) (.str x) sh sh ?_
  have e : PyData.eqv (.str x) (.str x) = true := by simp [PyData.eqv]
  rw [e]
  exact k
theorem cat3 {β : Type} (f : β → V) (a b c : List β) : a.map f ++ b.map f ++ c.map f = (a ++ b ++ c).map f := by rw [List.map_append, List.map_append]
theorem mem_cat3 {β : Type} {rs : List β} {i j : Nat} {b t : β} (mb : b ∈ rs) (h : t ∈ rs.take i ++ [b] ++ rs.drop j) : t ∈ rs := by
  rcases List.mem_append.mp h with h | h
  · rcases List.mem_append.mp h with h | h
    · exact List.mem_of_mem_take h
    · rw [List.mem_singleton.mp h]
      exact mb
  · exact List.mem_of_mem_drop h

--@ needs Law34
/-! whole points as a list: counted once and for all -/
def CntL (S : Int → Int → Prop) (N : Int) : Prop := ∃ L : List (Int × Int), L.Nodup ∧ (∀ x y, (x, y) ∈ L ↔ S x y) ∧ (L.length : Int) = N
theorem nodup_le {α : Type} [BEq α] [LawfulBEq α] : ∀ {l m : List α}, l.Nodup → (∀ a, a ∈ l → a ∈ m) → l.length ≤ m.length
  | [], _, _, _ => Nat.zero_le _
  | a :: l, m, nd, h => by
    rw [List.nodup_cons] at nd
    have ma := h a List.mem_cons_self
    have := nodup_le (l := l) (m := m.erase a) nd.2 (fun b hb => by
      have ne : b ≠ a := fun e => nd.1 (by rw [← e]; exact hb)
      exact (List.mem_erase_of_ne ne).mpr (h b (List.mem_cons_of_mem _ hb)))
    rw [List.length_erase_of_mem ma] at this
    have := List.length_pos_of_mem ma
    rw [List.length_cons]
    omega
theorem CntL.uniq {S : Int → Int → Prop} {N M : Int} (h : CntL S N) (k : CntL S M) : N = M := by
  obtain ⟨L, n1, m1, e1⟩ := h
  obtain ⟨L', n2, m2, e2⟩ := k
  have a := nodup_le n1 (fun p hp => by obtain ⟨x, y⟩ := p; exact (m2 x y).mpr ((m1 x y).mp hp))
  have b := nodup_le n2 (fun p hp => by obtain ⟨x, y⟩ := p; exact (m1 x y).mpr ((m2 x y).mp hp))
  omega
/-- the points of a box -/
noncomputable def boxL (S : Int → Int → Prop) (x0 y0 : Int) (n m : Nat) : List (Int × Int) := (nsI x0 n).flatMap fun x => ((nsI y0 m).filter fun y => cB (S x y)).map fun y => (x, y)
theorem boxL_mem {S : Int → Int → Prop} {x0 y0 : Int} {n m : Nat} {x y : Int} : (x, y) ∈ boxL S x0 y0 n m ↔ (x0 ≤ x ∧ x < x0 + n) ∧ (y0 ≤ y ∧ y < y0 + m) ∧ S x y := by
  unfold boxL
  rw [List.mem_flatMap]
  constructor
  · rintro ⟨a, ha, h⟩
    obtain ⟨b, hb, e⟩ := List.mem_map.mp h
    cases e
    obtain ⟨h1, h2⟩ := List.mem_filter.mp hb
    exact ⟨nsI_mem.mp ha, nsI_mem.mp h1, cB_iff.mp h2⟩
  · rintro ⟨hx, hy, hs⟩
    exact ⟨x, nsI_mem.mpr hx, List.mem_map.mpr ⟨y, List.mem_filter.mpr ⟨nsI_mem.mpr hy, cB_iff.mpr hs⟩, rfl⟩⟩
theorem nsI_nodup (lo : Int) (n : Nat) : (nsI lo n).Nodup := by
  induction n with
  | zero => exact List.nodup_nil
  | succ n ih =>
    rw [nsI_add, List.nodup_append]
    refine ⟨ih, by simp [nsI], fun a ha b hb => ?_⟩
    have := nsI_mem.mp ha
    have := nsI_mem.mp hb
    omega
theorem boxL_nodup (S : Int → Int → Prop) (x0 y0 : Int) (n m : Nat) : (boxL S x0 y0 n m).Nodup := by
  induction n with
  | zero => exact List.nodup_nil
  | succ n ih =>
    have e : boxL S x0 y0 (n + 1) m = boxL S x0 y0 n m ++ ((nsI y0 m).filter fun y => cB (S (x0 + n) y)).map fun y => (x0 + n, y) := by
      unfold boxL
      rw [nsI_add, List.flatMap_append]
      congr 1
      have e1 : nsI (x0 + n) 1 = [x0 + n] := by unfold nsI; simp
      rw [e1]
      simp
    rw [e, List.nodup_append]
    refine ⟨ih, ?_, fun a ha b hb => ?_⟩
    · refine List.Pairwise.map _ ?_ (List.Pairwise.filter _ (nsI_nodup y0 m))
      intro a b h z
      exact h (Prod.mk.inj z).2
    · obtain ⟨a1, a2⟩ := a
      obtain ⟨y, _, rfl⟩ := List.mem_map.mp hb
      have := boxL_mem.mp ha
      intro z
      have := (Prod.mk.inj z).1
      omega
theorem boxL_len (S : Int → Int → Prop) (x0 y0 : Int) (n m : Nat) : ((boxL S x0 y0 n m).length : Int) = sr (fun x => sr (fun y => ind (S x y)) y0 (y0 + m)) x0 (x0 + n) := by
  induction n with
  | zero =>
    rw [show x0 + ((0 : Nat) : Int) = x0 by omega, sr_self]
    rfl
  | succ n ih =>
    have e : boxL S x0 y0 (n + 1) m = boxL S x0 y0 n m ++ ((nsI y0 m).filter fun y => cB (S (x0 + n) y)).map fun y => (x0 + n, y) := by
      unfold boxL
      rw [nsI_add, List.flatMap_append]
      congr 1
      have e1 : nsI (x0 + n) 1 = [x0 + n] := by unfold nsI; simp
      rw [e1]
      simp
    rw [e, List.length_append, Int.natCast_add, ih, List.length_map, filter_len (fun y => S (x0 + n) y), sr_split _ (show x0 ≤ x0 + (n : Int) by omega) (show x0 + (n : Int) ≤ x0 + ((n + 1 : Nat) : Int) by omega)]
    congr 1
    show _ = sm _ (x0 + ((n + 1 : Nat) : Int) - (x0 + n)).toNat
    rw [show (x0 + ((n + 1 : Nat) : Int) - (x0 + n)).toNat = 1 by omega]
    show _ = 0 + sr (fun y => ind (S (x0 + n + ((0 : Nat) : Int)) y)) y0 (y0 + m)
    rw [show x0 + (n : Int) + ((0 : Nat) : Int) = x0 + n by omega]
    omega
theorem cnt_box (S : Int → Int → Prop) {B : Int} (h : 0 ≤ B) : cnt S B = ((boxL S (-B) (-B) (2 * B + 1).toNat (2 * B + 1).toNat).length : Int) := by
  rw [boxL_len]
  unfold cnt
  rw [show -B + (((2 * B + 1).toNat : Nat) : Int) = B + 1 by omega]
theorem Cnt.list {S : Int → Int → Prop} {N : Int} (h : Cnt S N) : CntL S N := by
  obtain ⟨B0, hB⟩ := h
  have e0 := hB (max B0 0) (by omega)
  generalize hb : max B0 0 = B at e0
  have b0 : 0 ≤ B := by omega
  rw [cnt_box S b0] at e0
  refine ⟨_, boxL_nodup S (-B) (-B) (2 * B + 1).toNat (2 * B + 1).toNat, fun x y => ⟨fun z => (boxL_mem.mp z).2.2, fun s => ?_⟩, e0⟩
  apply Classical.byContradiction
  intro no
  generalize hC : max B (max (max x (-x)) (max y (-y))) = C
  have e1 := hB C (by omega)
  rw [cnt_box S (by omega)] at e1
  have nd : ((x, y) :: boxL S (-B) (-B) (2 * B + 1).toNat (2 * B + 1).toNat).Nodup := List.nodup_cons.mpr ⟨no, boxL_nodup _ _ _ _ _⟩
  have le := nodup_le (m := boxL S (-C) (-C) (2 * C + 1).toNat (2 * C + 1).toNat) nd (fun p hp => by
    obtain ⟨u, v⟩ := p
    rcases List.mem_cons.mp hp with z | z
    · cases z
      exact boxL_mem.mpr ⟨by omega, by omega, s⟩
    · have := boxL_mem.mp z
      exact boxL_mem.mpr ⟨by omega, by omega, this.2.2⟩)
  rw [List.length_cons] at le
  omega
/-- as many, where each point has a partner -/
theorem CntL.map {S T : Int → Int → Prop} {N : Int} (h : CntL S N) (f g : Int × Int → Int × Int) (gf : ∀ p, g (f p) = p) (fg : ∀ p, f (g p) = p) (e : ∀ x y, T x y ↔ S (g (x, y)).1 (g (x, y)).2) : CntL T N := by
  obtain ⟨L, nd, m, l⟩ := h
  refine ⟨L.map f, ?_, fun x y => ?_, by rw [List.length_map]; exact l⟩
  · refine List.Pairwise.map _ ?_ nd
    intro a b h z
    exact h (by rw [← gf a, z, gf])
  · rw [List.mem_map, e]
    constructor
    · rintro ⟨p, hp, z⟩
      rw [← z, gf]
      exact (m p.1 p.2).mp hp
    · intro s
      exact ⟨g (x, y), (m _ _).mpr s, fg _⟩
/-- two together, and what both have -/
theorem CntL.both {S T U V : Int → Int → Prop} {N M K J : Int} (hS : CntL S N) (hT : CntL T M) (hU : CntL U K) (hV : CntL V J) (u : ∀ x y, U x y ↔ S x y ∨ T x y) (v : ∀ x y, V x y ↔ S x y ∧ T x y) : N + M = K + J := by
  obtain ⟨L1, n1, m1, e1⟩ := hS
  obtain ⟨L2, n2, m2, e2⟩ := hT
  have nV : CntL V ((L2.filter fun p => cB (S p.1 p.2)).length : Int) := ⟨_, List.Pairwise.filter _ n2, fun x y => by
    rw [List.mem_filter, cB_iff, m2, v]
    exact ⟨fun z => ⟨z.2, z.1⟩, fun z => ⟨z.2, z.1⟩⟩, rfl⟩
  have nU : CntL U ((L1 ++ L2.filter fun p => !cB (S p.1 p.2)).length : Int) := by
    refine ⟨_, List.nodup_append.mpr ⟨n1, List.Pairwise.filter _ n2, fun a ha b hb z => ?_⟩, fun x y => ?_, rfl⟩
    · obtain ⟨b1, b2⟩ := b
      obtain ⟨_, hb2⟩ := List.mem_filter.mp hb
      subst z
      have := (m1 b1 b2).mp ha
      rw [cB_iff.mpr this] at hb2
      cases hb2
    · rw [List.mem_append, List.mem_filter, m1, m2, u]
      constructor
      · rintro (z | ⟨z, _⟩)
        · exact .inl z
        · exact .inr z
      · intro z
        by_cases s : S x y
        · exact .inl s
        · refine .inr ⟨z.resolve_left s, ?_⟩
          rw [cB_f.mpr s]
          rfl
  have a := nV.uniq hV
  have b := nU.uniq hU
  have c : (L2.filter fun p => cB (S p.1 p.2)).length + (L2.filter fun p => !cB (S p.1 p.2)).length = L2.length := by
    clear nV nU a b n2 m2 e2
    induction L2 with
    | nil => rfl
    | cons p l ih =>
      cases h : cB (S p.1 p.2) with
      | true =>
        rw [List.filter_cons_of_pos (p := fun p : Int × Int => cB (S p.1 p.2)) h, List.filter_cons_of_neg (p := fun p : Int × Int => !cB (S p.1 p.2)) (by rw [h]; decide), List.length_cons, List.length_cons]
        omega
      | false =>
        rw [List.filter_cons_of_neg (p := fun p : Int × Int => cB (S p.1 p.2)) (by rw [h]; decide), List.filter_cons_of_pos (p := fun p : Int × Int => !cB (S p.1 p.2)) (by rw [h]; rfl), List.length_cons, List.length_cons]
        omega
  rw [List.length_append] at b
  omega

--@ needs PtsM
/-! rings moved, turned, mirrored, leaned, begun at another corner -/
theorem cor_map {P : List Pt} (f : Pt → Pt) (n0 : 0 < P.length) (k : Nat) : cor (P.map f) k = f (cor P k) := by
  unfold cor
  rw [List.length_map, List.getElem?_map, List.getElem?_eq_getElem (Nat.mod_lt k n0)]
  rfl
theorem RingP.aff {P : List Pt} (R : RingP P) (f : Pt → Pt) (κ : Rat) (h0 : 0 < κ) (h : ∀ p q r, cr (f p) (f q) (f r) = κ * cr p q r) : RingP (P.map f) := by
  have n0 : 0 < P.length := by have := R.1; omega
  refine ⟨by rw [List.length_map]; exact R.1, fun k hk j hj a b => ?_⟩
  rw [List.length_map] at hk hj b
  rw [cor_map f n0, cor_map f n0, cor_map f n0, h]
  exact Rat.mul_pos h0 (R.2 k hk j hj a b)
theorem ins_aff {P : List Pt} (n0 : 0 < P.length) (f : Pt → Pt) (κ : Rat) (h0 : 0 < κ) (h : ∀ p q r, cr (f p) (f q) (f r) = κ * cr p q r) (q : Pt) : InsP (P.map f) (f q) ↔ InsP P q := by
  unfold InsP
  rw [List.length_map]
  constructor
  · intro z k hk
    have := z k hk
    rw [cor_map f n0, cor_map f n0, h] at this
    exact nn_mul h0 this
  · intro z k hk
    rw [cor_map f n0, cor_map f n0, h]
    exact Rat.mul_nonneg (Rat.le_of_lt h0) (z k hk)
theorem cor_rev {P : List Pt} (n0 : 0 < P.length) {k : Nat} (hk : k < P.length) : cor P.reverse k = cor P (P.length - 1 - k) := by
  unfold cor
  rw [List.length_reverse, Nat.mod_eq_of_lt hk, Nat.mod_eq_of_lt (show P.length - 1 - k < P.length by omega), List.getElem?_reverse hk]
theorem cor_rev1 {P : List Pt} (n0 : 0 < P.length) {k : Nat} (hk : k < P.length) : cor P.reverse (k + 1) = cor P (P.length - 1 - k + P.length - 1) := by
  by_cases z : k + 1 < P.length
  · rw [cor_rev n0 z]
    rw [← cor_mod P (P.length - 1 - k + P.length - 1), show P.length - 1 - k + P.length - 1 = (P.length - 1 - (k + 1)) + P.length by omega, Nat.add_mod_right, cor_mod]
  · have e : k + 1 = P.reverse.length := by rw [List.length_reverse]; omega
    have e1 : cor P.reverse (k + 1) = cor P.reverse 0 := by
      rw [← cor_mod P.reverse (k + 1), e, Nat.mod_self]
    rw [e1, cor_rev n0 n0]
    congr 1
    omega
/-- mirrored: the corners the other way about -/
def mir (p : Pt) : Pt := (-p.1, p.2)
theorem mir_cr (p q r : Pt) : cr (mir p) (mir q) (mir r) = cr q p r := by unfold cr mir; grind
theorem RingP.mir {P : List Pt} (R : RingP P) : RingP ((P.map mir).reverse) := by
  have n0 : 0 < P.length := by have := R.1; omega
  have n0' : 0 < (P.map Sd.mir).length := by rw [List.length_map]; exact n0
  have len : (P.map Sd.mir).length = P.length := List.length_map ..
  refine ⟨by rw [List.length_reverse, len]; exact R.1, fun k hk j hj a b => ?_⟩
  rw [List.length_reverse, len] at hk hj b
  rw [cor_rev n0' (by omega), cor_rev1 n0' (by omega), cor_rev n0' (by omega), len, cor_map _ n0, cor_map _ n0, cor_map _ n0, mir_cr]
  have e : P.length - 1 - k + P.length - 1 + 1 = P.length - 1 - k + P.length := by omega
  have p := R.2 ((P.length - 1 - k + P.length - 1) % P.length) (Nat.mod_lt _ n0) (P.length - 1 - j) (by omega) (fun z => b ?_) (fun z => a ?_)
  · rw [cor_mod, cor_succ_mod, e] at p
    rw [← cor_mod P (P.length - 1 - k), ← Nat.add_mod_right (P.length - 1 - k) P.length, cor_mod]
    exact p
  · by_cases c : k + 1 < P.length
    · rw [Nat.mod_eq_of_lt c]
      rw [show P.length - 1 - k + P.length - 1 = (P.length - 1 - (k + 1)) + P.length by omega, Nat.add_mod_right, Nat.mod_eq_of_lt (by omega)] at z
      omega
    · rw [show k + 1 = P.length by omega, Nat.mod_self]
      rw [show P.length - 1 - k + P.length - 1 = P.length - 1 by omega, Nat.mod_eq_of_lt (by omega)] at z
      omega
  · rw [Nat.mod_add_mod, e, Nat.add_mod_right, Nat.mod_eq_of_lt (by omega)] at z
    omega
theorem ins_mir {P : List Pt} (n0 : 0 < P.length) (q : Pt) : InsP ((P.map mir).reverse) (mir q) ↔ InsP P q := by
  have n0' : 0 < (P.map Sd.mir).length := by rw [List.length_map]; exact n0
  have len : (P.map Sd.mir).length = P.length := List.length_map ..
  constructor
  · intro h k hk
    have e := h.all (by rw [List.length_reverse]; exact n0') (P.length - 1 - ((k + 1) % P.length))
    have m := Nat.mod_lt (k + 1) n0
    rw [cor_rev n0' (by omega), cor_rev1 n0' (by omega), len, cor_map _ n0, cor_map _ n0, mir_cr] at e
    rw [show P.length - 1 - (P.length - 1 - (k + 1) % P.length) = (k + 1) % P.length by omega, cor_mod] at e
    have e2 : cor P ((k + 1) % P.length + P.length - 1) = cor P k := by
      by_cases c : k + 1 < P.length
      · rw [Nat.mod_eq_of_lt c, show k + 1 + P.length - 1 = k + P.length by omega, ← cor_mod P (k + P.length), Nat.add_mod_right, cor_mod]
      · rw [show k + 1 = P.length by omega, Nat.mod_self]
        congr 1
        omega
    rw [e2] at e
    exact e
  · intro h k hk
    rw [List.length_reverse, len] at hk
    rw [cor_rev n0' (by omega), cor_rev1 n0' (by omega), len, cor_map _ n0, cor_map _ n0, mir_cr]
    have := h.all n0 (P.length - 1 - k + P.length - 1)
    rw [show P.length - 1 - k + P.length - 1 + 1 = P.length - 1 - k + P.length by omega, ← cor_mod P (P.length - 1 - k + P.length), Nat.add_mod_right, cor_mod] at this
    exact this
theorem ins_rot {P : List Pt} (n0 : 0 < P.length) {t : Nat} (ht : t ≤ P.length) (q : Pt) : InsP (P.drop t ++ P.take t) q ↔ InsP P q := by
  have len : (P.drop t ++ P.take t).length = P.length := by rw [List.length_append, List.length_drop, List.length_take]; omega
  constructor
  · intro h k hk
    have e := h.all (by rw [len]; exact n0) (k + (P.length - t))
    rw [cor_rot ht n0, cor_rot ht n0] at e
    have e1 : cor P (k + (P.length - t) + t) = cor P k := by
      rw [show k + (P.length - t) + t = k + P.length by omega, ← cor_mod P (k + P.length), Nat.add_mod_right, cor_mod]
    have e2 : cor P (k + (P.length - t) + 1 + t) = cor P (k + 1) := by
      rw [show k + (P.length - t) + 1 + t = k + 1 + P.length by omega, ← cor_mod P (k + 1 + P.length), Nat.add_mod_right, cor_mod]
    rw [e1, e2] at e
    exact e
  · intro h k hk
    rw [cor_rot ht n0, cor_rot ht n0, show k + 1 + t = k + t + 1 by omega]
    exact h.all n0 (k + t)

--@ needs RingT
/-! a ring cut by a line between two corners -/
/-- what lies within lies at the left hand of each line that has all corners there -/
theorem RingP.hull {A : List Pt} (R : RingP A) {a b : Pt} (h : ∀ k, 0 ≤ cr a b (cor A k)) {x y : Rat} (i : InsP A (x, y)) : 0 ≤ cr a b (x, y) := by
  have n0 : 0 < A.length := by have := R.1; omega
  obtain ⟨⟨u, hu⟩, v, hv⟩ := R.ins_wide i
  obtain ⟨k, _, k1, k2, k3⟩ := R.low_at hu hv
  obtain ⟨l, _, l1, l2, l3⟩ := R.high_at hu hv
  have hk := i.all n0 k
  have hl := i.all n0 l
  have z0 := cr_onL (a := cor A k) (b := cor A (k + 1)) x (by grind)
  have z1 := cr_onL (a := cor A (l + 1)) (b := cor A l) x (by grind)
  have b0 := cr_between (h k) (h (k + 1)) k1 k2 k3 z0
  have b1 := cr_between (h (l + 1)) (h l) l1 l2 l3 z1
  have m0 := cr_move (p := cor A k) (q := cor A (k + 1)) x y (onL (cor A k) (cor A (k + 1)) x)
  have m1 := cr_move (p := cor A (l + 1)) (q := cor A l) x y (onL (cor A (l + 1)) (cor A l) x)
  generalize onL (cor A k) (cor A (k + 1)) x = y0 at *
  generalize onL (cor A (l + 1)) (cor A l) x = y1 at *
  have g0 : 0 ≤ y - y0 := nn_mul (d := (cor A (k + 1)).1 - (cor A k).1) (by grind) (by rw [m0, z0] at hk; grind)
  have g1 : 0 ≤ y1 - y := nn_mul (d := (cor A l).1 - (cor A (l + 1)).1) (by grind) (by
    have : cr (cor A l) (cor A (l + 1)) (x, y) = -cr (cor A (l + 1)) (cor A l) (x, y) := by unfold cr; grind
    rw [this, m1, z1] at hl; grind)
  by_cases e : y1 - y0 = 0
  · have : y = y0 := by grind
    rw [this]
    exact b0
  · have p : 0 < y1 - y0 := by grind
    refine nn_mul p ?_
    have e2 : (y1 - y0) * cr a b (x, y) = (y1 - y) * cr a b (x, y0) + (y - y0) * cr a b (x, y1) := by unfold cr; grind
    rw [e2]
    have := Rat.mul_nonneg g1 b0
    have := Rat.mul_nonneg g0 b1
    grind
theorem cor_add {P : List Pt} (k : Nat) : cor P (k + P.length) = cor P k := by rw [← cor_mod P (k + P.length), Nat.add_mod_right, cor_mod]
/-- three corners in their order turn to the left -/
theorem RingP.triple {P : List Pt} (R : RingP P) (i : Nat) : ∀ (d s : Nat), 1 ≤ s → s + d + 1 < P.length → 0 < cr (cor P i) (cor P (i + s)) (cor P (i + (s + d + 1))) := by
  have n0 : 0 < P.length := by have := R.1; omega
  have edge : ∀ t, 1 ≤ t → t + 1 < P.length → 0 < cr (cor P i) (cor P (i + t)) (cor P (i + (t + 1))) := fun t h1 h2 => by
    have p := R.2 ((i + t) % P.length) (Nat.mod_lt _ n0) (i % P.length) (Nat.mod_lt _ n0) (fun z => ?_) (fun z => ?_)
    · rw [cor_mod, cor_mod, cor_succ_mod] at p
      have e : cr (cor P i) (cor P (i + t)) (cor P (i + (t + 1))) = cr (cor P (i + t)) (cor P (i + t + 1)) (cor P i) := by rw [show i + (t + 1) = i + t + 1 by omega]; unfold cr; grind
      rw [e]
      exact p
    · have := rot_inj (n := P.length) (i := t) (j := 0) (t := i % P.length) (by omega) (by omega) (by have := Nat.mod_lt i n0; omega) (by rw [Nat.zero_add, Nat.mod_mod, Nat.add_mod_mod, Nat.add_comm t i]; exact z)
      omega
    · have := rot_inj (n := P.length) (i := t + 1) (j := 0) (t := i % P.length) (by omega) (by omega) (by have := Nat.mod_lt i n0; omega) (by rw [Nat.zero_add, Nat.mod_mod, Nat.add_mod_mod, Nat.add_comm (t + 1) i]; rw [z, Nat.mod_add_mod]; congr 1)
      omega
  have first : ∀ t, 2 ≤ t → t < P.length → 0 < cr (cor P i) (cor P (i + 1)) (cor P (i + t)) := fun t h1 h2 => by
    have p := R.2 (i % P.length) (Nat.mod_lt _ n0) ((i + t) % P.length) (Nat.mod_lt _ n0) (fun z => ?_) (fun z => ?_)
    · rw [cor_mod, cor_mod, cor_succ_mod] at p
      exact p
    · have := rot_inj (n := P.length) (i := t) (j := 0) (t := i % P.length) (by omega) (by omega) (by have := Nat.mod_lt i n0; omega) (by rw [Nat.zero_add, Nat.mod_mod, Nat.add_mod_mod, Nat.add_comm t i]; exact z.symm)
      omega
    · have := rot_inj (n := P.length) (i := t) (j := 1) (t := i % P.length) (by omega) (by omega) (by have := Nat.mod_lt i n0; omega) (by rw [Nat.add_mod_mod, Nat.add_mod_mod, Nat.add_comm t i, Nat.add_comm 1 i, z, Nat.mod_add_mod])
      omega
  intro d
  induction d with
  | zero => exact fun s h1 h2 => edge s h1 h2
  | succ d ih =>
    intro s h1 h2
    have a1 := ih s h1 (by omega)
    have a2 := edge (s + d + 1) (by omega) (by omega)
    have a3 := first (s + d + 1) (by omega) (by omega)
    have a4 := first (s + (d + 1) + 1) (by omega) (by omega)
    have a5 : 0 ≤ cr (cor P i) (cor P (i + 1)) (cor P (i + s)) := by
      by_cases z : s = 1
      · rw [z, cr_same2]; decide
      · exact Rat.le_of_lt (first s (by omega) (by omega))
    rw [show s + d + 1 + 1 = s + (d + 1) + 1 by omega] at a2
    generalize cor P i = o at *
    generalize cor P (i + 1) = u at *
    generalize cor P (i + s) = p at *
    generalize cor P (i + (s + d + 1)) = q at *
    generalize cor P (i + (s + (d + 1) + 1)) = r at *
    have e : cr o u q * cr o p r = cr o u p * cr o q r + cr o u r * cr o p q := by unfold cr; grind
    have b1 := Rat.mul_nonneg a5 (Rat.le_of_lt a2)
    have b2 := Rat.mul_pos a4 a1
    have b3 : 0 < cr o u q * cr o p r := by grind
    apply Classical.byContradiction
    intro n
    have : 0 ≤ cr o u q * (-cr o p r) := Rat.mul_nonneg (Rat.le_of_lt a3) (by grind)
    grind
/-- corners 0 to c -/
theorem cor_take {P : List Pt} {c k : Nat} (hc : c < P.length) (hk : k ≤ c) : cor (P.take (c + 1)) k = cor P k := by
  have len : (P.take (c + 1)).length = c + 1 := by rw [List.length_take]; omega
  unfold cor
  rw [len, Nat.mod_eq_of_lt (show k < c + 1 by omega), Nat.mod_eq_of_lt (show k < P.length by omega), List.getElem?_take, if_pos (by omega)]
theorem cor_take_end {P : List Pt} {c : Nat} (hc : c < P.length) : cor (P.take (c + 1)) (c + 1) = cor P 0 := by
  have len : (P.take (c + 1)).length = c + 1 := by rw [List.length_take]; omega
  rw [← cor_mod (P.take (c + 1)) (c + 1), len, Nat.mod_self, cor_take hc (Nat.zero_le _)]
theorem RingP.part {P : List Pt} (R : RingP P) {c : Nat} (c2 : 2 ≤ c) (hc : c < P.length) : RingP (P.take (c + 1)) := by
  have n0 : 0 < P.length := by omega
  have len : (P.take (c + 1)).length = c + 1 := by rw [List.length_take]; omega
  refine ⟨by omega, fun k hk j hj a b => ?_⟩
  rw [len] at hk hj b
  by_cases z : k = c
  · subst z
    rw [Nat.mod_self] at b
    rw [cor_take hc (Nat.le_refl _), cor_take_end hc, cor_take hc (by omega)]
    have t := R.triple 0 (k - j - 1) j (by omega) (by omega)
    rw [Nat.zero_add, Nat.zero_add, show j + (k - j - 1) + 1 = k by omega] at t
    have e : cr (cor P k) (cor P 0) (cor P j) = cr (cor P 0) (cor P j) (cor P k) := by unfold cr; grind
    rw [e]
    exact t
  · rw [Nat.mod_eq_of_lt (by omega)] at b
    rw [cor_take hc (by omega), cor_take hc (by omega), cor_take hc (by omega)]
    exact R.2 k (by omega) j (by omega) a (by rw [Nat.mod_eq_of_lt (by omega)]; exact b)
theorem ins_part {P : List Pt} {c : Nat} (hc : c < P.length) (q : Pt) : InsP (P.take (c + 1)) q ↔ (∀ k, k < c → 0 ≤ cr (cor P k) (cor P (k + 1)) q) ∧ 0 ≤ cr (cor P c) (cor P 0) q := by
  have len : (P.take (c + 1)).length = c + 1 := by rw [List.length_take]; omega
  constructor
  · intro h
    refine ⟨fun k hk => ?_, ?_⟩
    · have := h k (by rw [len]; omega)
      rw [cor_take hc (by omega), cor_take hc (by omega)] at this
      exact this
    · have := h c (by rw [len]; omega)
      rw [cor_take hc (by omega), cor_take_end hc] at this
      exact this
  · rintro ⟨h, e⟩ k hk
    rw [len] at hk
    by_cases z : k = c
    · subst z
      rw [cor_take hc (by omega), cor_take_end hc]
      exact e
    · rw [cor_take hc (by omega), cor_take hc (by omega)]
      exact h k (by omega)
/-- within one part or the other -/
theorem ins_cut {P : List Pt} (R : RingP P) {c : Nat} (c2 : 2 ≤ c) (hc : c + 2 ≤ P.length) {x y : Rat} :
    InsP P (x, y) ↔ InsP (P.take (c + 1)) (x, y) ∨ InsP (P.drop c ++ P.take 1) (x, y) := by
  have n0 : 0 < P.length := by omega
  have lr : (P.drop c ++ P.take c).length = P.length := by rw [List.length_append, List.length_drop, List.length_take]; omega
  have Rr := R.rot (t := c) (by omega)
  have eB : P.drop c ++ P.take 1 = (P.drop c ++ P.take c).take (P.length - c + 1) := by
    rw [List.take_append, List.take_of_length_le (l := P.drop c) (by rw [List.length_drop]; omega), List.length_drop, List.take_take, show P.length - c + 1 - (P.length - c) = 1 by omega, Nat.min_eq_left (by omega)]
  have hB := ins_part (P := P.drop c ++ P.take c) (c := P.length - c) (by omega) (x, y)
  have hA := ins_part (c := c) (by omega : c < P.length) (x, y)
  rw [eB]
  constructor
  · intro h
    by_cases s : 0 ≤ cr (cor P c) (cor P 0) (x, y)
    · exact .inl (hA.mpr ⟨fun k _ => h.all n0 k, s⟩)
    · refine .inr (hB.mpr ⟨fun k _ => ?_, ?_⟩)
      · exact ((ins_rot n0 (by omega) (x, y)).mpr h).all (by omega) k
      · rw [cor_rot (by omega) n0, cor_rot (by omega) n0, Nat.zero_add, show P.length - c + c = 0 + P.length by omega, cor_add]
        have : cr (cor P 0) (cor P c) (x, y) = -cr (cor P c) (cor P 0) (x, y) := by unfold cr; grind
        grind
  · rintro (h | h)
    · intro k hk
      refine (R.part c2 (by omega)).hull (fun j => ?_) h
      have lA : (P.take (c + 1)).length = c + 1 := by rw [List.length_take]; omega
      rw [← cor_mod (P.take (c + 1)) j, lA, cor_take (by omega) (by have := Nat.mod_lt j (show 0 < c + 1 by omega); omega)]
      exact R.weak k _
    · intro k hk
      refine (Rr.part (c := P.length - c) (by omega) (by omega)).hull (fun j => ?_) h
      have lB : ((P.drop c ++ P.take c).take (P.length - c + 1)).length = P.length - c + 1 := by rw [List.length_take]; omega
      rw [← cor_mod ((P.drop c ++ P.take c).take (P.length - c + 1)) j, lB, cor_take (by omega) (by have := Nat.mod_lt j (show 0 < P.length - c + 1 by omega); omega), cor_rot (by omega) n0]
      exact R.weak k _

--@ needs RingC
/-! whole points on a way between two whole points -/
def segS (x0 y0 a b g : Int) (x y : Int) : Prop := ∃ j, 0 ≤ j ∧ j ≤ g ∧ x = x0 + a * j ∧ y = y0 + b * j
theorem seg_cnt {x0 y0 a b g : Int} (g0 : 0 ≤ g) (ne : a ≠ 0 ∨ b ≠ 0) : CntL (segS x0 y0 a b g) (g + 1) := by
  refine ⟨(nsI 0 (g + 1).toNat).map fun j => (x0 + a * j, y0 + b * j), ?_, fun x y => ?_, ?_⟩
  · refine List.Pairwise.map _ ?_ (nsI_nodup 0 (g + 1).toNat)
    intro i j h z
    have z1 : x0 + a * i = x0 + a * j := (Prod.mk.inj z).1
    have z2 : y0 + b * i = y0 + b * j := (Prod.mk.inj z).2
    rcases ne with n | n
    · exact h (Int.eq_of_mul_eq_mul_left n (by omega))
    · exact h (Int.eq_of_mul_eq_mul_left n (by omega))
  · rw [List.mem_map]
    constructor
    · rintro ⟨j, hj, e⟩
      have := nsI_mem.mp hj
      exact ⟨j, by omega, by omega, (Prod.mk.inj e).1.symm, (Prod.mk.inj e).2.symm⟩
    · rintro ⟨j, h0, h1, rfl, rfl⟩
      exact ⟨j, nsI_mem.mpr (by omega), rfl⟩
  · rw [List.length_map, nsI_len]
    omega
theorem cop_line {a b u v : Int} (h : Int.gcd a b = 1) (e : a * v = b * u) : ∃ j, u = a * j ∧ v = b * j := by
  have d : a ∣ b * u := ⟨v, e.symm⟩
  have d2 : a ∣ u := by
    have d3 := Int.dvd_gcd_mul_iff_dvd_mul.mpr d
    rw [h] at d3
    rw [show ((1 : Nat) : Int) * u = u by omega] at d3
    exact d3
  obtain ⟨j, rfl⟩ := d2
  by_cases z : a = 0
  · subst z
    have hb : b.natAbs = 1 := by
      have : Int.gcd 0 b = b.natAbs := Int.gcd_zero_left b
      omega
    have bb : b = 1 ∨ b = -1 := by omega
    refine ⟨b * v, by rw [Int.zero_mul, Int.zero_mul], ?_⟩
    rcases bb with rfl | rfl
    · omega
    · omega
  · refine ⟨j, rfl, Int.eq_of_mul_eq_mul_left z ?_⟩
    rw [e]
    grind
theorem gcd_parts (dx dy : Int) (ne : dx ≠ 0 ∨ dy ≠ 0) : ∃ a b : Int, dx = a * (Int.gcd dx dy : Int) ∧ dy = b * (Int.gcd dx dy : Int) ∧ Int.gcd a b = 1 ∧ 0 < (Int.gcd dx dy : Int) := by
  have g0 : 0 < (Int.gcd dx dy : Int) := by
    have : 0 < Int.gcd dx dy := by
      rcases ne with n | n
      · exact Int.gcd_pos_of_ne_zero_left dy n
      · exact Int.gcd_pos_of_ne_zero_right dx n
    omega
  exact ⟨dx / (Int.gcd dx dy : Int), dy / (Int.gcd dx dy : Int), (Int.ediv_mul_cancel (Int.gcd_dvd_left dx dy)).symm, (Int.ediv_mul_cancel (Int.gcd_dvd_right dx dy)).symm, Int.gcd_ediv_gcd_ediv_gcd (by omega), g0⟩
/-- a point on the way, as seen from any line -/
theorem cr_seg {u v : Pt} {x0 y0 a b g j : Rat} (x1 y1 : Rat) (e1 : x1 = x0 + a * g) (e2 : y1 = y0 + b * g) : g * cr u v (x0 + a * j, y0 + b * j) = (g - j) * cr u v (x0, y0) + j * cr u v (x1, y1) := by
  subst e1 e2
  unfold cr
  grind
theorem cut_count {P : List Pt} (R : RingP P) {c : Nat} (c2 : 2 ≤ c) (hc : c + 2 ≤ P.length) {x0 y0 x1 y1 : Int} (e0 : cor P 0 = ((x0 : Rat), (y0 : Rat))) (e1 : cor P c = ((x1 : Rat), (y1 : Rat))) {N M L : Int}
    (hA : CntL (fun x y => InsP (P.take (c + 1)) ((x : Rat), (y : Rat))) N) (hB : CntL (fun x y => InsP (P.drop c ++ P.take 1) ((x : Rat), (y : Rat))) M) (hP : CntL (fun x y => InsP P ((x : Rat), (y : Rat))) L) : N + M = L + ((Int.gcd (x1 - x0) (y1 - y0) : Int) + 1) := by
  have n0 : 0 < P.length := by omega
  have hBi := fun q => ins_part (P := P.drop c ++ P.take c) (c := P.length - c) (by rw [List.length_append, List.length_drop, List.length_take]; omega) q
  have hAi := fun q => ins_part (c := c) (by omega : c < P.length) q
  have eB : P.drop c ++ P.take 1 = (P.drop c ++ P.take c).take (P.length - c + 1) := by
    rw [List.take_append, List.take_of_length_le (l := P.drop c) (by rw [List.length_drop]; omega), List.length_drop, List.take_take, show P.length - c + 1 - (P.length - c) = 1 by omega, Nat.min_eq_left (by omega)]
  have rB : ∀ k, cor (P.drop c ++ P.take c) k = cor P (k + c) := fun k => cor_rot (by omega) n0 k
  -- the edges at the two ends
  have f1 : 0 < cr (cor P 0) (cor P 1) (cor P c) := by
    have := R.2 0 n0 c (by omega) (by omega) (by rw [Nat.mod_eq_of_lt (by omega)]; omega)
    exact this
  have f2 : 0 < cr (cor P (c - 1)) (cor P c) (cor P 0) := by
    have := R.2 (c - 1) (by omega) 0 n0 (by omega) (by rw [Nat.mod_eq_of_lt (by omega)]; omega)
    rw [show c - 1 + 1 = c by omega] at this
    exact this
  have ne : x1 - x0 ≠ 0 ∨ y1 - y0 ≠ 0 := by
    apply Classical.byContradiction
    intro no
    have hx : x1 = x0 := by omega
    have hy : y1 = y0 := by omega
    rw [e1, hx, hy, ← e0, cr_same1] at f1
    exact absurd f1 (by decide)
  obtain ⟨a, b, ha, hb, hg, g0⟩ := gcd_parts (x1 - x0) (y1 - y0) ne
  generalize hG : (Int.gcd (x1 - x0) (y1 - y0) : Int) = g at *
  have gp : (0 : Rat) < (g : Rat) := cast_pos g0
  have ex1 : (x1 : Rat) = (x0 : Rat) + (a : Rat) * (g : Rat) := by rw [← Rat.intCast_mul, ← Rat.intCast_add]; congr 1; omega
  have ey1 : (y1 : Rat) = (y0 : Rat) + (b : Rat) * (g : Rat) := by rw [← Rat.intCast_mul, ← Rat.intCast_add]; congr 1; omega
  refine CntL.both hA hB hP (seg_cnt (x0 := x0) (y0 := y0) (a := a) (b := b) (by omega) (by
    apply Classical.byContradiction
    intro no
    have h1 : a = 0 := Classical.byContradiction fun z => no (.inl z)
    have h2 : b = 0 := Classical.byContradiction fun z => no (.inr z)
    subst h1 h2
    exact absurd hg (by decide))) (fun x y => ins_cut R c2 hc) (fun x y => ?_)
  have seg : ∀ (u v : Pt) (j : Int), (g : Rat) * cr u v (((x0 + a * j : Int) : Rat), ((y0 + b * j : Int) : Rat)) = ((g - j : Int) : Rat) * cr u v (cor P 0) + (j : Rat) * cr u v (cor P c) := fun u v j => by
    rw [e0, e1, Rat.intCast_add, Rat.intCast_add, Rat.intCast_mul, Rat.intCast_mul, Rat.intCast_sub]
    exact cr_seg _ _ ex1 ey1
  constructor
  · rintro ⟨j, j0, jg, rfl, rfl⟩
    have gj : (0 : Rat) ≤ ((g - j : Int) : Rat) := cast_nonneg.mpr (by omega)
    have jj : (0 : Rat) ≤ (j : Rat) := cast_nonneg.mpr j0
    have nn : ∀ (u v : Pt), 0 ≤ cr u v (cor P 0) → 0 ≤ cr u v (cor P c) → 0 ≤ cr u v (((x0 + a * j : Int) : Rat), ((y0 + b * j : Int) : Rat)) := fun u v h1 h2 => by
      refine nn_mul gp ?_
      rw [seg]
      have := Rat.mul_nonneg gj h1
      have := Rat.mul_nonneg jj h2
      grind
    refine ⟨(hAi _).mpr ⟨fun k _ => nn _ _ (R.weak k 0) (R.weak k c), nn _ _ ?_ ?_⟩, ?_⟩
    · rw [cr_same2]; decide
    · rw [cr_same1]; decide
    · show InsP (P.drop c ++ P.take 1) _
      rw [eB]
      refine (hBi _).mpr ⟨fun k _ => ?_, ?_⟩
      · rw [rB, rB, show k + 1 + c = k + c + 1 by omega]
        exact nn _ _ (R.weak _ 0) (R.weak _ c)
      · rw [rB, rB, Nat.zero_add, show P.length - c + c = 0 + P.length by omega, cor_add]
        exact nn _ _ (by rw [cr_same1]; decide) (by rw [cr_same2]; decide)
  · rintro ⟨hA, hB⟩
    have hB : InsP (P.drop c ++ P.take 1) ((x : Rat), (y : Rat)) := hB
    rw [eB] at hB
    obtain ⟨a1, a2⟩ := (hAi _).mp hA
    obtain ⟨b1, b2⟩ := (hBi _).mp hB
    rw [rB, rB, Nat.zero_add, show P.length - c + c = 0 + P.length by omega, cor_add] at b2
    have z : cr (cor P 0) (cor P c) ((x : Rat), (y : Rat)) = 0 := by
      have : cr (cor P 0) (cor P c) ((x : Rat), (y : Rat)) = -cr (cor P c) (cor P 0) ((x : Rat), (y : Rat)) := by unfold cr; grind
      grind
    have zi : (x1 - x0) * (y - y0) - (y1 - y0) * (x - x0) = 0 := by
      have e : cr (cor P 0) (cor P c) ((x : Rat), (y : Rat)) = (((x1 - x0) * (y - y0) - (y1 - y0) * (x - x0) : Int) : Rat) := by
        rw [e0, e1]
        unfold cr
        simp only [Rat.intCast_sub, Rat.intCast_mul]
      rw [e] at z
      have : (((x1 - x0) * (y - y0) - (y1 - y0) * (x - x0) : Int) : Rat) = ((0 : Int) : Rat) := z
      exact Rat.intCast_inj.mp this
    have line : a * (y - y0) = b * (x - x0) := by
      rw [ha, hb] at zi
      refine Int.eq_of_mul_eq_mul_left (show g ≠ 0 by omega) ?_
      grind
    obtain ⟨j, hj1, hj2⟩ := cop_line hg line
    have hx : x = x0 + a * j := by omega
    have hy : y = y0 + b * j := by omega
    subst hx hy
    have s1 := seg (cor P 0) (cor P 1) j
    have s2 := seg (cor P (c - 1)) (cor P c) j
    have i1 := a1 0 (by omega)
    have i2 := a1 (c - 1) (by omega)
    rw [show c - 1 + 1 = c by omega] at i2
    rw [cr_same1] at s1
    rw [cr_same2] at s2
    refine ⟨j, ?_, ?_, rfl, rfl⟩
    · have : 0 ≤ (j : Rat) := by
        apply Classical.byContradiction
        intro n
        have h1 : 0 ≤ (g : Rat) * cr (cor P 0) (cor P 1) (((x0 + a * j : Int) : Rat), ((y0 + b * j : Int) : Rat)) := Rat.mul_nonneg (Rat.le_of_lt gp) i1
        have h2 : 0 < (-(j : Rat)) * cr (cor P 0) (cor P 1) (cor P c) := Rat.mul_pos (by grind) f1
        grind
      exact cast_nonneg.mp this
    · have : (0 : Rat) ≤ ((g - j : Int) : Rat) := by
        apply Classical.byContradiction
        intro n
        have h1 : 0 ≤ (g : Rat) * cr (cor P (c - 1)) (cor P c) (((x0 + a * j : Int) : Rat), ((y0 + b * j : Int) : Rat)) := Rat.mul_nonneg (Rat.le_of_lt gp) i2
        have h2 : 0 < (-((g - j : Int) : Rat)) * cr (cor P (c - 1)) (cor P c) (cor P 0) := Rat.mul_pos (by grind) f2
        grind
      have := cast_nonneg.mp this
      omega

--@ needs Sum
--@ needs Gcd
/-! turned stairs, sums over a period -/
/-- the heights over n places and the turned places fill the rectangle -/
theorem fs_rect {a b m : Int} (ha : 0 < a) (hm : 0 < m) (n : Nat) (n0 : 0 < n) :
    fs n a b m = (a * ((n : Int) - 1) + b) / m * n - fs ((a * ((n : Int) - 1) + b) / m - b / m).toNat m (m * (b / m + 1) + (a - 1 - b)) a := by
  obtain ⟨L, rfl⟩ : ∃ L, n = L + 1 := ⟨n - 1, by omega⟩
  have c1 : ((L + 1 : Nat) : Int) - 1 = L := by omega
  rw [c1]
  have s0 := Int.emod_nonneg b (show m ≠ 0 by omega)
  have s1 := Int.emod_lt_of_pos b hm
  have eb := Int.emod_add_mul_ediv b m
  have e1 : fs (L + 1) a b m = fs (L + 1) a (b % m) m + b / m * ((L + 1 : Nat) : Int) := by
    rw [← fs_b (L + 1) a (b % m) (b / m) hm, Int.mul_comm (b / m) m, eb]
  have e2 : (a * (L : Int) + b) / m = (a * (L : Int) + b % m) / m + b / m := by
    rw [show a * (L : Int) + b = (a * L + b % m) + m * (b / m) by omega, Int.add_mul_ediv_left _ _ (by omega : m ≠ 0)]
  rw [e1, fs_quick (b % m) (by omega) s0 s1 L, e2]
  generalize hy : (a * (L : Int) + b % m) / m = y
  generalize hf : b / m = f at *
  have y0 : 0 ≤ y := by
    rw [← hy]
    have := Int.mul_nonneg (show 0 ≤ a by omega) (show (0 : Int) ≤ L by omega)
    exact Int.ediv_nonneg (by omega) (by omega)
  rw [show y + f - f = y by omega]
  have e3 : fs y.toNat m (m * (f + 1) + (a - 1 - b)) a = fs y.toNat m (m - b % m - 1) a + y := by
    have h := fs_b y.toNat m (m - b % m - 1) 1 ha
    rw [show ((y.toNat : Nat) : Int) = y by omega] at h
    rw [show m * (f + 1) + (a - 1 - b) = m - b % m - 1 + 1 * a by grind, h]
    omega
  rw [e3, show ((L + 1 : Nat) : Int) = (L : Int) + 1 from rfl, Int.add_mul y f, Int.mul_add y, Int.mul_add f, Int.mul_comm (L : Int) y]
  omega
theorem ls_fs (n : Nat) (a b c : Int) {m : Int} (hm : 0 < m) : fs n (lsA a m) (lsA a m * c + lsB a b m) (lsM a m) = fs n a (a * c + b) m := by
  unfold fs
  refine sm_congr fun i _ => ?_
  show (lsA a m * (i : Int) + (lsA a m * c + lsB a b m)) / lsM a m = (a * (i : Int) + (a * c + b)) / m
  rw [← Int.add_assoc, ← Int.mul_add, ls_height a b _ hm, Int.mul_add, Int.add_assoc]
/-- places with no rest -/
def indT (M k : Int) : Int := if k % M = 0 then 1 else 0
theorem sm_ind {M : Int} (hM : 0 < M) : sm (fun k => indT M k) M.toNat = 1 := by
  obtain ⟨K, rfl⟩ : ∃ K : Nat, M = (K : Int) + 1 := ⟨(M - 1).toNat, by omega⟩
  rw [show ((K : Int) + 1).toNat = K + 1 by omega, sm_first, sm_congr (g := fun _ => 0) (fun i hi => ?_), sm_const]
  · unfold indT
    rw [if_pos (by simp)]
    omega
  · show indT ((K : Int) + 1) ((i + 1 : Nat) : Int) = 0
    unfold indT
    rw [if_neg]
    rw [Int.emod_eq_of_lt (by omega) (by omega)]
    omega
theorem sm_ind_g {M : Int} (hM : 0 < M) : ∀ g : Nat, sm (fun k => indT M k) (g * M.toNat) = g
  | 0 => by
    rw [Nat.zero_mul]
    rfl
  | g + 1 => by
    rw [Nat.add_mul, Nat.one_mul, sm_add, sm_ind_g hM g, sm_congr (g := fun k => indT M k) (fun i _ => ?_), sm_ind hM]
    · omega
    · show indT M ((g * M.toNat + i : Nat) : Int) = indT M i
      unfold indT
      rw [show ((g * M.toNat + i : Nat) : Int) = (i : Int) + M * g by
        rw [Int.natCast_add, Int.natCast_mul, show ((M.toNat : Nat) : Int) = M by omega, Int.mul_comm]
        omega, Int.add_mul_emod_self_left]
theorem mod_zero_iff {a m : Int} (hm : 0 < m) (k : Int) : (a * k % m = 0) ↔ (k % lsM a m = 0) := by
  have g := gcd_pos (a := a) hm
  have M0 := lsM_pos (a := a) hm
  constructor
  · intro h
    by_cases z : k % lsM a m = 0
    · exact z
    · exfalso
      have r0 := Int.emod_nonneg k (show lsM a m ≠ 0 by omega)
      have r1 := Int.emod_lt_of_pos k M0
      refine cop_no (ls_cop hm) (show 0 < k % lsM a m by omega) r1 ?_
      have e := Int.emod_add_mul_ediv k (lsM a m)
      have h2 : lsA a m * k % lsM a m = 0 := by
        have ea := lsA_mul a m
        have em := lsM_mul a m
        refine Int.emod_eq_zero_of_dvd ?_
        have d := Int.dvd_of_emod_eq_zero h
        generalize lsA a m = A at *
        generalize lsM a m = M at *
        generalize (Int.gcd a m : Int) = G at *
        subst ea em
        rw [show A * G * k = A * k * G by grind] at d
        exact Int.dvd_of_mul_dvd_mul_right (by omega) d
      rw [← e, Int.mul_add, ← Int.mul_assoc, Int.mul_comm (lsA a m) (lsM a m), Int.mul_assoc, Int.add_mul_emod_self_left] at h2
      exact h2
  · intro h
    refine Int.emod_eq_zero_of_dvd ?_
    have d := Int.dvd_of_emod_eq_zero h
    have ea := lsA_mul a m
    have em := lsM_mul a m
    generalize lsA a m = A at *
    generalize lsM a m = M at *
    generalize (Int.gcd a m : Int) = G at *
    subst ea em
    obtain ⟨c, rfl⟩ := d
    exact ⟨A * c, by grind⟩
/-- the sum over a period without a begin -/
theorem fs_period {a m : Int} (hm : 0 < m) : 2 * fs m.toNat a 0 m = (a - 1) * (m - 1) + (Int.gcd a m : Int) - 1 := by
  obtain ⟨K, rfl⟩ : ∃ K : Nat, m = (K : Int) + 1 := ⟨(m - 1).toNat, by omega⟩
  rw [show ((K : Int) + 1).toNat = K + 1 by omega]
  have e1 : fs (K + 1) a 0 ((K : Int) + 1) = sm (fun i => a * ((i + 1 : Nat) : Int) / ((K : Int) + 1)) K := by
    unfold fs
    rw [sm_first]
    show (a * ((0 : Nat) : Int) + 0) / ((K : Int) + 1) + _ = _
    rw [show a * ((0 : Nat) : Int) + 0 = 0 by simp, Int.zero_ediv, Int.zero_add]
    exact sm_congr fun i _ => by rw [Int.add_zero]
  have e2 : sm (fun i => a * ((i + 1 : Nat) : Int) / ((K : Int) + 1)) K = sm (fun i => a * ((K : Int) - i) / ((K : Int) + 1)) K := by
    rw [sm_rev]
    refine sm_congr fun i hi => ?_
    show a * ((K - 1 - i + 1 : Nat) : Int) / ((K : Int) + 1) = a * ((K : Int) - i) / ((K : Int) + 1)
    rw [show ((K - 1 - i + 1 : Nat) : Int) = (K : Int) - i by omega]
  have e3 : ∀ i : Nat, i < K → a * ((i + 1 : Nat) : Int) / ((K : Int) + 1) + a * ((K : Int) - i) / ((K : Int) + 1) = (a - 1) + indT (lsM a ((K : Int) + 1)) ((i + 1 : Nat) : Int) := by
    intro i hi
    have hm' : ((K : Int) + 1) ≠ 0 := by omega
    have c : a * ((K : Int) - i) = (((K : Int) + 1) - 1) - a * ((i + 1 : Nat) : Int) + ((K : Int) + 1) * (a - 1) + 1 := by
      rw [show ((i + 1 : Nat) : Int) = (i : Int) + 1 from rfl, Int.mul_sub, Int.mul_add a, Int.add_mul _ _ (a - 1), Int.mul_sub, Int.mul_comm (K : Int) a]
      omega
    unfold indT
    have eq := Int.emod_add_mul_ediv (a * ((i + 1 : Nat) : Int)) ((K : Int) + 1)
    have r0 := Int.emod_nonneg (a * ((i + 1 : Nat) : Int)) hm'
    have r1 := Int.emod_lt_of_pos (a * ((i + 1 : Nat) : Int)) hm
    generalize hz : a * ((i + 1 : Nat) : Int) = z at *
    by_cases hr : z % ((K : Int) + 1) = 0
    · rw [if_pos (by rw [← hz] at hr; exact (mod_zero_iff hm _).mp hr)]
      have : a * ((K : Int) - i) / ((K : Int) + 1) = a - z / ((K : Int) + 1) := by
        refine ediv_is hm ?_ ?_
        · rw [c]
          grind
        · rw [c]
          grind
      omega
    · rw [if_neg (fun h => hr (by rw [← hz]; exact (mod_zero_iff hm _).mpr h))]
      have : a * ((K : Int) - i) / ((K : Int) + 1) = a - 1 - z / ((K : Int) + 1) := by
        refine ediv_is hm ?_ ?_
        · rw [c]
          grind
        · rw [c]
          grind
      omega
  have e4 : sm (fun i => indT (lsM a ((K : Int) + 1)) ((i + 1 : Nat) : Int)) K = (Int.gcd a ((K : Int) + 1) : Int) - 1 := by
    have M0 := lsM_pos (a := a) hm
    have h := sm_ind_g M0 (Int.gcd a ((K : Int) + 1))
    have em := lsM_mul a ((K : Int) + 1)
    have en : Int.gcd a ((K : Int) + 1) * (lsM a ((K : Int) + 1)).toNat = K + 1 := by
      have : ((Int.gcd a ((K : Int) + 1) * (lsM a ((K : Int) + 1)).toNat : Nat) : Int) = (K : Int) + 1 := by
        rw [Int.natCast_mul, show (((lsM a ((K : Int) + 1)).toNat : Nat) : Int) = lsM a ((K : Int) + 1) by omega, Int.mul_comm]
        exact em
      omega
    rw [en, sm_first] at h
    have i0 : indT (lsM a ((K : Int) + 1)) ((0 : Nat) : Int) = 1 := by
      unfold indT
      rw [if_pos (by simp)]
    rw [i0] at h
    omega
  have e5 : 2 * sm (fun i => a * ((i + 1 : Nat) : Int) / ((K : Int) + 1)) K = (a - 1) * K + ((Int.gcd a ((K : Int) + 1) : Int) - 1) := by
    rw [show (2 : Int) * sm (fun i => a * ((i + 1 : Nat) : Int) / ((K : Int) + 1)) K = sm (fun i => a * ((i + 1 : Nat) : Int) / ((K : Int) + 1)) K + sm (fun i => a * ((i + 1 : Nat) : Int) / ((K : Int) + 1)) K by omega]
    rw (occs := [2]) [e2]
    rw [← sm_plus, sm_congr e3, sm_plus, sm_const, e4]
  rw [e1, e5]
  rw [show (K : Int) + 1 - 1 = K by omega]
  omega

--@ needs RingG Turned
/-! whole corners: how many whole points there are, by area and rim -/
theorem mod_ne {n k j : Nat} (n3 : 3 ≤ n) (hk : k < n) (hj : j < n) (h1 : k = (j + 1) % n) (h2 : j = (k + 1) % n) : False := by
  by_cases a : j + 1 < n <;> by_cases b : k + 1 < n
  · rw [Nat.mod_eq_of_lt a] at h1
    rw [Nat.mod_eq_of_lt b] at h2
    omega
  · rw [Nat.mod_eq_of_lt a] at h1
    rw [show k + 1 = n by omega, Nat.mod_self] at h2
    omega
  · rw [Nat.mod_eq_of_lt b] at h2
    rw [show j + 1 = n by omega, Nat.mod_self] at h1
    omega
  · rw [show j + 1 = n by omega, Nat.mod_self] at h1
    rw [show k + 1 = n by omega, Nat.mod_self] at h2
    omega
/-- a corner on an edge's line is one of its ends -/
theorem RingP.on_edge {P : List Pt} (R : RingP P) {j k : Nat} (hj : j < P.length) (hk : k < P.length) (h : cr (cor P j) (cor P (j + 1)) (cor P k) = 0) : k = j ∨ k = (j + 1) % P.length := by
  apply Classical.byContradiction
  intro no
  have := R.2 j hj k hk (fun z => no (.inl z)) (fun z => no (.inr z))
  rw [h] at this
  exact absurd this (by decide)
/-- just one lower edge over each x, its end left out -/
theorem RingP.low_one {P : List Pt} (R : RingP P) {x : Rat} {k j : Nat} (hk : k < P.length) (hj : j < P.length) (k1 : (cor P k).1 ≤ x) (k2 : x < (cor P (k + 1)).1) (j1 : (cor P j).1 ≤ x) (j2 : x < (cor P (j + 1)).1) : k = j := by
  have side : ∀ {k j : Nat}, k < P.length → j < P.length → (cor P k).1 ≤ x → x < (cor P (k + 1)).1 → (cor P j).1 ≤ x → x < (cor P (j + 1)).1 → k = j ∨ k = (j + 1) % P.length := by
    intro k j hk hj k1 k2 j1 j2
    have zk := cr_onL (a := cor P k) (b := cor P (k + 1)) x (by grind)
    have zj := cr_onL (a := cor P j) (b := cor P (j + 1)) x (by grind)
    have bk := cr_between (R.weak j k) (R.weak j (k + 1)) k1 (Rat.le_of_lt k2) (by grind) zk
    have bj := cr_between (R.weak k j) (R.weak k (j + 1)) j1 (Rat.le_of_lt j2) (by grind) zj
    have mk := cr_move (p := cor P k) (q := cor P (k + 1)) x (onL (cor P j) (cor P (j + 1)) x) (onL (cor P k) (cor P (k + 1)) x)
    have mj := cr_move (p := cor P j) (q := cor P (j + 1)) x (onL (cor P k) (cor P (k + 1)) x) (onL (cor P j) (cor P (j + 1)) x)
    rw [zk] at mk
    rw [zj] at mj
    have e1 : ((cor P (k + 1)).1 - x) * cr (cor P j) (cor P (j + 1)) (cor P k) + (x - (cor P k).1) * cr (cor P j) (cor P (j + 1)) (cor P (k + 1)) = ((cor P (k + 1)).1 - (cor P k).1) * cr (cor P j) (cor P (j + 1)) (x, onL (cor P k) (cor P (k + 1)) x) - ((cor P (j + 1)).1 - (cor P j).1) * cr (cor P k) (cor P (k + 1)) (x, onL (cor P k) (cor P (k + 1)) x) := by
      unfold cr; grind
    rw [zk] at e1
    generalize onL (cor P k) (cor P (k + 1)) x = y0 at *
    generalize onL (cor P j) (cor P (j + 1)) x = y1 at *
    have s0 : 0 ≤ y0 - y1 := nn_mul (d := (cor P (j + 1)).1 - (cor P j).1) (by grind) (by rw [mj] at bk; grind)
    have s1 : 0 ≤ y1 - y0 := nn_mul (d := (cor P (k + 1)).1 - (cor P k).1) (by grind) (by rw [mk] at bj; grind)
    have ey : y0 - y1 = 0 := by grind
    rw [ey] at mj
    have zz : cr (cor P j) (cor P (j + 1)) (x, y0) = 0 := by grind
    rw [zz] at e1
    have w1 := R.weak j k
    have w2 := R.weak j (k + 1)
    have t2 : 0 ≤ (x - (cor P k).1) * cr (cor P j) (cor P (j + 1)) (cor P (k + 1)) := Rat.mul_nonneg (by grind) w2
    refine R.on_edge hj hk ?_
    apply Classical.byContradiction
    intro n
    have t1 : 0 < ((cor P (k + 1)).1 - x) * cr (cor P j) (cor P (j + 1)) (cor P k) := Rat.mul_pos (by grind) (by grind)
    grind
  rcases side hk hj k1 k2 j1 j2 with h | h
  · exact h
  · rcases side hj hk j1 j2 k1 k2 with h' | h'
    · exact h'.symm
    · exact (mod_ne R.1 hk hj h h').elim
/-- and just one upper edge -/
theorem RingP.high_uniq {P : List Pt} (R : RingP P) {x : Rat} {k j : Nat} (hk : k < P.length) (hj : j < P.length) (k1 : (cor P (k + 1)).1 ≤ x) (k2 : x < (cor P k).1) (j1 : (cor P (j + 1)).1 ≤ x) (j2 : x < (cor P j).1) : k = j := by
  have side : ∀ {k j : Nat}, k < P.length → j < P.length → (cor P (k + 1)).1 ≤ x → x < (cor P k).1 → (cor P (j + 1)).1 ≤ x → x < (cor P j).1 → (k + 1) % P.length = j ∨ (k + 1) % P.length = (j + 1) % P.length := by
    intro k j hk hj k1 k2 j1 j2
    have zk := cr_onL (a := cor P (k + 1)) (b := cor P k) x (by grind)
    have zj := cr_onL (a := cor P (j + 1)) (b := cor P j) x (by grind)
    have bk := cr_between (R.weak j (k + 1)) (R.weak j k) k1 (Rat.le_of_lt k2) (by grind) zk
    have bj := cr_between (R.weak k (j + 1)) (R.weak k j) j1 (Rat.le_of_lt j2) (by grind) zj
    have mk := cr_move (p := cor P (k + 1)) (q := cor P k) x (onL (cor P (j + 1)) (cor P j) x) (onL (cor P (k + 1)) (cor P k) x)
    have mj := cr_move (p := cor P (j + 1)) (q := cor P j) x (onL (cor P (k + 1)) (cor P k) x) (onL (cor P (j + 1)) (cor P j) x)
    rw [zk] at mk
    rw [zj] at mj
    have sw : ∀ a b q, cr a b q = -cr b a q := fun a b q => by unfold cr; grind
    have e1 : ((cor P k).1 - x) * cr (cor P j) (cor P (j + 1)) (cor P (k + 1)) + (x - (cor P (k + 1)).1) * cr (cor P j) (cor P (j + 1)) (cor P k) = ((cor P k).1 - (cor P (k + 1)).1) * cr (cor P j) (cor P (j + 1)) (x, onL (cor P (k + 1)) (cor P k) x) - ((cor P (j + 1)).1 - (cor P j).1) * cr (cor P (k + 1)) (cor P k) (x, onL (cor P (k + 1)) (cor P k) x) := by
      unfold cr; grind
    rw [zk] at e1
    rw [sw (cor P j)] at bk
    rw [sw (cor P k)] at bj
    have zz' := sw (cor P j) (cor P (j + 1)) (x, onL (cor P (k + 1)) (cor P k) x)
    generalize onL (cor P (k + 1)) (cor P k) x = y0 at *
    generalize onL (cor P (j + 1)) (cor P j) x = y1 at *
    have s0 : 0 ≤ y1 - y0 := nn_mul (d := (cor P j).1 - (cor P (j + 1)).1) (by grind) (by rw [mj] at bk; grind)
    have s1 : 0 ≤ y0 - y1 := nn_mul (d := (cor P k).1 - (cor P (k + 1)).1) (by grind) (by rw [mk] at bj; grind)
    have ey : y0 - y1 = 0 := by grind
    rw [ey] at mj
    have zz : cr (cor P j) (cor P (j + 1)) (x, y0) = 0 := by grind
    rw [zz] at e1
    have w1 := R.weak j (k + 1)
    have w2 := R.weak j k
    have t2 : 0 ≤ (x - (cor P (k + 1)).1) * cr (cor P j) (cor P (j + 1)) (cor P k) := Rat.mul_nonneg (by grind) w2
    have n0 : 0 < P.length := by omega
    have o := R.on_edge hj (Nat.mod_lt (k + 1) n0) (by
      rw [cor_mod]
      apply Classical.byContradiction
      intro n
      have t1 : 0 < ((cor P k).1 - x) * cr (cor P j) (cor P (j + 1)) (cor P (k + 1)) := Rat.mul_pos (by grind) (by grind)
      grind)
    exact o
  have n3 := R.1
  have inj : ∀ {k j : Nat}, k < P.length → j < P.length → (k + 1) % P.length = (j + 1) % P.length → k = j := fun hk hj h => rot_inj (t := 1) hk hj (by omega) h
  rcases side hk hj k1 k2 j1 j2 with h | h
  · rcases side hj hk j1 j2 k1 k2 with h' | h'
    · exact (mod_ne n3 hk hj h'.symm h.symm).elim
    · exact (inj hj hk h').symm
  · exact inj hk hj h
/-! sums -/
theorem sm_zero' {f : Nat → Int} {n : Nat} (h : ∀ i, i < n → f i = 0) : sm f n = 0 := by
  rw [sm_congr (g := fun _ => 0) h, sm_const, Int.zero_mul]
theorem sm_one {f : Nat → Int} {n k : Nat} (hk : k < n) (h : ∀ i, i < n → i ≠ k → f i = 0) : sm f n = f k := by
  induction n with
  | zero => omega
  | succ n ih =>
    show sm f n + f n = f k
    by_cases z : k = n
    · subst z
      rw [sm_zero' fun i hi => h i (by omega) (by omega)]
      omega
    · rw [ih (by omega) fun i hi ne => h i (by omega) ne, h n (by omega) (fun e => z e.symm)]
      omega
theorem sm_swap (f : Nat → Nat → Int) (m : Nat) : ∀ n : Nat, sm (fun i => sm (fun j => f i j) m) n = sm (fun j => sm (fun i => f i j) n) m
  | 0 => by
    show 0 = sm (fun j => 0) m
    rw [sm_const, Int.zero_mul]
  | n + 1 => by
    show sm (fun i => sm (fun j => f i j) m) n + sm (fun j => f n j) m = sm (fun j => sm (fun i => f i j) n + f n j) m
    rw [sm_swap f m n, sm_plus]
theorem sr_swap (f : Int → Nat → Int) (m : Nat) (lo hi : Int) : sr (fun x => sm (fun k => f x k) m) lo hi = sm (fun k => sr (fun x => f x k) lo hi) m := by
  unfold sr
  exact sm_swap (fun i k => f (lo + i) k) m _
theorem sm_round (f : Nat → Int) {n : Nat} (h : f n = f 0) : sm (fun k => f (k + 1)) n = sm f n := by
  have := sm_first (f := f) n
  have e : sm f (n + 1) = sm f n + f n := rfl
  omega

--@ needs RingK
/-! Pick's count, where no edge stands upright -/
structure ZR (P : List Pt) (px py : Nat → Int) : Prop where
  R : RingP P
  e : ∀ k, cor P k = ((px k : Rat), (py k : Rat))
theorem ZR.per {P : List Pt} {px py : Nat → Int} (Z : ZR P px py) (k : Nat) : px (k + P.length) = px k ∧ py (k + P.length) = py k := by
  have h := cor_add (P := P) k
  rw [Z.e, Z.e] at h
  exact ⟨Rat.intCast_inj.mp (Prod.mk.inj h).1, Rat.intCast_inj.mp (Prod.mk.inj h).2⟩
def ceilE (px py : Nat → Int) (k : Nat) (x : Int) : Int := 0 - (0 - ((py (k + 1) - py k) * x + (py k * (px (k + 1) - px k) - (py (k + 1) - py k) * px k))) / (px (k + 1) - px k)
def florE (px py : Nat → Int) (k : Nat) (x : Int) : Int := ((py k - py (k + 1)) * x + (py (k + 1) * (px k - px (k + 1)) - (py k - py (k + 1)) * px (k + 1))) / (px k - px (k + 1))
theorem ZR.lnL {P : List Pt} {px py : Nat → Int} (Z : ZR P px py) {k : Nat} (h : px k < px (k + 1)) : LnOf (cor P k) (cor P (k + 1)) (py (k + 1) - py k) (py k * (px (k + 1) - px k) - (py (k + 1) - py k) * px k) (px (k + 1) - px k) := by
  rw [Z.e, Z.e]
  refine ⟨by omega, ?_, ?_⟩
  · simp only [Rat.intCast_sub]
  · simp only [Rat.intCast_sub, Rat.intCast_mul]
theorem ZR.lnH {P : List Pt} {px py : Nat → Int} (Z : ZR P px py) {k : Nat} (h : px (k + 1) < px k) : LnOf (cor P (k + 1)) (cor P k) (py k - py (k + 1)) (py (k + 1) * (px k - px (k + 1)) - (py k - py (k + 1)) * px (k + 1)) (px k - px (k + 1)) := by
  rw [Z.e, Z.e]
  refine ⟨by omega, ?_, ?_⟩
  · simp only [Rat.intCast_sub]
  · simp only [Rat.intCast_sub, Rat.intCast_mul]
theorem icl {a b : Int} : ((a : Rat) < (b : Rat)) ↔ a < b := Rat.intCast_lt_intCast
theorem ice {a b : Int} : ((a : Rat) ≤ (b : Rat)) ↔ a ≤ b := Rat.intCast_le_intCast
theorem ZR.x {P : List Pt} {px py : Nat → Int} (Z : ZR P px py) (k : Nat) : (cor P k).1 = (px k : Rat) := by rw [Z.e]
theorem ZR.y {P : List Pt} {px py : Nat → Int} (Z : ZR P px py) (k : Nat) : (cor P k).2 = (py k : Rat) := by rw [Z.e]
theorem ZR.ins {P : List Pt} {px py : Nat → Int} (Z : ZR P px py) {x : Int} {k l : Nat} (k1 : px k ≤ x) (k2 : x ≤ px (k + 1)) (k3 : px k < px (k + 1)) (l1 : px (l + 1) ≤ x) (l2 : x ≤ px l) (l3 : px (l + 1) < px l) (y : Int) :
    InsP P ((x : Rat), (y : Rat)) ↔ ceilE px py k x ≤ y ∧ y ≤ florE px py l x := by
  have i := Z.R.ins_iff (x := (x : Rat)) (y := (y : Rat)) (k := k) (l := l) (by rw [Z.x]; exact ice.mpr k1) (by rw [Z.x]; exact ice.mpr k2) (by rw [Z.x, Z.x]; exact icl.mpr k3) (by rw [Z.x]; exact ice.mpr l1) (by rw [Z.x]; exact ice.mpr l2) (by rw [Z.x, Z.x]; exact icl.mpr l3)
  have u := (Z.lnL k3).low (by rw [Z.x, Z.x]; exact icl.mpr k3) x y
  have v := (Z.lnH l3).high (by rw [Z.x, Z.x]; exact icl.mpr l3) x y
  rw [i]
  exact ⟨fun h => ⟨u.mp h.1, v.mp h.2⟩, fun h => ⟨u.mpr h.1, v.mpr h.2⟩⟩
theorem ZR.gap {P : List Pt} {px py : Nat → Int} (Z : ZR P px py) {x : Int} {k l : Nat} (k1 : px k ≤ x) (k2 : x ≤ px (k + 1)) (k3 : px k < px (k + 1)) (l1 : px (l + 1) ≤ x) (l2 : x ≤ px l) (l3 : px (l + 1) < px l) : ceilE px py k x ≤ florE px py l x + 1 := by
  apply Classical.byContradiction
  intro no
  have g := Z.R.gap (x := (x : Rat)) (y := ((ceilE px py k x - 1 : Int) : Rat)) (k := k) (l := l) (by rw [Z.x]; exact ice.mpr k1) (by rw [Z.x]; exact ice.mpr k2) (by rw [Z.x, Z.x]; exact icl.mpr k3) (by rw [Z.x]; exact ice.mpr l1) (by rw [Z.x]; exact ice.mpr l2) (by rw [Z.x, Z.x]; exact icl.mpr l3)
  have u := (Z.lnL k3).low (by rw [Z.x, Z.x]; exact icl.mpr k3) x (ceilE px py k x - 1)
  have v := (Z.lnH l3).high (by rw [Z.x, Z.x]; exact icl.mpr l3) x (ceilE px py k x - 1)
  have v' := v.mp (g fun z => by
    have := u.mp z
    unfold ceilE at this
    omega)
  unfold florE at no
  omega
def lowP (px : Nat → Int) (k : Nat) (x : Int) : Prop := px k ≤ x ∧ x < px (k + 1)
def highP (px : Nat → Int) (k : Nat) (x : Int) : Prop := px (k + 1) ≤ x ∧ x < px k
instance (px : Nat → Int) (k : Nat) (x : Int) : Decidable (lowP px k x) := inferInstanceAs (Decidable (_ ∧ _))
instance (px : Nat → Int) (k : Nat) (x : Int) : Decidable (highP px k x) := inferInstanceAs (Decidable (_ ∧ _))
/-- a sum over edges of what one edge gives -/
def onLow (px : Nat → Int) (n : Nat) (f : Nat → Int → Int) (x : Int) : Int := sm (fun k => if lowP px k x then f k x else 0) n
def onHigh (px : Nat → Int) (n : Nat) (f : Nat → Int → Int) (x : Int) : Int := sm (fun k => if highP px k x then f k x else 0) n
theorem ZR.low_ex {P : List Pt} {px py : Nat → Int} (Z : ZR P px py) {x : Int} {i j : Nat} (hi : px i ≤ x) (hj : x < px j) : ∃ k, k < P.length ∧ lowP px k x ∧ ∀ f, onLow px P.length f x = f k x := by
  have n0 : 0 < P.length := by have := Z.R.1; omega
  obtain ⟨k, hk, k1, k2⟩ := edge_from n0 (P := P) (x := (x : Rat)) (i := i) (j := j) (by rw [Z.x]; exact ice.mpr hi) (by rw [Z.x]; exact icl.mpr hj)
  rw [Z.x] at k1 k2
  have c : lowP px k x := ⟨ice.mp k1, icl.mp k2⟩
  refine ⟨k, hk, c, fun f => ?_⟩
  unfold onLow
  rw [sm_one hk fun i hi ne => if_neg fun z => ne ?_, if_pos c]
  exact Z.R.low_one (x := (x : Rat)) hi hk (by rw [Z.x]; exact ice.mpr z.1) (by rw [Z.x]; exact icl.mpr z.2) (by rw [Z.x]; exact k1) (by rw [Z.x]; exact k2)
theorem ZR.high_ex {P : List Pt} {px py : Nat → Int} (Z : ZR P px py) {x : Int} {i j : Nat} (hi : px i ≤ x) (hj : x < px j) : ∃ k, k < P.length ∧ highP px k x ∧ ∀ f, onHigh px P.length f x = f k x := by
  have n0 : 0 < P.length := by have := Z.R.1; omega
  obtain ⟨k, hk, k1, k2⟩ := back_from n0 (P := P) (x := (x : Rat)) (i := i) (j := j) (by rw [Z.x]; exact ice.mpr hi) (by rw [Z.x]; exact icl.mpr hj)
  rw [Z.x] at k1 k2
  have c : highP px k x := ⟨ice.mp k1, icl.mp k2⟩
  refine ⟨k, hk, c, fun f => ?_⟩
  unfold onHigh
  rw [sm_one hk fun i hi ne => if_neg fun z => ne ?_, if_pos c]
  exact Z.R.high_uniq (x := (x : Rat)) hi hk (by rw [Z.x]; exact ice.mpr z.1) (by rw [Z.x]; exact icl.mpr z.2) (by rw [Z.x]; exact k1) (by rw [Z.x]; exact k2)
/-- least and greatest -/
theorem ends_of (f : Nat → Int) : ∀ n : Nat, 0 < n → (∃ i, i < n ∧ ∀ k, k < n → f i ≤ f k) ∧ ∃ j, j < n ∧ ∀ k, k < n → f k ≤ f j
  | 0, h => by omega
  | 1, _ => ⟨⟨0, by omega, fun k hk => by rw [show k = 0 by omega]; exact Int.le_refl _⟩, 0, by omega, fun k hk => by rw [show k = 0 by omega]; exact Int.le_refl _⟩
  | n + 2, _ => by
    obtain ⟨⟨i, hi, ai⟩, j, hj, aj⟩ := ends_of f (n + 1) (by omega)
    constructor
    · by_cases z : f i ≤ f (n + 1)
      · exact ⟨i, by omega, fun k hk => by
          by_cases y : k = n + 1
          · rw [y]; exact z
          · exact ai k (by omega)⟩
      · exact ⟨n + 1, by omega, fun k hk => by
          by_cases y : k = n + 1
          · rw [y]; exact Int.le_refl _
          · have := ai k (by omega); omega⟩
    · by_cases z : f (n + 1) ≤ f j
      · exact ⟨j, by omega, fun k hk => by
          by_cases y : k = n + 1
          · rw [y]; exact z
          · exact aj k (by omega)⟩
      · exact ⟨n + 1, by omega, fun k hk => by
          by_cases y : k = n + 1
          · rw [y]; exact Int.le_refl _
          · have := aj k (by omega); omega⟩
/-- what one edge gives in all -/
theorem edge_low {px : Nat → Int} {k : Nat} {X0 X1 : Int} (h : px k < px (k + 1)) (h0 : X0 ≤ px k) (h1 : px (k + 1) ≤ X1) (f : Nat → Int → Int) : sr (fun x => if lowP px k x then f k x else 0) X0 X1 = sr (f k) (px k) (px (k + 1)) := by
  rw [sr_wide h0 (by omega : px k ≤ px (k + 1)) h1 (fun x hx => if_neg fun z => by have := z.1; omega) (fun x hx => if_neg fun z => by have := z.2; omega)]
  exact sr_congr fun x a b => if_pos ⟨a, b⟩
theorem edge_high {px : Nat → Int} {k : Nat} {X0 X1 : Int} (h : px (k + 1) < px k) (h0 : X0 ≤ px (k + 1)) (h1 : px k ≤ X1) (f : Nat → Int → Int) : sr (fun x => if highP px k x then f k x else 0) X0 X1 = sr (f k) (px (k + 1)) (px k) := by
  rw [sr_wide h0 (by omega : px (k + 1) ≤ px k) h1 (fun x hx => if_neg fun z => by have := z.1; omega) (fun x hx => if_neg fun z => by have := z.2; omega)]
  exact sr_congr fun x a b => if_pos ⟨a, b⟩
theorem none_low {px : Nat → Int} {k : Nat} {X0 X1 : Int} (h : px (k + 1) ≤ px k) (f : Nat → Int → Int) : sr (fun x => if lowP px k x then f k x else 0) X0 X1 = 0 := sr_zero fun x _ _ => if_neg fun z => by have := z.1; have := z.2; omega
theorem none_high {px : Nat → Int} {k : Nat} {X0 X1 : Int} (h : px k ≤ px (k + 1)) (f : Nat → Int → Int) : sr (fun x => if highP px k x then f k x else 0) X0 X1 = 0 := sr_zero fun x _ _ => if_neg fun z => by have := z.1; have := z.2; omega
theorem ceil_sum {px py : Nat → Int} {k : Nat} (h : px k < px (k + 1)) : 2 * sr (ceilE px py k) (px k) (px (k + 1)) = (px (k + 1) - px k) * (py k + py (k + 1)) + (px (k + 1) - px k) - (py (k + 1) - py k) - (Int.gcd (px (k + 1) - px k) (py (k + 1) - py k) : Int) := by
  have m0 : 0 < px (k + 1) - px k := by omega
  have p := fs_period (a := -(py (k + 1) - py k)) m0
  have e : sr (ceilE px py k) (px k) (px (k + 1)) = py k * (px (k + 1) - px k) - fs (px (k + 1) - px k).toNat (-(py (k + 1) - py k)) 0 (px (k + 1) - px k) := by
    unfold sr fs
    rw [sm_congr (g := fun j : Nat => py k + -1 * ((-(py (k + 1) - py k) * (j : Int) + 0) / (px (k + 1) - px k))) fun j _ => ?_, sm_plus, sm_const, sm_mul, show (((px (k + 1) - px k).toNat : Nat) : Int) = px (k + 1) - px k by omega]
    · omega
    · unfold ceilE
      rw [show 0 - ((py (k + 1) - py k) * (px k + (j : Int)) + (py k * (px (k + 1) - px k) - (py (k + 1) - py k) * px k)) = (-(py (k + 1) - py k) * (j : Int) + 0) + (-py k) * (px (k + 1) - px k) by grind, Int.add_mul_ediv_right _ _ (by omega)]
      omega
  rw [e, Int.mul_sub, p, show Int.gcd (-(py (k + 1) - py k)) (px (k + 1) - px k) = Int.gcd (px (k + 1) - px k) (py (k + 1) - py k) by rw [Int.neg_gcd, Int.gcd_comm]]
  grind
theorem flor_sum {px py : Nat → Int} {k : Nat} (h : px (k + 1) < px k) : 2 * sr (florE px py k) (px (k + 1)) (px k) = -(px (k + 1) - px k) * (py k + py (k + 1)) + (px (k + 1) - px k) + (py (k + 1) - py k) + (Int.gcd (px (k + 1) - px k) (py (k + 1) - py k) : Int) := by
  have m0 : 0 < px k - px (k + 1) := by omega
  have p := fs_period (a := py k - py (k + 1)) m0
  have e : sr (florE px py k) (px (k + 1)) (px k) = py (k + 1) * (px k - px (k + 1)) + fs (px k - px (k + 1)).toNat (py k - py (k + 1)) 0 (px k - px (k + 1)) := by
    unfold sr fs
    rw [sm_congr (g := fun j : Nat => py (k + 1) + ((py k - py (k + 1)) * (j : Int) + 0) / (px k - px (k + 1))) fun j _ => ?_, sm_plus, sm_const, show (((px k - px (k + 1)).toNat : Nat) : Int) = px k - px (k + 1) by omega]
    unfold florE
    rw [show (py k - py (k + 1)) * (px (k + 1) + (j : Int)) + (py (k + 1) * (px k - px (k + 1)) - (py k - py (k + 1)) * px (k + 1)) = ((py k - py (k + 1)) * (j : Int) + 0) + py (k + 1) * (px k - px (k + 1)) by grind, Int.add_mul_ediv_right _ _ (by omega)]
    omega
  rw [e, Int.mul_add, p, show Int.gcd (py k - py (k + 1)) (px k - px (k + 1)) = Int.gcd (px (k + 1) - px k) (py (k + 1) - py k) by
    rw [show py k - py (k + 1) = -(py (k + 1) - py k) by omega, show px k - px (k + 1) = -(px (k + 1) - px k) by omega, Int.neg_gcd, Int.gcd_neg, Int.gcd_comm]]
  grind

--@ needs RingP2
/-! Pick's count -/
theorem ZR.mod {P : List Pt} {px py : Nat → Int} (Z : ZR P px py) (k : Nat) : px (k % P.length) = px k ∧ py (k % P.length) = py k := by
  have h := cor_mod P k
  rw [Z.e, Z.e] at h
  exact ⟨Rat.intCast_inj.mp (Prod.mk.inj h).1, Rat.intCast_inj.mp (Prod.mk.inj h).2⟩
theorem ceil_end {px py : Nat → Int} {k : Nat} (h : px k < px (k + 1)) : ceilE px py k (px (k + 1)) = py (k + 1) := by
  unfold ceilE
  rw [show 0 - ((py (k + 1) - py k) * px (k + 1) + (py k * (px (k + 1) - px k) - (py (k + 1) - py k) * px k)) = (-py (k + 1)) * (px (k + 1) - px k) by grind, Int.mul_ediv_cancel _ (by omega)]
  omega
theorem flor_end {px py : Nat → Int} {k : Nat} (h : px (k + 1) < px k) : florE px py k (px k) = py k := by
  unfold florE
  rw [show (py k - py (k + 1)) * px k + (py (k + 1) * (px k - px (k + 1)) - (py k - py (k + 1)) * px (k + 1)) = py k * (px k - px (k + 1)) by grind, Int.mul_ediv_cancel _ (by omega)]
theorem edge_all {px py : Nat → Int} {k : Nat} {X0 X1 : Int} (nv : px k ≠ px (k + 1)) (h0 : ∀ k, X0 ≤ px k) (h1 : ∀ k, px k ≤ X1) :
    2 * sr (fun x => if highP px k x then florE px py k x else 0) X0 X1 - 2 * sr (fun x => if lowP px k x then ceilE px py k x else 0) X0 X1 + sr (fun x => if lowP px k x then 1 else 0) X0 X1 + sr (fun x => if highP px k x then 1 else 0) X0 X1
      = -(px (k + 1) - px k) * (py k + py (k + 1)) + (py (k + 1) - py k) + (Int.gcd (px (k + 1) - px k) (py (k + 1) - py k) : Int) := by
  by_cases z : px k < px (k + 1)
  · rw [none_high (by omega) (florE px py), none_high (by omega) (fun _ _ => 1), edge_low z (h0 _) (h1 _) (ceilE px py), edge_low z (h0 _) (h1 _) (fun _ _ => 1), ceil_sum z, sr_const _ _ _ (by omega : px k ≤ px (k + 1))]
    grind
  · have z : px (k + 1) < px k := by omega
    rw [none_low (by omega) (ceilE px py), none_low (by omega) (fun _ _ => 1), edge_high z (h0 _) (h1 _) (florE px py), edge_high z (h0 _) (h1 _) (fun _ _ => 1), flor_sum z, sr_const _ _ _ (by omega : px (k + 1) ≤ px k)]
    grind
theorem ZR.pick {P : List Pt} {px py : Nat → Int} (Z : ZR P px py) (nv : ∀ k, px k ≠ px (k + 1)) {N : Int} (hN : CntL (fun x y => InsP P ((x : Rat), (y : Rat))) N) :
    2 * N = sm (fun k => -(px (k + 1) - px k) * (py k + py (k + 1))) P.length + sm (fun k => (Int.gcd (px (k + 1) - px k) (py (k + 1) - py k) : Int)) P.length + 2 := by
  have n3 := Z.R.1
  have n0 : 0 < P.length := by omega
  obtain ⟨⟨i0, hi0, a0⟩, j0, hj0, a1⟩ := ends_of px P.length n0
  have all0 : ∀ k, px i0 ≤ px k := fun k => by rw [← (Z.mod k).1]; exact a0 _ (Nat.mod_lt k n0)
  have all1 : ∀ k, px k ≤ px j0 := fun k => by rw [← (Z.mod k).1]; exact a1 _ (Nat.mod_lt k n0)
  have w : px i0 < px j0 := by
    have := nv i0
    have := all0 (i0 + 1)
    have := all1 (i0 + 1)
    omega
  -- the last column
  have ek : j0 + P.length - 1 + 1 = j0 + P.length := by omega
  have pk := Z.per j0
  have k3 : px (j0 + P.length - 1) < px (j0 + P.length - 1 + 1) := by
    have h1 := nv (j0 + P.length - 1)
    have h2 := all1 (j0 + P.length - 1)
    rw [ek, pk.1] at h1 ⊢
    omega
  have l3 : px (j0 + 1) < px j0 := by
    have h1 := nv j0
    have h2 := all1 (j0 + 1)
    omega
  have lastI := fun y => Z.ins (x := px j0) (k := j0 + P.length - 1) (l := j0) (Int.le_of_lt (by rw [← pk.1, ← ek]; exact k3)) (by rw [ek, pk.1]; exact Int.le_refl _) k3 (Int.le_of_lt l3) (Int.le_refl _) l3 y
  have lastC : ceilE px py (j0 + P.length - 1) (px j0) = py j0 := by
    have := ceil_end (py := py) k3
    rw [ek, pk.1, pk.2] at this
    exact this
  have lastF : florE px py j0 (px j0) = py j0 := flor_end l3
  rw [lastC, lastF] at lastI
  have cnt : Cnt (fun x y => InsP P ((x : Rat), (y : Rat))) (sr (fun x => (if x = px j0 then py j0 else onHigh px P.length (florE px py) x) - (if x = px j0 then py j0 else onLow px P.length (ceilE px py) x) + 1) (px i0) (px j0 + 1)) := by
    refine Cnt.of (by omega) (fun x y => ?_) (fun x h1 h2 => ?_)
    · by_cases z : x = px j0
      · subst z
        rw [if_pos rfl, if_pos rfl, lastI]
        omega
      · rw [if_neg z, if_neg z]
        by_cases r : px i0 ≤ x ∧ x < px j0
        · obtain ⟨k, hk, ck, fk⟩ := Z.low_ex r.1 r.2
          obtain ⟨l, hl, cl, fl⟩ := Z.high_ex r.1 r.2
          rw [fk, fl, Z.ins ck.1 (Int.le_of_lt ck.2) (by have := ck.1; have := ck.2; omega) cl.1 (Int.le_of_lt cl.2) (by have := cl.1; have := cl.2; omega)]
          constructor
          · intro h
            exact ⟨by omega, h⟩
          · exact fun h => h.2
        · constructor
          · intro h
            obtain ⟨⟨i, hi⟩, j, hj⟩ := Z.R.ins_wide h
            rw [Z.x] at hi hj
            have := ice.mp hi
            have := ice.mp hj
            have := all0 i
            have := all1 j
            omega
          · intro h
            omega
    · by_cases z : x = px j0
      · rw [if_pos z, if_pos z]; omega
      · rw [if_neg z, if_neg z]
        obtain ⟨k, hk, ck, fk⟩ := Z.low_ex h1 (show x < px j0 by omega)
        obtain ⟨l, hl, cl, fl⟩ := Z.high_ex h1 (show x < px j0 by omega)
        rw [fk, fl]
        exact Z.gap ck.1 (Int.le_of_lt ck.2) (by have := ck.1; have := ck.2; omega) cl.1 (Int.le_of_lt cl.2) (by have := cl.1; have := cl.2; omega)
  have eN := hN.uniq cnt.list
  rw [eN, sr_split _ (show px i0 ≤ px j0 by omega) (show px j0 ≤ px j0 + 1 by omega)]
  have last : sr (fun x => (if x = px j0 then py j0 else onHigh px P.length (florE px py) x) - (if x = px j0 then py j0 else onLow px P.length (ceilE px py) x) + 1) (px j0) (px j0 + 1) = 1 := by
    rw [sr_congr (g' := fun _ => 1) (fun x h1 h2 => by rw [show x = px j0 by omega, if_pos rfl, if_pos rfl]; omega), sr_const _ _ _ (by omega : px j0 ≤ px j0 + 1)]
    omega
  rw [last]
  have body : sr (fun x => (if x = px j0 then py j0 else onHigh px P.length (florE px py) x) - (if x = px j0 then py j0 else onLow px P.length (ceilE px py) x) + 1) (px i0) (px j0) = sr (onHigh px P.length (florE px py)) (px i0) (px j0) - sr (onLow px P.length (ceilE px py)) (px i0) (px j0) + (px j0 - px i0) := by
    rw [sr_congr (g' := fun x => (onHigh px P.length (florE px py) x + (-1) * onLow px P.length (ceilE px py) x) + 1) (fun x h1 h2 => by rw [if_neg (by omega), if_neg (by omega)]; omega), sr_plus (fun x => onHigh px P.length (florE px py) x + (-1) * onLow px P.length (ceilE px py) x) (fun _ => 1), sr_plus, sr_const _ _ _ (by omega : px i0 ≤ px j0)]
    have : sr (fun x => (-1) * onLow px P.length (ceilE px py) x) (px i0) (px j0) = (-1) * sr (onLow px P.length (ceilE px py)) (px i0) (px j0) := by
      unfold sr
      exact sm_mul _ _
    rw [this]
    omega
  rw [body]
  have wl : px j0 - px i0 = sm (fun k => sr (fun x => if lowP px k x then 1 else 0) (px i0) (px j0)) P.length := by
    have e := sr_swap (fun x k => if lowP px k x then 1 else 0) P.length (px i0) (px j0)
    rw [← e]
    have e2 : sr (fun x => sm (fun k => if lowP px k x then 1 else 0) P.length) (px i0) (px j0) = sr (fun _ => 1) (px i0) (px j0) := sr_congr fun x h1 h2 => by
      obtain ⟨k, _, _, fk⟩ := Z.low_ex h1 h2
      exact fk (fun _ _ => 1)
    rw [e2, sr_const _ _ _ (by omega : px i0 ≤ px j0)]
    omega
  have wh : px j0 - px i0 = sm (fun k => sr (fun x => if highP px k x then 1 else 0) (px i0) (px j0)) P.length := by
    have e := sr_swap (fun x k => if highP px k x then 1 else 0) P.length (px i0) (px j0)
    rw [← e]
    have e2 : sr (fun x => sm (fun k => if highP px k x then 1 else 0) P.length) (px i0) (px j0) = sr (fun _ => 1) (px i0) (px j0) := sr_congr fun x h1 h2 => by
      obtain ⟨k, _, _, fk⟩ := Z.high_ex h1 h2
      exact fk (fun _ _ => 1)
    rw [e2, sr_const _ _ _ (by omega : px i0 ≤ px j0)]
    omega
  have sH : sr (onHigh px P.length (florE px py)) (px i0) (px j0) = sm (fun k => sr (fun x => if highP px k x then florE px py k x else 0) (px i0) (px j0)) P.length := sr_swap (fun x k => if highP px k x then florE px py k x else 0) P.length (px i0) (px j0)
  have sL : sr (onLow px P.length (ceilE px py)) (px i0) (px j0) = sm (fun k => sr (fun x => if lowP px k x then ceilE px py k x else 0) (px i0) (px j0)) P.length := sr_swap (fun x k => if lowP px k x then ceilE px py k x else 0) P.length (px i0) (px j0)
  have total : sm (fun k => ((2 * sr (fun x => if highP px k x then florE px py k x else 0) (px i0) (px j0) + (-2) * sr (fun x => if lowP px k x then ceilE px py k x else 0) (px i0) (px j0)) + sr (fun x => if lowP px k x then 1 else 0) (px i0) (px j0)) + sr (fun x => if highP px k x then 1 else 0) (px i0) (px j0)) P.length
      = sm (fun k => (-(px (k + 1) - px k) * (py k + py (k + 1)) + (py (k + 1) + (-1) * py k)) + (Int.gcd (px (k + 1) - px k) (py (k + 1) - py k) : Int)) P.length := sm_congr fun k _ => by
    have := edge_all (py := py) (nv k) all0 all1
    omega
  rw [sm_plus, sm_plus, sm_plus, sm_mul, sm_mul, ← sH, ← sL, ← wl, ← wh, sm_plus, sm_plus, sm_plus, sm_mul, sm_round py (by have := (Z.per 0).2; rw [Nat.zero_add] at this; exact this)] at total
  omega
/-- upright edges or not -/
theorem ZR.pick_all {P : List Pt} {px py : Nat → Int} (Z : ZR P px py) {N : Int} (hN : CntL (fun x y => InsP P ((x : Rat), (y : Rat))) N) :
    2 * N = sm (fun k => -(px (k + 1) - px k) * (py k + py (k + 1))) P.length + sm (fun k => (Int.gcd (px (k + 1) - px k) (py (k + 1) - py k) : Int)) P.length + 2 := by
  have n3 := Z.R.1
  have n0 : 0 < P.length := by omega
  obtain ⟨B, hB⟩ := bound_all (fun k => px (k.toNat + 1) - px k.toNat) 0 P.length
  generalize hs : max (B + 1) 1 = s
  have s1 : 1 ≤ s := by omega
  have big : ∀ k, -s < px (k + 1) - px k ∧ px (k + 1) - px k < s := fun k => by
    have m := Nat.mod_lt k n0
    have := hB ((k % P.length : Nat) : Int) (by omega) (by omega)
    rw [Int.toNat_natCast, (Z.mod k).1] at this
    have e : px (k % P.length + 1) = px (k + 1) := by rw [← (Z.mod (k % P.length + 1)).1, Nat.mod_add_mod, (Z.mod (k + 1)).1]
    rw [e] at this
    omega
  have f : ∀ p q r : Pt, cr ((fun p : Pt => (p.1 + (s : Rat) * p.2, p.2)) p) ((fun p : Pt => (p.1 + (s : Rat) * p.2, p.2)) q) ((fun p : Pt => (p.1 + (s : Rat) * p.2, p.2)) r) = 1 * cr p q r := fun p q r => by unfold cr; grind
  have Z' : ZR (P.map fun p : Pt => (p.1 + (s : Rat) * p.2, p.2)) (fun k => px k + s * py k) py := by
    refine ⟨Z.R.aff _ 1 (by decide) f, fun k => ?_⟩
    rw [cor_map _ n0, Z.e]
    simp only [Rat.intCast_add, Rat.intCast_mul]
  have nv : ∀ k, (fun k => px k + s * py k) k ≠ (fun k => px k + s * py k) (k + 1) := fun k z => by
    have z : px k + s * py k = px (k + 1) + s * py (k + 1) := z
    have b := big k
    have e : s * (py (k + 1) - py k) = -(px (k + 1) - px k) := by grind
    by_cases y : py (k + 1) - py k = 0
    · rw [y, Int.mul_zero] at e
      have ex : px (k + 1) = px k := by omega
      have ey : py (k + 1) = py k := by omega
      have m := Nat.mod_lt k n0
      have t := Z.R.2 (k % P.length) m ((k + 2) % P.length) (Nat.mod_lt _ n0) (fun h => ?_) (fun h => ?_)
      · rw [cor_mod, cor_succ_mod, cor_mod] at t
        have same : cor P (k + 1) = cor P k := by rw [Z.e, Z.e, ex, ey]
        rw [same] at t
        have : cr (cor P k) (cor P k) (cor P (k + 2)) = 0 := by unfold cr; grind
        rw [this] at t
        exact absurd t (by decide)
      · have := rot_inj (n := P.length) (t := k % P.length) (j := 2) (i := 0) (by omega) (by omega) (by omega) (by rw [Nat.add_mod_mod, Nat.zero_add, Nat.mod_mod, Nat.add_comm 2 k]; exact h)
        omega
      · have := rot_inj (n := P.length) (t := k % P.length) (j := 2) (i := 1) (by omega) (by omega) (by omega) (by rw [Nat.add_mod_mod, Nat.add_mod_mod, Nat.add_comm 2 k, Nat.add_comm 1 k, h, Nat.mod_add_mod])
        omega
    · by_cases p : 0 < py (k + 1) - py k
      · have : s * 1 ≤ s * (py (k + 1) - py k) := Int.mul_le_mul_of_nonneg_left (by omega) (by omega)
        omega
      · have : s * (py (k + 1) - py k) ≤ s * (-1) := Int.mul_le_mul_of_nonneg_left (by omega) (by omega)
        omega
  have len : (P.map fun p : Pt => (p.1 + (s : Rat) * p.2, p.2)).length = P.length := List.length_map ..
  have cn : CntL (fun x y => InsP (P.map fun p : Pt => (p.1 + (s : Rat) * p.2, p.2)) ((x : Rat), (y : Rat))) N := by
    refine hN.map (fun p => (p.1 + s * p.2, p.2)) (fun p => (p.1 - s * p.2, p.2)) (fun p => by dsimp only; rw [Int.add_sub_cancel]) (fun p => by dsimp only; rw [Int.sub_add_cancel]) (fun x y => ?_)
    have h := ins_aff n0 (fun p : Pt => (p.1 + (s : Rat) * p.2, p.2)) 1 (by decide) f (((x - s * y : Int) : Rat), (y : Rat))
    dsimp only at h
    have e : ((x - s * y : Int) : Rat) + (s : Rat) * (y : Rat) = (x : Rat) := by
      rw [Rat.intCast_sub, Rat.intCast_mul]
      grind
    rw [e] at h
    exact h
  have key := Z'.pick nv cn
  rw [len] at key
  rw [key]
  congr 1
  congr 1
  · rw [sm_congr (g := fun k => -(px (k + 1) - px k) * (py k + py (k + 1)) + ((-s) * (py (k + 1) * py (k + 1)) + s * (py k * py k))) fun k _ => by grind, sm_plus, sm_plus, sm_mul, sm_mul, sm_round (fun k => py k * py k) (by have := (Z.per 0).2; rw [Nat.zero_add] at this; rw [this])]
    grind
  · refine sm_congr fun k _ => ?_
    show ((Int.gcd (px (k + 1) + s * py (k + 1) - (px k + s * py k)) (py (k + 1) - py k) : Nat) : Int) = _
    rw [show px (k + 1) + s * py (k + 1) - (px k + s * py k) = (px (k + 1) - px k) + s * (py (k + 1) - py k) by grind, Int.gcd_add_mul_right_left]

--@ needs PickM
/-! corners moved -/
def movC (way b : Int) (c : Cn) : Cn :=
  if way = 0 then ((c.1.1 + b * c.1.2, c.1.2), (c.2.1 - 3 * b * c.2.2, c.2.2))
  else if way = 1 then ((0 - c.2.1, c.2.2), c.1)
  else if way = 2 then ((0 - c.1.1, c.1.2), c.2)
  else (frd (c.1.1 * c.2.2 + b * c.2.1 * c.1.2, c.1.2 * c.2.2), c.2)
def movL (way b : Int) (cs : List Cn) : List Cn := if way = 2 then (cs.map (movC way b)).reverse else cs.map (movC way b)
def SzM (c : Cn) : Prop := SzF 150 10 c.1 ∧ SzF 150 10 c.2
theorem SzM.c {c : Cn} (h : SzM c) : SzC c := ⟨h.1.mono, h.2.mono⟩
theorem movC_sz {way b : Int} {c : Cn} (w : way = 0 ∨ way = 1 ∨ way = 2 ∨ way = 3) (zb : Sz 110 b) (h : SzM c) : SzC (movC way b c) := by
  obtain ⟨⟨p1, z1, z2⟩, p2, z3, z4⟩ := h
  have z0 : Sz 150 (0 : Int) := by show (0 : Int).natAbs < 2 ^ 150; decide
  have b3 : Sz 3 (3 : Int) := by show (3 : Int).natAbs < 2 ^ 3; decide
  rcases w with rfl | rfl | rfl | rfl
  · exact ⟨⟨p1, Sz.add1 (k := 300) z1 (zb.mul z2), z2.mono (by decide)⟩, p2, Sz.sub1 (k := 300) z3 ((b3.mul zb).mul z4), z4.mono (by decide)⟩
  · exact ⟨⟨p2, Sz.sub1 (k := 300) z0 z3, z4.mono (by decide)⟩, p1, z1.mono (by decide), z2.mono (by decide)⟩
  · exact ⟨⟨p1, Sz.sub1 (k := 300) z0 z1, z2.mono (by decide)⟩, p2, z3.mono (by decide), z4.mono (by decide)⟩
  · exact ⟨(frd_sz (n := 300) (m := 30) (f := (c.1.1 * c.2.2 + b * c.2.1 * c.1.2, c.1.2 * c.2.2)) ⟨Int.mul_pos p1 p2, Sz.add1 (k := 300) (z1.mul z4) ((zb.mul z3).mul z2), (z2.mul z4).mono (by decide)⟩), p2, z3.mono (by decide), z4.mono (by decide)⟩
theorem qv_neg {t b : Int} (h : 0 < b) : qv (0 - t) b = -qv t b := by
  refine qv_of h ?_
  have := qv_mul (t := t) h
  rw [Rat.intCast_sub]
  have : ((0 : Int) : Rat) = 0 := rfl
  grind
theorem qv_shift {t b k : Int} (h : 0 < b) : qv (t + k * b) b = qv t b + (k : Rat) := by
  refine qv_of h ?_
  have := qv_mul (t := t) h
  rw [Rat.intCast_add, Rat.intCast_mul]
  grind
/-- what it does to a point -/
def movP (way : Int) (b : Rat) (p : Pt) : Pt :=
  if way = 0 then (p.1 + b, p.2 - 3 * b) else if way = 1 then (-p.2, p.1) else if way = 2 then (-p.1, p.2) else (p.1 + b * p.2, p.2)
theorem movC_v {way b : Int} {c : Cn} (w : way = 0 ∨ way = 1 ∨ way = 2 ∨ way = 3) (h : OkC c) : cv (movC way b c) = movP way (b : Rat) (cv c) := by
  obtain ⟨p1, p2⟩ := h
  rcases w with rfl | rfl | rfl | rfl
  · show (qv (c.1.1 + b * c.1.2) c.1.2, qv (c.2.1 - 3 * b * c.2.2) c.2.2) = (fv c.1 + (b : Rat), fv c.2 - 3 * (b : Rat))
    rw [qv_shift p1, show c.2.1 - 3 * b * c.2.2 = c.2.1 + (-3 * b) * c.2.2 by grind, qv_shift p2, Rat.intCast_mul]
    have e : ((-3 : Int) : Rat) = -3 := rfl
    rw [e]
    show (fv c.1 + (b : Rat), fv c.2 + -3 * (b : Rat)) = _
    congr 1
    grind
  · show (qv (0 - c.2.1) c.2.2, fv c.1) = (-fv c.2, fv c.1)
    rw [qv_neg p2]
    rfl
  · show (qv (0 - c.1.1) c.1.2, fv c.2) = (-fv c.1, fv c.2)
    rw [qv_neg p1]
    rfl
  · show (fv (frd (c.1.1 * c.2.2 + b * c.2.1 * c.1.2, c.1.2 * c.2.2)), fv c.2) = (fv c.1 + (b : Rat) * fv c.2, fv c.2)
    rw [frd_v (Int.mul_pos p1 p2)]
    congr 1
    refine qv_of (Int.mul_pos p1 p2) ?_
    have e1 : fv c.1 * (c.1.2 : Rat) = (c.1.1 : Rat) := qv_mul p1
    have e2 : fv c.2 * (c.2.2 : Rat) = (c.2.1 : Rat) := qv_mul p2
    show _ = ((c.1.1 * c.2.2 + b * c.2.1 * c.1.2 : Int) : Rat)
    rw [Rat.intCast_mul, Rat.intCast_add, Rat.intCast_mul, Rat.intCast_mul, Rat.intCast_mul, ← e1, ← e2]
    grind
theorem movP_cr {way : Int} {b : Rat} (w : way = 0 ∨ way = 1 ∨ way = 3) (p q r : Pt) : cr (movP way b p) (movP way b q) (movP way b r) = 1 * cr p q r := by
  rcases w with rfl | rfl | rfl
  · show cr (p.1 + b, p.2 - 3 * b) (q.1 + b, q.2 - 3 * b) (r.1 + b, r.2 - 3 * b) = _
    unfold cr; grind
  · show cr (-p.2, p.1) (-q.2, q.1) (-r.2, r.1) = _
    unfold cr; grind
  · show cr (p.1 + b * p.2, p.2) (q.1 + b * q.2, q.2) (r.1 + b * r.2, r.2) = _
    unfold cr; grind
theorem pts_mov {way b : Int} {cs : List Cn} (w : way = 0 ∨ way = 1 ∨ way = 2 ∨ way = 3) (ok : ∀ c ∈ cs, OkC c) : pts (cs.map (movC way b)) = (pts cs).map (movP way (b : Rat)) := by
  unfold pts
  rw [List.map_map, List.map_map]
  exact List.map_congr_left fun c hc => movC_v w (ok c hc)
/-- the moved ring is one, and has as many points -/
theorem mov_ring {way b : Int} {cs : List Cn} (w : way = 0 ∨ way = 1 ∨ way = 2 ∨ way = 3) (ok : ∀ c ∈ cs, OkC c) (ok' : ∀ c ∈ movL way b cs, OkC c) (I : RingI cs) : RingI (movL way b cs) ∧ ∀ N, CntL (ringS cs) N → CntL (ringS (movL way b cs)) N := by
  obtain ⟨R, l20⟩ := (ringI_iff ok).mp I
  have n0 := I.len
  have n0' : 0 < (pts cs).length := by unfold pts; rw [List.length_map]; exact n0
  have len : (movL way b cs).length = cs.length := by
    unfold movL
    split
    · rw [List.length_reverse, List.length_map]
    · rw [List.length_map]
  by_cases z : way = 2
  · subst z
    have e : pts (movL 2 b cs) = ((pts cs).map mir).reverse := by
      show pts ((cs.map (movC 2 b)).reverse) = _
      have := pts_mov (b := b) (.inr (.inr (.inl rfl)) : (2 : Int) = 0 ∨ (2 : Int) = 1 ∨ (2 : Int) = 2 ∨ (2 : Int) = 3) ok
      unfold pts at this ⊢
      rw [List.map_reverse, this]
      rfl
    refine ⟨(ringI_iff ok').mpr ⟨by rw [e]; exact R.mir, by rw [len]; exact l20⟩, fun N hN => ?_⟩
    refine hN.map (fun p => (-p.1, p.2)) (fun p => (-p.1, p.2)) (fun p => by dsimp only; rw [Int.neg_neg]) (fun p => by dsimp only; rw [Int.neg_neg]) fun x y => ?_
    unfold ringS
    rw [e]
    have h := ins_mir n0' (((-x : Int) : Rat), (y : Rat))
    have e2 : mir (((-x : Int) : Rat), (y : Rat)) = ((x : Rat), (y : Rat)) := by
      show (-((-x : Int) : Rat), (y : Rat)) = _
      rw [Rat.intCast_neg]
      congr 1
      grind
    rw [e2] at h
    exact h
  · have w3 : way = 0 ∨ way = 1 ∨ way = 3 := by omega
    have e : pts (movL way b cs) = (pts cs).map (movP way (b : Rat)) := by
      unfold movL
      rw [if_neg z]
      exact pts_mov w ok
    have f := movP_cr (b := (b : Rat)) w3
    refine ⟨(ringI_iff ok').mpr ⟨by rw [e]; exact R.aff _ 1 (by decide) f, by rw [len]; exact l20⟩, fun N hN => ?_⟩
    have ia := fun q => ins_aff n0' (movP way (b : Rat)) 1 (by decide) f q
    rcases w3 with rfl | rfl | rfl
    · refine hN.map (fun p => (p.1 + b, p.2 - 3 * b)) (fun p => (p.1 - b, p.2 + 3 * b)) (fun p => by dsimp only; rw [Int.add_sub_cancel, Int.sub_add_cancel]) (fun p => by dsimp only; rw [Int.sub_add_cancel, Int.add_sub_cancel]) fun x y => ?_
      unfold ringS
      rw [e]
      have h := ia (((x - b : Int) : Rat), ((y + 3 * b : Int) : Rat))
      have e2 : movP 0 (b : Rat) (((x - b : Int) : Rat), ((y + 3 * b : Int) : Rat)) = ((x : Rat), (y : Rat)) := by
        show (((x - b : Int) : Rat) + (b : Rat), ((y + 3 * b : Int) : Rat) - 3 * (b : Rat)) = _
        rw [Rat.intCast_sub, Rat.intCast_add, Rat.intCast_mul]
        have : ((3 : Int) : Rat) = 3 := rfl
        rw [this]
        congr 1 <;> grind
      rw [e2] at h
      exact h
    · refine hN.map (fun p => (-p.2, p.1)) (fun p => (p.2, -p.1)) (fun p => by dsimp only; rw [Int.neg_neg]) (fun p => by dsimp only; rw [Int.neg_neg]) fun x y => ?_
      unfold ringS
      rw [e]
      have h := ia ((y : Rat), ((-x : Int) : Rat))
      have e2 : movP 1 (b : Rat) ((y : Rat), ((-x : Int) : Rat)) = ((x : Rat), (y : Rat)) := by
        show (-((-x : Int) : Rat), (y : Rat)) = _
        rw [Rat.intCast_neg]
        congr 1
        grind
      rw [e2] at h
      exact h
    · refine hN.map (fun p => (p.1 + b * p.2, p.2)) (fun p => (p.1 - b * p.2, p.2)) (fun p => by dsimp only; rw [Int.add_sub_cancel]) (fun p => by dsimp only; rw [Int.sub_add_cancel]) fun x y => ?_
      unfold ringS
      rw [e]
      have h := ia (((x - b * y : Int) : Rat), (y : Rat))
      have e2 : movP 3 (b : Rat) (((x - b * y : Int) : Rat), (y : Rat)) = ((x : Rat), (y : Rat)) := by
        show (((x - b * y : Int) : Rat) + (b : Rat) * (y : Rat), (y : Rat)) = _
        rw [Rat.intCast_sub, Rat.intCast_mul]
        congr 1
        grind
      rw [e2] at h
      exact h

structure RgM (H : Hp) (l : Addr) (rs : List (V × Cn)) : Prop where
  l : H l = some (.lst (rs.map (·.1)))
  c : ∀ r ∈ rs, CnAt H r.1 r.2
  z : ∀ r ∈ rs, SzM r.2
theorem RgM.at {K : PySem.W.Frag} {H : Hp} {l : Addr} {rs : List (V × Cn)} (R : RgM H l rs) : RgAt K H l rs := ⟨SqL.of R.l, R.c, fun r hr => (R.z r hr).c⟩
theorem RgM.ex {H H' : Hp} {l : Addr} {rs : List (V × Cn)} (R : RgM H l rs) (e : Ex H H') : RgM H' l rs := ⟨e.at R.l, fun r hr => (R.c r hr).ex e, R.z⟩
theorem RgM.kp {H H' : Hp} {d l : Addr} {rs : List (V × Cn)} (R : RgM H l rs) (k : Kp d H H') (D : Dr H d) (n : l ≠ d) : RgM H' l rs := ⟨k _ _ n R.l, fun r hr => (R.c r hr).kp k D, R.z⟩
def sp_law_moved (K : PySem.W.Frag) : Sp := fun vs H Q _ => ∃ (a : Addr) (rs : List (V × Cn)) (way b : Int), vs = [.ref a, .int way, .int b] ∧ RgM H a rs ∧ rs.length ≤ 1000 ∧ (way = 0 ∨ way = 1 ∨ way = 2 ∨ way = 3) ∧ Sz 110 b ∧
  ∀ l ts H', H l = none → Ex H H' → RgAt K H' l ts → rcs ts = movL way b (rcs rs) → H' l = some (.lst (ts.map (·.1))) → Q (.ref l) H'
theorem use_law_moved {K : PySem.W.Frag} {H : Hp} {Q : VK} {E : XK} {a : Addr} {rs : List (V × Cn)} {way b : Int} (R : RgM H a rs) (n : rs.length ≤ 1000) (w : way = 0 ∨ way = 1 ∨ way = 2 ∨ way = 3) (zb : Sz 110 b)
  (q : ∀ l ts H', H l = none → Ex H H' → RgAt K H' l ts → rcs ts = movL way b (rcs rs) → H' l = some (.lst (ts.map (·.1))) → Q (.ref l) H') : sp_law_moved K [.ref a, .int way, .int b] H Q E := ⟨a, rs, way, b, rfl, R, n, w, zb, q⟩
abbrev s_law_moved : Stmt := topS 30
abbrev nm_law_moved : List Str := ["ring", "way", "by", "found", "x", "y"]
theorem sc_law_moved : FnScope nm_law_moved ["ring", "way", "by"] (defScope s_law_moved) := ⟨rfl, rfl, rfl, by decide +kernel, rfl, by decide +kernel, by decide +kernel⟩
theorem st_law_moved {v0 v1 v2 : V} : start nm_law_moved [v0, v1, v2] = [some v0, some v1, some v2, none, none, none] := rfl
section
variable {P : Program} {w : World} {K : PySem.W.Frag} {mg : Str → Option Value} {base : Heap}
theorem ok_law_moved (D : DefAt K mg "_law_moved" s_law_moved ["ring", "way", "by"]) (G__law_low : Has P w K mg base CX0 3 "_law_low" ["top", "bottom"] (sp_law_low K)) : Has P w K mg base CX0 4 "_law_moved" ["ring", "way", "by"] (sp_law_moved K) := by
  refine D.ok sc_law_moved (by rintro _ _ _ _ ⟨_, _, _, _, rfl, _⟩; rfl) (fun f cdv A outer s H vs Q E hr h => ?_)
  obtain ⟨a, rs, way, b, rfl, R, n4, w, zb, q⟩ := h
  refine ⟨_, (pss_cons (ps_set (i := 3) sc_law_moved.nd rfl (Or.inl rfl) (pe_lst pa_nil))
      (pss_cons (ps_for PassesOwn.never rfl (pi_list (pv 0)) (pg_tup (by rfl) (pgs_cons (pg_name (i := 4) sc_law_moved.nd rfl (Or.inl rfl)) (pgs_cons (pg_name (i := 5) sc_law_moved.nd rfl (Or.inl rfl)) pgs_nil)))
        (pss_one (ps_if (pt_cmpR op_eq (pv 1) pe_int (nomark _)) (pss_one (ps_expr (pe_bm PySem.F.plainAttrs_list PySem.F.slot_list_append PySem.F.type_list_append mt_append (pv 3) (pa_cons (pe_tup (pa_cons (pe_tup (pa_cons (pe_op op_add (pe_ix ix_tup (pv 4) pe_int (fun _ _ => rfl)) (pe_op op_mulX (pv 2) (pe_ix ix_tup (pv 4) pe_int (fun _ _ => rfl)))) (pa_cons (pe_ix ix_tup (pv 4) pe_int (fun _ _ => rfl)) pa_nil))) (pa_cons (pe_tup (pa_cons (pe_op op_sub (pe_ix ix_tup (pv 5) pe_int (fun _ _ => rfl)) (pe_op op_mulX (pe_op op_mulX pe_int (pv 2)) (pe_ix ix_tup (pv 5) pe_int (fun _ _ => rfl)))) (pa_cons (pe_ix ix_tup (pv 5) pe_int (fun _ _ => rfl)) pa_nil))) pa_nil))) pa_nil)))) (pss_one (ps_if (pt_cmpR op_eq (pv 1) pe_int (nomark _)) (pss_one (ps_expr (pe_bm PySem.F.plainAttrs_list PySem.F.slot_list_append PySem.F.type_list_append mt_append (pv 3) (pa_cons (pe_tup (pa_cons (pe_tup (pa_cons (pe_op op_sub pe_int (pe_ix ix_tup (pv 5) pe_int (fun _ _ => rfl))) (pa_cons (pe_ix ix_tup (pv 5) pe_int (fun _ _ => rfl)) pa_nil))) (pa_cons (pv 4) pa_nil))) pa_nil)))) (pss_one (ps_if (pt_cmpR op_eq (pv 1) pe_int (nomark _)) (pss_one (ps_expr (pe_bm PySem.F.plainAttrs_list PySem.F.slot_list_append PySem.F.type_list_append mt_append (pv 3) (pa_cons (pe_tup (pa_cons (pe_tup (pa_cons (pe_op op_sub pe_int (pe_ix ix_tup (pv 4) pe_int (fun _ _ => rfl))) (pa_cons (pe_ix ix_tup (pv 4) pe_int (fun _ _ => rfl)) pa_nil))) (pa_cons (pv 5) pa_nil))) pa_nil)))) (pss_one (ps_expr (pe_bm PySem.F.plainAttrs_list PySem.F.slot_list_append PySem.F.type_list_append mt_append (pv 3) (pa_cons (pe_tup (pa_cons (pcall G__law_low (hr.mono (by decide)) (pa_cons (pe_op op_add (pe_op op_mulX (pe_ix ix_tup (pv 4) pe_int (fun _ _ => rfl)) (pe_ix ix_tup (pv 5) pe_int (fun _ _ => rfl))) (pe_op op_mulX (pe_op op_mulX (pv 2) (pe_ix ix_tup (pv 5) pe_int (fun _ _ => rfl))) (pe_ix ix_tup (pv 4) pe_int (fun _ _ => rfl)))) (pa_cons (pe_op op_mulX (pe_ix ix_tup (pv 4) pe_int (fun _ _ => rfl)) (pe_ix ix_tup (pv 5) pe_int (fun _ _ => rfl))) pa_nil))) (pa_cons (pv 5) pa_nil))) pa_nil)))))))))))
      (pss_one (ps_ret (pe_ifExp (pt_cmpR op_eq (pv 1) pe_int (nomark _)) (pe_revL (pv 3)) (pv 3)))))), ?_⟩
  rw [st_law_moved]
  try dsimp only [Cx.nox, Cx.wish, Cx.blk, cx_K]
  walk_at "go"
  rename_i fl H1 n1 e1 h1
  have hl := e1.at R.l
  have zb2 : Sz 200 b := zb.mono (by decide)
  walk_at "go"
  refine for_lst (xs := rs.map (·.1)) (fun i σ H' => ∃ (ts : List (V × Cn)) (o4 o5 : Option V), σ = [some (.ref a), some (.int way), some (.int b), some (.ref fl), o4, o5] ∧ Ex H H' ∧ H' fl = some (.lst (ts.map (·.1))) ∧ (∀ t ∈ ts, CnAt H' t.1 t.2) ∧ (∀ t ∈ ts, SzC t.2) ∧ ts.map (·.2) = ((rcs rs).take i).map (movC way b)) ⟨[], none, none, rfl, e1, h1, fun r hr => absurd hr List.not_mem_nil, fun r hr => absurd hr List.not_mem_nil, rfl⟩ (fun i σ H' _ h => ?_) ?_ ?_
  · obtain ⟨_, _, _, _, e, _⟩ := h
    exact SqL.of (e.at R.l)
  · clear hl
    rintro i x σ G hx ⟨ts, o4, o5, rfl, E, hf, ct, zt, et⟩
    have hi : i < rs.length := by
      have := (List.getElem?_eq_some_iff.mp hx).1
      rwa [List.length_map] at this
    rw [List.getElem?_map, List.getElem?_eq_getElem hi] at hx
    cases hx
    have m := List.getElem_mem hi
    have gi : (rcs rs)[i]? = some (rs[i]).2 := by
      unfold rcs
      rw [List.getElem?_map, List.getElem?_eq_getElem hi]
      rfl
    have ci := (R.c _ m).ex E
    have zi := R.z _ m
    generalize rs[i] = r at *
    obtain ⟨v, c⟩ := r
    dsimp only at *
    obtain ⟨p, u, u', rfl, hp, ⟨pu, rfl, hu⟩, pw, rfl, hw⟩ := ci
    have szi := movC_sz (way := way) w zb zi
    obtain ⟨⟨p1, z1, z2⟩, p2, z3, z4⟩ := zi
    have lt : ts.length ≤ 1000 := by
      have := congrArg List.length et
      rw [List.length_map, List.length_map, List.length_take] at this
      have : (rcs rs).length = rs.length := List.length_map ..
      omega
    have fin : ∀ {G1 G2 : Hp} {nc : Addr}, Ex G G1 → CnAt G1 (.ref nc) (movC way b c) → Kp fl G1 G2 → G2 fl = some (.lst (ts.map (·.1) ++ [.ref nc])) →
        ∃ ts' : List (V × Cn), Ex H G2 ∧ G2 fl = some (.lst (ts'.map (·.1))) ∧ (∀ t ∈ ts', CnAt G2 t.1 t.2) ∧ (∀ t ∈ ts', SzC t.2) ∧ ts'.map (·.2) = ((rcs rs).take (i + 1)).map (movC way b) := by
      intro G1 G2 nc g1 C k h2
      have hf1 := g1.at hf
      refine ⟨ts ++ [(.ref nc, movC way b c)], (E.trans g1).kpd n1 k, by rw [h2, List.map_append]; rfl, fun t ht => ?_, fun t ht => ?_, ?_⟩
      · rcases List.mem_append.mp ht with ht | ht
        · exact ((ct t ht).ex g1).kpL k hf1
        · rw [List.mem_singleton.mp ht]
          exact C.kpL k hf1
      · rcases List.mem_append.mp ht with ht | ht
        · exact zt t ht
        · rw [List.mem_singleton.mp ht]
          exact szi
      · rw [List.map_append, et, List.take_add_one, gi, List.map_append]
        rfl
    have lfn : (ts.map (·.1)).length ≤ 100000 := by rw [List.length_map]; omega
    rcases w with rfl | rfl | rfl | rfl
    · walk_at "go"
      rename_i t1 G1 m1 g1 f1 t2 G2 m2 g2 f2 nc G3 m3 g3 f3
      have g := (g1.trans g2).trans g3
      refine r_app (g.at hf) lfn fun G4 k4 h4 => ?_
      walk_at "go"
      obtain ⟨ts', a1, a2, a3, a4, a5⟩ := fin g ⟨nc, _, _, rfl, f3, ⟨t1, rfl, (g2.trans g3).at f1⟩, t2, rfl, g3.at f2⟩ k4 h4
      exact ⟨ts', _, _, rfl, a1, a2, a3, a4, a5⟩
    · walk_at "go"
      rename_i t1 G1 m1 g1 f1 nc G3 m3 g3 f3
      have g := g1.trans g3
      refine r_app (g.at hf) lfn fun G4 k4 h4 => ?_
      walk_at "go"
      obtain ⟨ts', a1, a2, a3, a4, a5⟩ := fin g ⟨nc, _, _, rfl, f3, ⟨t1, rfl, g3.at f1⟩, pu, rfl, g.at hu⟩ k4 h4
      exact ⟨ts', _, _, rfl, a1, a2, a3, a4, a5⟩
    · walk_at "go"
      rename_i t1 G1 m1 g1 f1 nc G3 m3 g3 f3
      have g := g1.trans g3
      refine r_app (g.at hf) lfn fun G4 k4 h4 => ?_
      walk_at "go"
      obtain ⟨ts', a1, a2, a3, a4, a5⟩ := fin g ⟨nc, _, _, rfl, f3, ⟨t1, rfl, g3.at f1⟩, pw, rfl, g.at hw⟩ k4 h4
      exact ⟨ts', _, _, rfl, a1, a2, a3, a4, a5⟩
    · walk_at "go"
      refine use_law_low (Int.mul_pos p1 p2) ((z2.mul z4).mono (by decide)) fun t1 G1 m1 g1 f1 => ?_
      have hw := g1.at hw
      have hf' := g1.at hf
      walk_at "go"
      rename_i nc G3 m3 g3 f3
      have g := g1.trans g3
      refine r_app (g.at hf) lfn fun G4 k4 h4 => ?_
      walk_at "go"
      obtain ⟨ts', a1, a2, a3, a4, a5⟩ := fin g ⟨nc, _, _, rfl, f3, f1.ex g3, pw, rfl, g3.at hw⟩ k4 h4
      exact ⟨ts', _, _, rfl, a1, a2, a3, a4, a5⟩
  · rintro σ G ⟨ts, o4, o5, rfl, E, hf, ct, zt, et⟩
    have nl : (rs.map (·.1)).length = (rcs rs).length := by unfold rcs; rw [List.length_map, List.length_map]
    rw [nl, List.take_length] at et
    by_cases z : way = 2
    · subst z
      walk_at "go"
      refine r_revL hf fun l G1 m1 g1 f1 => ?_
      walk_at "go"
      refine q l ts.reverse G1 (free_back E m1) (E.trans g1) ⟨SqL.of (by rw [f1, List.map_reverse]), fun r hr => (ct r (List.mem_reverse.mp hr)).ex g1, fun r hr => zt r (List.mem_reverse.mp hr)⟩ ?_ (by rw [f1, List.map_reverse])
      unfold movL
      rw [if_pos rfl, ← et]
      unfold rcs
      rw [List.map_reverse]
    · walk_at "go"
      refine q fl ts G n1 E ⟨SqL.of hf, ct, zt⟩ ?_ hf
      unfold movL
      rw [if_neg z, ← et]
      rfl

end
def sp_law_hand (_ : PySem.W.Frag) : Sp := fun vs H Q _ => ∃ (x y z : V) (a b c : Cn), vs = [x, y, z] ∧ CnAt H x a ∧ CnAt H y b ∧ CnAt H z c ∧ (SzF 2000 2000 a.1 ∧ SzF 2000 2000 a.2) ∧ (SzF 2000 2000 b.1 ∧ SzF 2000 2000 b.2) ∧ (SzF 2000 2000 c.1 ∧ SzF 2000 2000 c.2) ∧
  ∀ H', Ex H H' → Q (.int (handL a b c)) H'
theorem use_law_hand {K : PySem.W.Frag} {H : Hp} {Q : VK} {E : XK} {x y z : V} {a b c : Cn} (hx : CnAt H x a) (hy : CnAt H y b) (hz : CnAt H z c) (za : SzC a) (zb : SzC b) (zc : SzC c)
    (q : ∀ H', Ex H H' → Q (.int (handL a b c)) H') : sp_law_hand K [x, y, z] H Q E := ⟨x, y, z, a, b, c, rfl, hx, hy, hz, ⟨za.1.mono, za.2.mono⟩, ⟨zb.1.mono, zb.2.mono⟩, ⟨zc.1.mono, zc.2.mono⟩, q⟩
theorem SzF.step {f g : Fq} (h : SzF 2000 2000 f) (k : SzF 2000 2000 g) : Sz 4001 (stepI f g) := Sz.sub1 (h.2.1.mul k.2.2) (k.2.1.mul h.2.2)
abbrev s_law_hand : Stmt := topS 28
abbrev nm_law_hand : List Str := ["one", "other", "third", "steps", "two", "way", "first"]
theorem sc_law_hand : FnScope nm_law_hand ["one", "other", "third"] (defScope s_law_hand) := ⟨rfl, rfl, rfl, by decide +kernel, rfl, by decide +kernel, by decide +kernel⟩
theorem st_law_hand {v0 v1 v2 : V} : start nm_law_hand [v0, v1, v2] = [some v0, some v1, some v2, none, none, none, none] := rfl
section
variable {P : Program} {w : World} {K : PySem.W.Frag} {mg : Str → Option Value} {base : Heap}
theorem ok_law_hand (D : DefAt K mg "_law_hand" s_law_hand ["one", "other", "third"]) : Has P w K mg base CX0 2 "_law_hand" ["one", "other", "third"] (sp_law_hand K) := by
  refine D.ok sc_law_hand (by rintro _ _ _ _ ⟨_, _, _, _, _, _, rfl, _⟩; rfl) (fun f cdv A outer s H vs Q E hr h => ?_)
  obtain ⟨_, _, _, a, b, c, rfl, ca, cb, cc, za, zb, zc, q⟩ := h
  obtain ⟨pa, ua, wa, rfl, ha, fa1, fa2⟩ := id ca
  obtain ⟨pb, ub, wb, rfl, hb, fb1, fb2⟩ := id cb
  obtain ⟨pc, uc, wc, rfl, hc, fc1, fc2⟩ := id cc
  refine ⟨_, (pss_cons (ps_set (i := 3) sc_law_hand.nd rfl (Or.inl rfl) (pe_lst pa_nil))
      (pss_cons (ps_for PassesOwn.never rfl (pi_list (pe_lst (pa_cons (pe_tup (pa_cons (pv 1) (pa_cons pe_int pa_nil))) (pa_cons (pe_tup (pa_cons (pv 2) (pa_cons pe_int pa_nil))) (pa_cons (pe_tup (pa_cons (pv 1) (pa_cons pe_int pa_nil))) (pa_cons (pe_tup (pa_cons (pv 2) (pa_cons pe_int pa_nil))) pa_nil)))))) (pg_tup (by rfl) (pgs_cons (pg_name (i := 4) sc_law_hand.nd rfl (Or.inl rfl)) (pgs_cons (pg_name (i := 5) sc_law_hand.nd rfl (Or.inl rfl)) pgs_nil)))
        (pss_one (ps_expr (pe_bm PySem.F.plainAttrs_list PySem.F.slot_list_append PySem.F.type_list_append mt_append (pv 3) (pa_cons (pe_op op_sub (pe_op op_mulX (pe_ix ix_tup (pe_ix ix_tup (pv 4) (pv 5) (fun _ _ => rfl)) pe_int (fun _ _ => rfl)) (pe_ix ix_tup (pe_ix ix_tup (pv 0) (pv 5) (fun _ _ => rfl)) pe_int (fun _ _ => rfl))) (pe_op op_mulX (pe_ix ix_tup (pe_ix ix_tup (pv 0) (pv 5) (fun _ _ => rfl)) pe_int (fun _ _ => rfl)) (pe_ix ix_tup (pe_ix ix_tup (pv 4) (pv 5) (fun _ _ => rfl)) pe_int (fun _ _ => rfl)))) pa_nil)))))
      (pss_cons (ps_set (i := 6) sc_law_hand.nd rfl (Or.inl rfl) (pe_op op_mulX (pe_op op_mulX (pe_op op_mulX (pe_ix ix_list (pv 3) pe_int (fun _ _ => rfl)) (pe_ix ix_list (pv 3) pe_int (fun _ _ => rfl))) (pe_ix ix_tup (pe_ix ix_tup (pv 1) pe_int (fun _ _ => rfl)) pe_int (fun _ _ => rfl))) (pe_ix ix_tup (pe_ix ix_tup (pv 2) pe_int (fun _ _ => rfl)) pe_int (fun _ _ => rfl))))
      (pss_one (ps_ret (pe_op op_sub (pv 6) (pe_op op_mulX (pe_op op_mulX (pe_op op_mulX (pe_ix ix_list (pv 3) pe_int (fun _ _ => rfl)) (pe_ix ix_list (pv 3) pe_int (fun _ _ => rfl))) (pe_ix ix_tup (pe_ix ix_tup (pv 1) pe_int (fun _ _ => rfl)) pe_int (fun _ _ => rfl))) (pe_ix ix_tup (pe_ix ix_tup (pv 2) pe_int (fun _ _ => rfl)) pe_int (fun _ _ => rfl))))))))), ?_⟩
  rw [st_law_hand]
  try dsimp only [Cx.nox, Cx.wish, Cx.blk, cx_K]
  walk_at "go"
  rename_i l H1 n1 e1 h1 t1 H2 n2 e2 h2 t2 H3 n3 e3 h3 t3 H4 n4 e4 h4 t4 H5 n5 e5 h5 lw H6 n6 e6 h6
  have h1 := ((((e2.trans e3).trans e4).trans e5).trans e6).at h1
  have h2 := (((e3.trans e4).trans e5).trans e6).at h2
  have h3 := ((e4.trans e5).trans e6).at h3
  have h4 := (e5.trans e6).at h4
  have h5 := e6.at h5
  have E6 := ((((e1.trans e2).trans e3).trans e4).trans e5).trans e6
  have nl : H l = none := n1
  have lwl : l ≠ lw := ne_of_none (((((e2.trans e3).trans e4).trans e5)).at (show H1 l = some (.lst []) from by assumption)) n6
  clear e1 e2 e3 e4 e5 e6 n1 n2 n3 n4 n5 n6
  refine for_lst (xs := [.ref t1, .ref t2, .ref t3, .ref t4]) (fun i σ H' => ∃ o4 o5 : Option V, σ = [some (.ref pa), some (.ref pb), some (.ref pc), some (.ref l), o4, o5, none] ∧ Ex H H' ∧ H' lw = some (.lst [.ref t1, .ref t2, .ref t3, .ref t4]) ∧ H' l = some (.lst (([stepI b.1 a.1, stepI c.2 a.2, stepI b.2 a.2, stepI c.1 a.1].take i).map V.int)) ∧ H' t1 = some (.tup [.ref pb, .int 0]) ∧ H' t2 = some (.tup [.ref pc, .int 1]) ∧ H' t3 = some (.tup [.ref pb, .int 1]) ∧ H' t4 = some (.tup [.ref pc, .int 0])) ⟨none, none, rfl, E6, h6, h1, h2, h3, h4, h5⟩ (fun i σ H' _ h => ?_) ?_ ?_
  · obtain ⟨_, _, _, _, z, _⟩ := h
    exact SqL.of z
  · clear h1 h2 h3 h4 h5 h6 E6
    rintro i x σ G hx ⟨o4, o5, rfl, E, hw, hl, h1, h2, h3, h4⟩
    have il : i < 4 := (List.getElem?_eq_some_iff.mp hx).1
    obtain ⟨_, va, ha1⟩ := fa1.ex E
    obtain ⟨_, va2, ha2⟩ := fa2.ex E
    obtain ⟨_, vb, hb1⟩ := fb1.ex E
    obtain ⟨_, vb2, hb2⟩ := fb2.ex E
    obtain ⟨_, vc, hc1⟩ := fc1.ex E
    obtain ⟨_, vc2, hc2⟩ := fc2.ex E
    subst va va2 vb vb2 vc vc2
    have ha := E.at ha
    have hb := E.at hb
    have hc := E.at hc
    obtain ⟨⟨_, za1, za2⟩, _, za3, za4⟩ := za
    obtain ⟨⟨_, zb1, zb2⟩, _, zb3, zb4⟩ := zb
    obtain ⟨⟨_, zc1, zc2⟩, _, zc3, zc4⟩ := zc
    have fin : ∀ {G' : Hp} {s : Int}, ([stepI b.1 a.1, stepI c.2 a.2, stepI b.2 a.2, stepI c.1 a.1].take i).map V.int ++ [V.int s] = ([stepI b.1 a.1, stepI c.2 a.2, stepI b.2 a.2, stepI c.1 a.1].take (i + 1)).map V.int → Kp l G G' → G' l = some (.lst (([stepI b.1 a.1, stepI c.2 a.2, stepI b.2 a.2, stepI c.1 a.1].take i).map V.int ++ [V.int s])) →
        Ex H G' ∧ G' lw = some (.lst [.ref t1, .ref t2, .ref t3, .ref t4]) ∧ G' l = some (.lst (([stepI b.1 a.1, stepI c.2 a.2, stepI b.2 a.2, stepI c.1 a.1].take (i + 1)).map V.int)) ∧ G' t1 = some (.tup [.ref pb, .int 0]) ∧ G' t2 = some (.tup [.ref pc, .int 1]) ∧ G' t3 = some (.tup [.ref pb, .int 1]) ∧ G' t4 = some (.tup [.ref pc, .int 0]) := by
      intro G' s e k h
      rw [e] at h
      exact ⟨E.kpd nl k, k _ _ lwl.symm hw, h, k.tupL hl h1, k.tupL hl h2, k.tupL hl h3, k.tupL hl h4⟩
    have ln : (([stepI b.1 a.1, stepI c.2 a.2, stepI b.2 a.2, stepI c.1 a.1].take i).map V.int).length ≤ 100000 := by
      rw [List.length_map, List.length_take]
      show min i 4 ≤ _
      omega
    obtain rfl | rfl | rfl | rfl : i = 0 ∨ i = 1 ∨ i = 2 ∨ i = 3 := by omega
    · cases hx
      walk_at "go"
      refine r_app hl ln fun G2 k2 g2 => ?_
      walk_at "go"
      exact ⟨_, _, rfl, fin (s := stepI b.1 a.1) rfl k2 g2⟩
    · cases hx
      walk_at "go"
      refine r_app hl ln fun G2 k2 g2 => ?_
      walk_at "go"
      exact ⟨_, _, rfl, fin (s := stepI c.2 a.2) rfl k2 g2⟩
    · cases hx
      walk_at "go"
      refine r_app hl ln fun G2 k2 g2 => ?_
      walk_at "go"
      exact ⟨_, _, rfl, fin (s := stepI b.2 a.2) rfl k2 g2⟩
    · cases hx
      walk_at "go"
      refine r_app hl ln fun G2 k2 g2 => ?_
      walk_at "go"
      exact ⟨_, _, rfl, fin (s := stepI c.1 a.1) rfl k2 g2⟩
  · rintro σ G ⟨o4, o5, rfl, E, _, hl', _⟩
    have hl' : G l = some (.lst [.int (stepI b.1 a.1), .int (stepI c.2 a.2), .int (stepI b.2 a.2), .int (stepI c.1 a.1)]) := hl'
    have s1 := za.1
    have y1 := SzF.step zb.1 za.1
    have y2 := SzF.step zc.2 za.2
    have y3 := SzF.step zb.2 za.2
    have y4 := SzF.step zc.1 za.1
    obtain ⟨_, vb, hb1⟩ := fb1.ex E
    obtain ⟨_, vb2, hb2⟩ := fb2.ex E
    obtain ⟨_, vc, hc1⟩ := fc1.ex E
    obtain ⟨_, vc2, hc2⟩ := fc2.ex E
    subst vb vb2 vc vc2
    have hb := E.at hb
    have hc := E.at hc
    obtain ⟨⟨_, zb1, zb2⟩, _, zb3, zb4⟩ := zb
    obtain ⟨⟨_, zc1, zc2⟩, _, zc3, zc4⟩ := zc
    clear h1 h2 h3 h4 h5 h6 E6
    walk_at "go"
    exact q _ E

end
theorem handLI {cs : List Cn} (ok : ∀ c ∈ cs, OkC c) (n0 : 0 < cs.length) (k j : Nat) : 0 < handL (cI cs k) (cI cs (k + 1)) (cI cs j) ↔ 0 < handI (cI cs k) (cI cs (k + 1)) (cI cs j) :=
  (handL_pos (ok _ (cI_mem n0 _)) (ok _ (cI_mem n0 _)) (ok _ (cI_mem n0 _))).trans (handI_cr (ok _ (cI_mem n0 _)) (ok _ (cI_mem n0 _)) (ok _ (cI_mem n0 _))).symm
def sp_law_is_ring (K : PySem.W.Frag) : Sp := fun vs H Q _ => ∃ (a : Addr) (rs : List (V × Cn)), vs = [.ref a] ∧ RgAt K H a rs ∧ rs.length ≤ 10000 ∧ (∀ H', Ex H H' → RingI (rcs rs) → Q (.bl true) H') ∧ (∀ H', Ex H H' → ¬ RingI (rcs rs) → Q (.bl false) H')
theorem use_law_is_ring {K : PySem.W.Frag} {H : Hp} {Q : VK} {E : XK} {a : Addr} {rs : List (V × Cn)} (R : RgAt K H a rs) (n : rs.length ≤ 10000) (q : ∀ H', Ex H H' → RingI (rcs rs) → Q (.bl true) H') (q' : ∀ H', Ex H H' → ¬ RingI (rcs rs) → Q (.bl false) H') : sp_law_is_ring K [.ref a] H Q E := ⟨a, rs, rfl, R, n, q, q'⟩
abbrev s_law_is_ring : Stmt := topS 29
abbrev nm_law_is_ring : List Str := ["ring", "k", "other", "j"]
theorem sc_law_is_ring : FnScope nm_law_is_ring ["ring"] (defScope s_law_is_ring) := ⟨rfl, rfl, rfl, by decide +kernel, rfl, by decide +kernel, by decide +kernel⟩
theorem st_law_is_ring {v0 : V} : start nm_law_is_ring [v0] = [some v0, none, none, none] := rfl
section
variable {P : Program} {w : World} {K : PySem.W.Frag} {mg : Str → Option Value} {base : Heap}
theorem ok_law_is_ring (D : DefAt K mg "_law_is_ring" s_law_is_ring ["ring"]) (B_len : mg "len" = none) (B_range : mg "range" = none) (G__law_hand : Has P w K mg base CX0 2 "_law_hand" ["one", "other", "third"] (sp_law_hand K)) : Has P w K mg base CX0 3 "_law_is_ring" ["ring"] (sp_law_is_ring K) := by
  refine D.ok sc_law_is_ring (by rintro _ _ _ _ ⟨_, _, rfl, _⟩; rfl) (fun f cdv A outer s H vs Q E hr h => ?_)
  obtain ⟨a, rs, rfl, R, n4, q, q'⟩ := h
  have nl : (rs.map (·.1)).length = rs.length := List.length_map ..
  have nc : (rcs rs).length = rs.length := List.length_map ..
  have hl := R.l
  refine ⟨_, (pss_cons (ps_if (PW.pt (pw_or (pt_cmpR op_lt (pe_callB cl_len (by rfl) B_len (by decide +kernel) (pa_cons (pv 0) pa_nil)) pe_int (nomark _)) (pw_or1 (pt_cmpR op_gt (pe_callB cl_len (by rfl) B_len (by decide +kernel) (pa_cons (pv 0) pa_nil)) pe_int (nomark _))))) (pss_one (ps_ret pe_bl)) pss_nil)
      (pss_cons (ps_for PassesOwn.never rfl (pi_range1 rfl B_range (pa_cons (pe_callB cl_len (by rfl) B_len (by decide +kernel) (pa_cons (pv 0) pa_nil)) pa_nil)) (pg_name (i := 1) sc_law_is_ring.nd rfl (Or.inl rfl))
        (pss_cons (ps_set (i := 2) sc_law_is_ring.nd rfl (Or.inl rfl) (pe_ix ix_list (pv 0) (pe_op op_mod (pe_op op_add (pv 1) pe_int) (pe_callB cl_len (by rfl) B_len (by decide +kernel) (pa_cons (pv 0) pa_nil))) (fun _ _ => rfl)))
        (pss_one (ps_for PassesOwn.never rfl (pi_range1 rfl B_range (pa_cons (pe_callB cl_len (by rfl) B_len (by decide +kernel) (pa_cons (pv 0) pa_nil)) pa_nil)) (pg_name (i := 3) sc_law_is_ring.nd rfl (Or.inl rfl))
          (pss_one (ps_if (PW.pt (pw_and (pt_cmpR op_ne (pv 3) (pv 1) (nomark _)) (pw_and (pt_cmpR op_ne (pv 3) (pe_op op_mod (pe_op op_add (pv 1) pe_int) (pe_callB cl_len (by rfl) B_len (by decide +kernel) (pa_cons (pv 0) pa_nil))) (nomark _)) (pw_and1 (pt_cmpR op_le (pcall G__law_hand (hr.mono (by decide)) (pa_cons (pe_ix ix_list (pv 0) (pv 1) (fun _ _ => rfl)) (pa_cons (pv 2) (pa_cons (pe_ix ix_list (pv 0) (pv 3) (fun _ _ => rfl)) pa_nil)))) pe_int (nomark _)))))) (pss_one (ps_ret pe_bl)) pss_nil))))))
      (pss_one (ps_ret pe_bl)))), ?_⟩
  rw [st_law_is_ring]
  try dsimp only [Cx.nox, Cx.wish, Cx.blk, cx_K]
  walk_at "go"
  rw [nl]
  by_cases c3 : 3 ≤ rs.length
  · by_cases c20 : rs.length ≤ 20
    · have hL : ∀ k j, 0 < handL (cI (rcs rs) k) (cI (rcs rs) (k + 1)) (cI (rcs rs) j) ↔ 0 < handI (cI (rcs rs) k) (cI (rcs rs) (k + 1)) (cI (rcs rs) j) := handLI R.ok (by omega)
      walk_at "go"
      rw [nl]
      walk_at "go"
      refine r_rng1 (by omega) (by omega) ?_
      refine for_rng (fun i σ H' => ∃ (o1 o2 o3 : Option V), σ = [some (.ref a), o1, o2, o3] ∧ Ex H H' ∧ ∀ k, k < i → ∀ j, j < rs.length → j ≠ k → j ≠ (k + 1) % rs.length → 0 < handI (cI (rcs rs) k) (cI (rcs rs) (k + 1)) (cI (rcs rs) j)) ⟨none, none, none, rfl, Ex.refl, fun k hk => absurd hk (Nat.not_lt_zero _)⟩ ?_ ?_
      · rintro i σ H1 hi ⟨o1, o2, o3, rfl, e1, all⟩
        have hl := sql_up e1 hl
        have hi : i < rs.length := hi
        obtain ⟨vn, an, cn, zn⟩ := (R.ex e1).at (i := (((i + 1) % rs.length : Nat) : Int)) (by omega) (by have := Nat.mod_lt (i + 1) (show 0 < rs.length by omega); omega)
        have en := mod1 rs.length i
        rw [Int.toNat_natCast, ← nc, cI_mod] at cn zn
        walk_at "go"
        rw [nl, show (0 + (i : Int) + 1) = (i : Int) + 1 by omega, en]
        refine r_ixL hl an ?_
        walk_at "go"
        rw [nl]
        refine r_rng1 (by omega) (by omega) ?_
        refine for_rng (fun j σ H' => ∃ (o3 : Option V), σ = [some (.ref a), some (.int (0 + (i : Int))), some vn, o3] ∧ Ex H H' ∧ CnAt H' vn (cI (rcs rs) (i + 1)) ∧ ∀ j', j' < j → j' ≠ i → j' ≠ (i + 1) % rs.length → 0 < handI (cI (rcs rs) i) (cI (rcs rs) (i + 1)) (cI (rcs rs) j')) ⟨o3, rfl, e1, cn, fun k hk => absurd hk (Nat.not_lt_zero _)⟩ ?_ ?_
        · clear e1 hl cn
          rintro j σ H1 hj ⟨o3, rfl, e1, cn, allj⟩
          have R1 := R.ex e1
          have hl := R1.l
          have hj : j < rs.length := hj
          obtain ⟨vk, ak, ck, zk⟩ := R1.at (i := 0 + (i : Int)) (by omega) (by omega)
          obtain ⟨vj, aj, cj, zj⟩ := R1.at (i := 0 + (j : Int)) (by omega) (by omega)
          rw [show (0 + (i : Int)).toNat = i by omega] at ck zk
          rw [show (0 + (j : Int)).toNat = j by omega] at cj zj
          by_cases hk : j = i
          · walk_at "go"
            exact ⟨_, rfl, e1, cn, fun j' hj' n1 n2 => allj j' (by omega) n1 n2⟩
          · walk_at "go"
            rw [nl, show (0 + (i : Int) + 1) = (i : Int) + 1 by omega, en]
            by_cases hn : j = (i + 1) % rs.length
            · walk_at "go"
              refine ⟨_, rfl, e1, cn, fun j' hj' n1 n2 => allj j' ?_ n1 n2⟩
              by_cases z : j' = j
              · exact absurd (z.trans hn) n2
              · omega
            · walk_at "go"
              refine r_ixL hl ak ?_
              walk_at "go"
              refine r_ixL hl aj ?_
              walk_at "go"
              refine use_law_hand ck cn cj zk zn zj fun H2 e2 => ?_
              walk_at "go"
              refine if_2 (fun hx => ?_) (fun hx => ?_)
              · have hx := of_decide_eq_true hx
                walk_at "go"
                refine q' _ (e1.trans e2) fun I => ?_
                have := I.2.2 i (by omega) j (by omega) hk (by rw [nc]; exact hn)
                have := (hL i j).mpr this
                omega
              · have hx := of_decide_eq_false hx
                walk_at "go"
                refine ⟨_, rfl, e1.trans e2, cn.ex e2, fun j' hj' n1 n2 => ?_⟩
                by_cases z : j' = j
                · rw [z]
                  exact (hL i j).mp (by omega)
                · exact allj j' (by omega) n1 n2
        · rintro σ H2 ⟨o3, rfl, e2, cn, allj⟩
          walk_at "go"
          refine ⟨_, _, _, rfl, e2, fun k hk j hj n1 n2 => ?_⟩
          by_cases z : k = i
          · subst z
            exact allj j hj n1 n2
          · exact all k (by omega) j hj n1 n2
      · rintro σ H1 ⟨o1, o2, o3, rfl, e1, all⟩
        walk_at "go"
        exact q _ e1 ⟨by omega, by omega, by rw [nc]; exact all⟩
    · walk_at "go"
      exact q' _ Ex.refl fun I => c20 (by have := I.2.1; omega)
  · walk_at "go"
    exact q' _ Ex.refl fun I => c3 (by have := I.1; omega)

end
--@ needs LedgV
/-- an entry, its count perhaps none -/
structure EntY (e : Ent) : Prop where
  m0 : 0 < e.m
  za : Sz 620 e.a
  zb : Sz 620 e.b
  zm : Sz 200 e.m
  zk : Sz 620 e.k
  zt : Sz 620 e.t
theorem EntY.z {e : Ent} (y : EntY e) (n0 : 0 ≤ e.n) (n1 : e.n < 1000000000000000000000000000000) : EntZ e := ⟨y.m0, y.za, y.zb, y.zm, y.zk, n0, n1, y.zt⟩
/-- a ledger's deed -/
inductive LD where
  | put (s : Addr) (e : Ent)
  | drop (i : Int)
  | change (i t : Int)
  | back
def LD.v : LD → List V
  | .put s e => [.str "put", .ref s, .int e.k, .int e.n, .int e.t]
  | .drop i => [.str "drop", .int i]
  | .change i t => [.str "change", .int i, .int t]
  | .back => [.str "back"]
/-- it may be asked -/
def LD.ok (F : Hp) : LD → Prop
  | .put s e => F s = some (.tup [.int e.a, .int e.b, .int e.m]) ∧ EntY e
  | .drop _ => True
  | .change _ t => Sz 620 t
  | .back => True
theorem LD.ok.ex {F F' : Hp} {d : LD} (h : d.ok F) (e : Ex F F') : d.ok F' := by
  cases d with
  | put s en => exact ⟨e _ _ h.1, h.2⟩
  | drop _ => trivial
  | change _ _ => exact h
  | back => trivial
inductive OutL (es : List Ent) (hs : List (List Ent)) : LD → List Fd → List Ent → List (List Ent) → Prop where
  | put {s : Addr} {e : Ent} (h0 : 0 ≤ e.n) (h1 : e.n < 1000000000000000000000000000000) (l : es.length ≠ 200) : OutL es hs (.put s e) [.i (wL (es ++ [e])), .s ""] (es ++ [e]) (hs ++ [es])
  | putC {s : Addr} {e : Ent} (h : e.n < 0 ∨ 1000000000000000000000000000000 ≤ e.n) : OutL es hs (.put s e) [.s "none", .s "NoCount+"] es hs
  | putM {s : Addr} {e : Ent} (h0 : 0 ≤ e.n) (h1 : e.n < 1000000000000000000000000000000) (l : es.length = 200) : OutL es hs (.put s e) [.s "none", .s "TooMany+"] es hs
  | drop {i : Int} (h : 0 ≤ i ∧ i < es.length) : OutL es hs (.drop i) [.i (wL (es.take i.toNat ++ es.drop (i.toNat + 1))), .s ""] (es.take i.toNat ++ es.drop (i.toNat + 1)) (hs ++ [es])
  | dropX {i : Int} (h : ¬ (0 ≤ i ∧ i < es.length)) : OutL es hs (.drop i) [.s "none", .s "NoEntry+"] es hs
  | change {i t : Int} {e : Ent} (i0 : 0 ≤ i) (g : es[i.toNat]? = some e) : OutL es hs (.change i t) [.i (wL (es.take i.toNat ++ [e.times t] ++ es.drop (i.toNat + 1))), .s ""] (es.take i.toNat ++ [e.times t] ++ es.drop (i.toNat + 1)) (hs ++ [es])
  | changeX {i t : Int} (h : ¬ (0 ≤ i ∧ i < es.length)) : OutL es hs (.change i t) [.s "none", .s "NoEntry+"] es hs
  | back {es0 : List Ent} {hs' : List (List Ent)} (e : hs = hs' ++ [es0]) : OutL es hs .back [.n, .s ""] es0 hs'
  | backX (e : hs = []) : OutL es hs .back [.s "none", .s "NothingLeft+"] es hs
theorem snocL_inj {α : Type} {xs ys : List α} {x y : α} (h : xs ++ [x] = ys ++ [y]) : xs = ys ∧ x = y := by
  have h1 := congrArg List.reverse h
  simp at h1
  exact ⟨h1.2, h1.1⟩
theorem OutL.uniq {es : List Ent} {hs : List (List Ent)} {d : LD} {r r' : List Fd} {e1 e2 : List Ent} {h1 h2 : List (List Ent)} (o : OutL es hs d r e1 h1) (o' : OutL es hs d r' e2 h2) : r = r' ∧ e1 = e2 ∧ h1 = h2 := by
  cases o with
  | put a b l =>
    cases o' with
    | put _ _ _ => exact ⟨rfl, rfl, rfl⟩
    | putC h => omega
    | putM _ _ l' => exact (l l').elim
  | putC h =>
    cases o' with
    | put _ _ _ => omega
    | putC _ => exact ⟨rfl, rfl, rfl⟩
    | putM _ _ _ => omega
  | putM a b l =>
    cases o' with
    | put _ _ l' => exact (l' l).elim
    | putC h => omega
    | putM _ _ _ => exact ⟨rfl, rfl, rfl⟩
  | drop h =>
    cases o' with
    | drop _ => exact ⟨rfl, rfl, rfl⟩
    | dropX h' => exact (h' h).elim
  | dropX h =>
    cases o' with
    | drop h' => exact (h h').elim
    | dropX _ => exact ⟨rfl, rfl, rfl⟩
  | change i0 g =>
    cases o' with
    | change _ g' =>
      rw [g] at g'
      cases g'
      exact ⟨rfl, rfl, rfl⟩
    | changeX h' =>
      have := (List.getElem?_eq_some_iff.mp g).1
      exact (h' (by omega)).elim
  | changeX h =>
    cases o' with
    | change _ g' =>
      have := (List.getElem?_eq_some_iff.mp g').1
      exact (h (by omega)).elim
    | changeX _ => exact ⟨rfl, rfl, rfl⟩
  | back e =>
    cases o' with
    | back e' =>
      obtain ⟨a, b⟩ := snocL_inj (e.symm.trans e')
      exact ⟨rfl, b, a⟩
    | backX e' =>
      rw [e'] at e
      simp at e
  | backX e =>
    cases o' with
    | back e' =>
      rw [e] at e'
      simp at e'
    | backX _ => exact ⟨rfl, rfl, rfl⟩
theorem OutL.ok {es : List Ent} {hs : List (List Ent)} {d : LD} {r : List Fd} {e1 : List Ent} {h1 : List (List Ent)} (o : OutL es hs d r e1 h1) : r.all Fd.ok = true := by
  cases o with
  | put _ _ _ => exact ok_iS
  | putC _ => exact ok_SS
  | putM _ _ _ => exact ok_SS
  | drop _ => exact ok_iS
  | dropX _ => exact ok_SS
  | change _ _ => exact ok_iS
  | changeX _ => exact ok_SS
  | back _ => exact ok_nS
  | backX _ => exact ok_SS
theorem AllZ.app {es fs : List Ent} (h : AllZ es) (h' : AllZ fs) : AllZ (es ++ fs) := fun e he => (List.mem_append.mp he).elim (h e) (h' e)
theorem AllZ.take {es : List Ent} (h : AllZ es) (i : Nat) : AllZ (es.take i) := fun e he => h e (List.mem_of_mem_take he)
theorem AllZ.drop {es : List Ent} (h : AllZ es) (i : Nat) : AllZ (es.drop i) := fun e he => h e (List.mem_of_mem_drop he)
theorem AllZ.one {e : Ent} (z : EntZ e) : AllZ [e] := fun x hx => by
  rw [List.mem_singleton.mp hx]
  exact z
/-- what a ledger keeps is in its bounds -/
def HisZ (n : Nat) (es : List Ent) (hs : List (List Ent)) : Prop := (AllZ es ∧ es.length ≤ 200) ∧ (∀ x ∈ hs, AllZ x ∧ x.length ≤ 200) ∧ hs.length ≤ n
theorem HisZ.out {F : Hp} {n : Nat} {es e1 : List Ent} {hs h1 : List (List Ent)} {d : LD} {r : List Fd} (h : HisZ n es hs) (o : OutL es hs d r e1 h1) (ok : d.ok F) : HisZ (n + 1) e1 h1 := by
  obtain ⟨⟨z, l⟩, zs, ln⟩ := h
  have up : ∀ x ∈ hs ++ [es], AllZ x ∧ x.length ≤ 200 := fun x hx => by
    rcases List.mem_append.mp hx with hx | hx
    · exact zs x hx
    · rw [List.mem_singleton.mp hx]
      exact ⟨z, l⟩
  have ul : (hs ++ [es]).length ≤ n + 1 := by
    rw [List.length_append]
    show hs.length + 1 ≤ _
    omega
  cases o with
  | put a b ne => exact ⟨⟨z.app (.one (ok.2.z a b)), by rw [List.length_append]; show es.length + 1 ≤ _; omega⟩, up, ul⟩
  | putC _ => exact ⟨⟨z, l⟩, zs, by omega⟩
  | putM _ _ _ => exact ⟨⟨z, l⟩, zs, by omega⟩
  | drop _ => exact ⟨⟨(z.take _).app (z.drop _), by rw [List.length_append, List.length_take, List.length_drop]; omega⟩, up, ul⟩
  | dropX _ => exact ⟨⟨z, l⟩, zs, by omega⟩
  | change i0 g =>
    have := (List.getElem?_eq_some_iff.mp g).1
    exact ⟨⟨((z.take _).app (.one ((z.at g).times ok))).app (z.drop _), by rw [List.length_append, List.length_append, List.length_take, List.length_drop]; show _ + 1 + _ ≤ _; omega⟩, up, ul⟩
  | changeX _ => exact ⟨⟨z, l⟩, zs, by omega⟩
  | back e =>
    subst e
    have hx := zs e1 (by simp)
    refine ⟨hx, fun x hx => zs x (by simp [hx]), ?_⟩
    rw [List.length_append] at ln
    have ln : h1.length + 1 ≤ n := ln
    omega
  | backX _ => exact ⟨⟨z, l⟩, zs, by omega⟩
/-- lists of entries by values -/
def PastA (F : Hp) : List V → List (List Ent) → Prop
  | [], [] => True
  | v :: vs, es :: hs => (∃ l, v = .ref l ∧ KeptA F l es) ∧ PastA F vs hs
  | _, _ => False
theorem PastA.ex {F F' : Hp} (x : Ex F F') : ∀ {vs : List V} {hs : List (List Ent)}, PastA F vs hs → PastA F' vs hs
  | [], [], _ => trivial
  | _ :: _, _ :: _, ⟨⟨l, e, k⟩, r⟩ => ⟨⟨l, e, k.ex x⟩, PastA.ex x r⟩
  | [], _ :: _, h => h.elim
  | _ :: _, [], h => h.elim
theorem PastA.len {F : Hp} : ∀ {vs : List V} {hs : List (List Ent)}, PastA F vs hs → vs.length = hs.length
  | [], [], _ => rfl
  | _ :: _, _ :: _, ⟨_, r⟩ => by rw [List.length_cons, List.length_cons, PastA.len r]
  | [], _ :: _, h => h.elim
  | _ :: _, [], h => h.elim
theorem PastA.app {F : Hp} : ∀ {vs us : List V} {hs ks : List (List Ent)}, PastA F vs hs → PastA F us ks → PastA F (vs ++ us) (hs ++ ks)
  | [], _, [], _, _, h => h
  | _ :: _, _, _ :: _, _, ⟨h, r⟩, h' => ⟨h, PastA.app r h'⟩
  | [], _, _ :: _, _, h, _ => h.elim
  | _ :: _, _, [], _, h, _ => h.elim
theorem PastA.last {F : Hp} : ∀ {vs : List V} {hs : List (List Ent)} {es : List Ent}, PastA F vs (hs ++ [es]) → ∃ us l, vs = us ++ [.ref l] ∧ PastA F us hs ∧ KeptA F l es
  | [], [], _, h => h.elim
  | [], _ :: _, _, h => h.elim
  | [v], [], _, ⟨⟨l, e, k⟩, _⟩ => ⟨[], l, by rw [e]; rfl, trivial, k⟩
  | _ :: _ :: _, [], _, ⟨_, h⟩ => h.elim
  | v :: vs, k :: hs, es, ⟨h, r⟩ => by
    obtain ⟨us, l, e, h1, h2⟩ := PastA.last (hs := hs) r
    exact ⟨v :: us, l, by rw [e]; rfl, ⟨h, h1⟩, h2⟩
theorem at_lastV (us : List V) (v : V) : atI (us ++ [v]) (-1) = some v := by
  unfold atI ixN
  rw [if_neg (by decide), if_pos (by rw [List.length_append]; show -((us.length + 1 : Nat) : Int) ≤ -1; omega)]
  show (us ++ [v])[((-1 : Int) + ((us ++ [v]).length : Nat)).toNat]? = some v
  rw [List.length_append, show ((-1 : Int) + ((us.length + [v].length : Nat) : Int)).toNat = us.length by show ((-1 : Int) + ((us.length + 1 : Nat) : Int)).toNat = _; omega]
  simp
theorem rPop_V {l : Addr} {us : List V} {v : V} {H : Hp} {Q : VK} (h : H l = some (.lst (us ++ [v]))) (q : ∀ H', Kp l H H' → H' l = some (.lst us) → Q v H') : rPop (.ref l) [] H Q :=
  rPop_is h (by simp) fun H' kp h' => q H' kp (by rw [h']; simp)
theorem wL_sum : ∀ es : List Ent, (es.map wE).sum = wL es
  | [] => rfl
  | e :: es => by
    show wE e + (es.map wE).sum = wE e + wL es
    rw [wL_sum es]

--@ needs LOut
/-- the heap without some addresses -/
noncomputable def minus (H : Hp) (M : List Addr) : Hp := fun a => if a ∈ M then none else H a
theorem minus_in {H : Hp} {M : List Addr} {a : Addr} (h : a ∈ M) : minus H M a = none := if_pos h
theorem minus_at {H : Hp} {M : List Addr} {a : Addr} {o : HO} (n : a ∉ M) (h : H a = some o) : minus H M a = some o := by
  unfold minus
  rw [if_neg n]
  exact h
theorem minus_ex {H : Hp} {M : List Addr} : Ex (minus H M) H := fun a o h => by
  unfold minus at h
  by_cases z : a ∈ M
  · rw [if_pos z] at h
    cases h
  · rw [if_neg z] at h
    exact h
theorem ex_minus {F H : Hp} {M : List Addr} (e : Ex F H) (n : ∀ a ∈ M, F a = none) : Ex F (minus H M) := fun a o h => minus_at (fun z => by
  rw [n a z] at h
  cases h) (e _ _ h)
/-- a ledger and the list of all that it kept -/
structure LB (C : Addr) (F H : Hp) (x fl lp : Addr) (es : List Ent) (hs : List (List Ent)) (n : Nat) : Prop where
  L : LgAt C F H x fl es hs
  P : ∃ us, H lp = some (.lst us) ∧ PastA F us (hs ++ [es])
  z : HisZ n es hs
theorem LB.grow {C : Addr} {F F' H H' : Hp} {x fl lp : Addr} {es : List Ent} {hs : List (List Ent)} {n : Nat} (B : LB C F H x fl lp es hs n) (e : Ex H H') (f : Ex F F') : LB C F' H' x fl lp es hs n := by
  obtain ⟨L, ⟨us, h1, h2⟩, z⟩ := B
  exact ⟨L.grow e f, ⟨us, e _ _ h1, h2.ex f⟩, z⟩
theorem LB.kp {C : Addr} {F H H' : Hp} {x fl lp d : Addr} {es : List Ent} {hs : List (List Ent)} {n : Nat} {ys : List V} (B : LB C F H x fl lp es hs n) (k : Kp d H H') (D : H d = some (.lst ys)) (n1 : fl ≠ d) (n2 : lp ≠ d) : LB C F H' x fl lp es hs n := by
  obtain ⟨⟨⟨dx, kl, h1, h2⟩, us, h3, h4⟩, ⟨vs, g1, g2⟩, z⟩ := B
  exact ⟨⟨⟨dx, kl, k _ _ (ne_of h1 D (by intro z; cases z)) h1, h2⟩, us, k _ _ n1 h3, h4⟩, ⟨vs, k _ _ n2 g1, g2⟩, z⟩
theorem LB.kq {C : Addr} {F H H' : Hp} {x fl lp x2 fl2 : Addr} {es es2 : List Ent} {hs hs2 : List (List Ent)} {n : Nat} (B : LB C F H x fl lp es hs n) (k : Kq [x2, fl2] H H') (L2 : LgAt C F H x2 fl2 es2 hs2) (nx : x ≠ x2) (nf : fl ≠ fl2) (np : lp ≠ fl2) : LB C F H' x fl lp es hs n := by
  obtain ⟨⟨⟨dx, kl, h1, h2⟩, us, h3, h4⟩, ⟨vs, g1, g2⟩, z⟩ := B
  obtain ⟨⟨dx2, kl2, q1, q2⟩, us2, q3, q4⟩ := L2
  refine ⟨⟨⟨dx, kl, k _ _ ?_ h1, h2⟩, us, k _ _ ?_ h3, h4⟩, ⟨vs, k _ _ ?_ g1, g2⟩, z⟩
  · simp only [List.mem_cons, List.not_mem_nil, or_false, not_or]
    exact ⟨nx, ne_of h1 q3 (by intro z; cases z)⟩
  · simp only [List.mem_cons, List.not_mem_nil, or_false, not_or]
    exact ⟨ne_of h3 q1 (by intro z; cases z), nf⟩
  · simp only [List.mem_cons, List.not_mem_nil, or_false, not_or]
    exact ⟨ne_of g1 q1 (by intro z; cases z), np⟩
theorem LB.suc {C : Addr} {F H : Hp} {x fl lp : Addr} {es : List Ent} {hs : List (List Ent)} {n : Nat} (B : LB C F H x fl lp es hs n) : LB C F H x fl lp es hs (n + 1) := ⟨B.L, B.P, B.z.1, B.z.2.1, by have := B.z.2.2; omega⟩
theorem HisZ.mono {n m : Nat} {es : List Ent} {hs : List (List Ent)} (h : HisZ n es hs) (l : n ≤ m) : HisZ m es hs := ⟨h.1, h.2.1, by have := h.2.2; omega⟩
/-- a list kept by a deed -/
theorem LgAt.lst {C : Addr} {F H H' : Hp} {x fl q : Addr} {es : List Ent} {hs : List (List Ent)} {ys : List V} (L : LgAt C F H x fl es hs) (k : Kq [x, fl] H H') (n : q ≠ fl) (h : H q = some (.lst ys)) : H' q = some (.lst ys) := by
  obtain ⟨⟨dx, kl, h1, h2⟩, us, h3, h4⟩ := L
  refine k _ _ ?_ h
  simp only [List.mem_cons, List.not_mem_nil, or_false, not_or]
  exact ⟨ne_of h h1 (by intro z; cases z), n⟩
theorem LgAt.tup {C : Addr} {F H H' : Hp} {x fl q : Addr} {es : List Ent} {hs : List (List Ent)} {ys : List V} (L : LgAt C F H x fl es hs) (k : Kq [x, fl] H H') (h : H q = some (.tup ys)) : H' q = some (.tup ys) := by
  obtain ⟨⟨dx, kl, h1, h2⟩, us, h3, h4⟩ := L
  refine k _ _ ?_ h
  simp only [List.mem_cons, List.not_mem_nil, or_false, not_or]
  exact ⟨ne_of h h1 (by intro z; cases z), ne_of h h3 (by intro z; cases z)⟩
theorem LgAt.kpL {C : Addr} {F H H' : Hp} {x fl d : Addr} {es : List Ent} {hs : List (List Ent)} {ys : List V} (L : LgAt C F H x fl es hs) (k : Kp d H H') (D : H d = some (.lst ys)) (n1 : fl ≠ d) : LgAt C F H' x fl es hs := by
  obtain ⟨⟨dx, kl, h1, h2⟩, us, h3, h4⟩ := L
  exact ⟨⟨dx, kl, k _ _ (ne_of h1 D (by intro z; cases z)) h1, h2⟩, us, k _ _ n1 h3, h4⟩
theorem LB.exi {C : Addr} {F H : Hp} {x fl lp : Addr} {es : List Ent} {hs : List (List Ent)} {n : Nat} (B : LB C F H x fl lp es hs n) : (∃ o, H x = some o) ∧ (∃ o, H fl = some o) ∧ ∃ o, H lp = some o := by
  obtain ⟨⟨⟨dx, kl, h1, h2⟩, us, h3, h4⟩, ⟨vs, g1, g2⟩, z⟩ := B
  exact ⟨⟨_, h1⟩, ⟨_, h3⟩, _, g1⟩
theorem exi6 {H : Hp} {x f p x2 f2 p2 : Addr} (h : (∃ o, H x = some o) ∧ (∃ o, H f = some o) ∧ ∃ o, H p = some o) (h2 : (∃ o, H x2 = some o) ∧ (∃ o, H f2 = some o) ∧ ∃ o, H p2 = some o) : ∀ m ∈ [x, f, p, x2, f2, p2], ∃ o, H m = some o := fun m hm => by
  simp only [List.mem_cons, List.not_mem_nil, or_false] at hm
  rcases hm with rfl | rfl | rfl | rfl | rfl | rfl
  · exact h.1
  · exact h.2.1
  · exact h.2.2
  · exact h2.1
  · exact h2.2.1
  · exact h2.2.2

--@ needs MovM LB
/-- [e for x, y in a ring], e a corner each -/
theorem lc_cn {K : PySem.W.Frag} {σ : L2.St} {H : Hp} {Q : VK} {te : TE} {a : Addr} {rs : List (V × Cn)} {j1 j2 : Nat} {vs : List Nat} (F : Cn → Cn) (hx : SqL K H a (rs.map (·.1))) (hc : ∀ r ∈ rs, CnAt H r.1 r.2) (hn : rs.length ≤ 100000)
    (hw : ∀ x y, wipe (((wipe σ vs).set j1 (some x)).set j2 (some y)) vs = wipe σ vs)
    (he : ∀ r ∈ rs, ∀ p1 p2 : Addr, H p1 = some (.tup [.int r.2.1.1, .int r.2.1.2]) → H p2 = some (.tup [.int r.2.2.1, .int r.2.2.2]) → ∀ H1, Ex H H1 → ∀ Q : VK, (∀ q H2, Ex H1 H2 → CnAt H2 (.ref q) (F r.2) → Q (.ref q) H2) → te (((wipe σ vs).set j1 (some (.ref p1))).set j2 (some (.ref p2))) H1 Q)
    (k : ∀ p H1 (ts : List (V × Cn)), H p = none → Ex H H1 → H1 p = some (.lst (ts.map (·.1))) → (∀ t ∈ ts, CnAt H1 t.1 t.2) → ts.map (·.2) = (rs.map (·.2)).map F → Q (.ref p) H1) : LcB (Itl K a) (gTup K 2 (gCons (gName j1) (gCons (gName j2) gNil))) tYes te vs σ H Q := fun Dl hD => by
  refine lc_list (xs := rs.map (·.1)) (fun i H' => Ex H H' ∧ ∃ ts : List (V × Cn), H' Dl = some (.lst (ts.map (·.1))) ∧ (∀ t ∈ ts, CnAt H' t.1 t.2) ∧ ts.map (·.2) = ((rs.map (·.2)).take i).map F) ⟨Ex.new hD, [], upd_same, fun t ht => absurd ht List.not_mem_nil, by rw [List.take_zero]; rfl⟩ (fun i H' _ p => sql_up p.1 hx) (fun i x H' hi p => ?_) (fun H' p => ?_)
  · obtain ⟨e, ts, hd, ct, et⟩ := p
    have li : i < rs.length := by
      have := (List.getElem?_eq_some_iff.mp hi).1
      rwa [List.length_map] at this
    rw [List.getElem?_map, List.getElem?_eq_getElem li] at hi
    cases hi
    have m := List.getElem_mem li
    obtain ⟨p, u, w, ev, hp, ⟨p1, eu, h1⟩, p2, ew, h2⟩ := hc _ m
    subst eu ew
    refine ⟨p, _, ev, SqT.of (e.at hp), rfl, _, _, rfl, _, _, rfl, rfl, hw _ _, ?_⟩
    refine tYes_k ?_
    rw [if_pos rfl]
    refine he _ m p1 p2 h1 h2 H' e _ fun q H2 e2 C => ⟨_, e2 _ _ hd, ?_, ?_⟩
    · have := congrArg List.length et
      rw [List.length_map, List.length_map, List.length_take, List.length_map] at this
      rw [List.length_map]
      exact len_lt (by omega)
    · have kp : Kp Dl H2 (upd H2 Dl (.lst (ts.map (·.1) ++ [.ref q]))) := Kp.upd
      have hd2 := e2 _ _ hd
      refine ⟨fun b o hb => ?_, ts ++ [(.ref q, F (rs[i]).2)], ?_, fun t ht => ?_, ?_⟩
      · rw [upd_ne (ne_of_none hb hD)]
        exact e2 _ _ (e _ _ hb)
      · rw [upd_same, List.map_append]
        rfl
      · rcases List.mem_append.mp ht with ht | ht
        · exact ((ct t ht).ex e2).kpL kp hd2
        · rw [List.mem_singleton.mp ht]
          exact C.kpL kp hd2
      · rw [List.map_append, et, List.take_add_one, List.getElem?_map, List.getElem?_eq_getElem li, List.map_append]
        rfl
  · obtain ⟨e, ts, hd, ct, et⟩ := p
    rw [show (rs.map (·.1)).length = (rs.map (·.2)).length by rw [List.length_map, List.length_map], List.take_length] at et
    exact k Dl H' ts hD e hd ct et
/-! whole corners -/
def wX (cs : List Cn) (k : Nat) : Int := (cI cs k).1.1
def wY (cs : List Cn) (k : Nat) : Int := (cI cs k).2.1
def areaK (cs : List Cn) (k : Nat) : Int := wX cs (k + cs.length - 1) * wY cs k - wY cs (k + cs.length - 1) * wX cs k
def rimK (cs : List Cn) (k : Nat) : Int := (Int.gcd (wX cs k - wX cs (k + cs.length - 1)) (wY cs k - wY cs (k + cs.length - 1)) : Int)
def WholeC (cs : List Cn) : Prop := ∀ c ∈ cs, c.1.2 = 1 ∧ c.2.2 = 1
theorem whole_zr {cs : List Cn} (w : WholeC cs) (ok : ∀ c ∈ cs, OkC c) (I : RingI cs) : ZR (pts cs) (wX cs) (wY cs) := by
  have n0 := I.len
  refine ⟨((ringI_iff ok).mp I).1, fun k => ?_⟩
  rw [cor_pts n0]
  have h := w _ (cI_mem n0 k)
  show (qv (cI cs k).1.1 (cI cs k).1.2, qv (cI cs k).2.1 (cI cs k).2.2) = _
  rw [h.1, h.2, qv_int, qv_int]
  rfl
theorem cI_add {cs : List Cn} (k : Nat) : cI cs (k + cs.length) = cI cs k := by rw [← cI_mod cs (k + cs.length), Nat.add_mod_right, cI_mod]
/-- the sums round the ring, begun one corner earlier -/
theorem sm_back {n : Nat} (n0 : 0 < n) (G : Nat → Nat → Int) (perL : ∀ i j, G (i + n) j = G i j) (hL : G (n - 1) 0 = G (n - 1) n) : sm (fun k => G (k + n - 1) k) n = sm (fun k => G k (k + 1)) n := by
  obtain ⟨m, rfl⟩ : ∃ m, n = m + 1 := ⟨n - 1, by omega⟩
  rw [sm_first]
  have e : sm (fun i => G (i + 1 + (m + 1) - 1) (i + 1)) m = sm (fun i => G i (i + 1)) m := sm_congr fun i _ => by
    rw [show i + 1 + (m + 1) - 1 = i + (m + 1) by omega, perL]
  show G (0 + (m + 1) - 1) 0 + sm (fun i => G (i + 1 + (m + 1) - 1) (i + 1)) m = sm (fun i => G i (i + 1)) m + G m (m + 1)
  rw [e, show 0 + (m + 1) - 1 = m by omega]
  rw [Nat.add_sub_cancel] at hL
  omega
theorem wX_add (cs : List Cn) (k : Nat) : wX cs (k + cs.length) = wX cs k ∧ wY cs (k + cs.length) = wY cs k := by
  unfold wX wY
  rw [cI_add]
  exact ⟨rfl, rfl⟩
/-- Pick's count, as the law adds it up -/
theorem pick_law {cs : List Cn} (w : WholeC cs) (ok : ∀ c ∈ cs, OkC c) (I : RingI cs) {N : Int} (hN : CntL (ringS cs) N) : 2 * N = sm (areaK cs) cs.length + sm (rimK cs) cs.length + 2 := by
  have n0 := I.len
  have Z := whole_zr w ok I
  have key := Z.pick_all hN
  have len : (pts cs).length = cs.length := List.length_map ..
  rw [len] at key
  have pX := fun k => (wX_add cs k).1
  have pY := fun k => (wX_add cs k).2
  have X0 : wX cs cs.length = wX cs 0 := by have := pX 0; rwa [Nat.zero_add] at this
  have Y0 : wY cs cs.length = wY cs 0 := by have := pY 0; rwa [Nat.zero_add] at this
  have a : sm (areaK cs) cs.length = sm (fun k => wX cs k * wY cs (k + 1) - wY cs k * wX cs (k + 1)) cs.length :=
    sm_back n0 (fun i j => wX cs i * wY cs j - wY cs i * wX cs j) (fun i j => by show wX cs (i + cs.length) * _ - wY cs (i + cs.length) * _ = _; rw [pX, pY]) (by rw [X0, Y0])
  have r : sm (rimK cs) cs.length = sm (fun k => (Int.gcd (wX cs (k + 1) - wX cs k) (wY cs (k + 1) - wY cs k) : Int)) cs.length :=
    sm_back n0 (fun i j => (Int.gcd (wX cs j - wX cs i) (wY cs j - wY cs i) : Int)) (fun i j => by show (Int.gcd (_ - wX cs (i + cs.length)) (_ - wY cs (i + cs.length)) : Int) = _; rw [pX, pY]) (by rw [X0, Y0])
  rw [a, r, key]
  congr 1
  congr 1
  rw [sm_congr (g := fun k => (wX cs k * wY cs (k + 1) - wY cs k * wX cs (k + 1)) + ((-1) * (wX cs (k + 1) * wY cs (k + 1)) + wX cs k * wY cs k)) fun k _ => by grind, sm_plus, sm_plus, sm_mul, sm_round (fun k => wX cs k * wY cs k) (by rw [X0, Y0])]
  omega
theorem cut_ge {xs : List V} {i : Int} (h0 : (xs.length : Int) ≤ i) : cutV xs none (some i) = xs := by
  unfold cutV
  have e1 : HT.sIx xs.length 0 none = 0 := rfl
  have e2 : HT.sIx xs.length xs.length (some i) = xs.length := by
    show (if i < 0 then (i + (xs.length : Int)).toNat else min i.toNat xs.length) = _
    rw [if_neg (by omega)]
    omega
  rw [e1, e2]
  simp
theorem FrAt.minus {H : Hp} {D : Addr} {ys : List V} (hD : H D = some (.lst ys)) {v : V} {f : Fq} (h : FrAt H v f) : FrAt (minus H [D]) v f := by
  obtain ⟨p, rfl, hp⟩ := h
  exact ⟨p, rfl, minus_at (by simp only [List.mem_singleton]; exact ne_of hp hD (by intro z; cases z)) hp⟩
theorem CnAt.minus {H : Hp} {D : Addr} {ys : List V} (hD : H D = some (.lst ys)) {v : V} {c : Cn} (h : CnAt H v c) : CnAt (minus H [D]) v c := by
  obtain ⟨p, u, w, rfl, hp, a, b⟩ := h
  exact ⟨p, u, w, rfl, minus_at (by simp only [List.mem_singleton]; exact ne_of hp hD (by intro z; cases z)) hp, a.minus hD, b.minus hD⟩
theorem minus_kp {H H' : Hp} {D : Addr} (k : Kp D H H') : Ex (minus H [D]) (minus H' [D]) := fun a o h => by
  by_cases z : a = D
  · subst z
    rw [minus_in (by simp)] at h
    cases h
  · exact minus_at (by simp [z]) (k a o z (minus_ex a o h))
/-- a moved ring, made in a comprehension at D -/
def MvAt (cs : List Cn) (s : Nat → Int) (D : Addr) (i : Nat) (v : V) (H : Hp) : Prop := ∃ (l : Addr) (ts : List (V × Cn)), v = .ref l ∧ minus H [D] l = some (.lst (ts.map (·.1))) ∧ (∀ t ∈ ts, CnAt (minus H [D]) t.1 t.2) ∧ (∀ t ∈ ts, SzC t.2) ∧ rcs ts = movL (i : Int) (s i) cs
theorem MvAt.kp {cs : List Cn} {s : Nat → Int} {D : Addr} {i : Nat} {v : V} {H H' : Hp} (k : Kp D H H') (h : MvAt cs s D i v H) : MvAt cs s D i v H' := by
  obtain ⟨l, ts, e, hl, c, z, m⟩ := h
  exact ⟨l, ts, e, minus_kp k l _ hl, fun t ht => (c t ht).ex (minus_kp k), z, m⟩
theorem CntL.congr {S T : Int → Int → Prop} {N : Int} (h : CntL S N) (e : ∀ x y, T x y ↔ S x y) : CntL T N := by
  obtain ⟨L, nd, m, l⟩ := h
  exact ⟨L, nd, fun x y => (m x y).trans (e x y).symm, l⟩
/-- a ring with N points -/
def EqR (N : Int) (H : Hp) (v : V) : Prop := ∃ (l : Addr) (ts : List (V × Cn)), v = .ref l ∧ H l = some (.lst (ts.map (·.1))) ∧ (∀ t ∈ ts, CnAt H t.1 t.2) ∧ (∀ t ∈ ts, SzC t.2) ∧ RingI (rcs ts) ∧ CntL (ringS (rcs ts)) N
theorem EqR.ex {N : Int} {H H' : Hp} {v : V} (h : EqR N H v) (e : Ex H H') : EqR N H' v := by
  obtain ⟨l, ts, a, b, c, z, i, n⟩ := h
  exact ⟨l, ts, a, e.at b, fun t ht => (c t ht).ex e, z, i, n⟩
theorem MvAt.eqR {cs : List Cn} {s : Nat → Int} {D : Addr} {i : Nat} {v : V} {H : Hp} {N : Int} (h : MvAt cs s D i v H) (hi : i < 4) (ok : ∀ c ∈ cs, OkC c) (I : RingI cs) (hN : CntL (ringS cs) N) : EqR N H v := by
  obtain ⟨l, ts, e, hl, c, z, m⟩ := h
  have ok' : ∀ c ∈ movL (i : Int) (s i) cs, OkC c := fun c hc => by
    rw [← m] at hc
    obtain ⟨r, hr, rfl⟩ := List.mem_map.mp hc
    exact (z r hr).ok
  obtain ⟨I', n'⟩ := mov_ring (way := (i : Int)) (by omega) ok ok' I
  exact ⟨l, ts, e, minus_ex _ _ hl, fun t ht => (c t ht).ex minus_ex, z, by rw [m]; exact I', by rw [m]; exact n' N hN⟩
theorem rot_ring {cs : List Cn} {t : Nat} (ht : t ≤ cs.length) (ok : ∀ c ∈ cs, OkC c) (I : RingI cs) : RingI (cs.drop t ++ cs.take t) ∧ ∀ N, CntL (ringS cs) N → CntL (ringS (cs.drop t ++ cs.take t)) N := by
  obtain ⟨R, l20⟩ := (ringI_iff ok).mp I
  have n0 := I.len
  have n0' : 0 < (pts cs).length := by unfold pts; rw [List.length_map]; exact n0
  have e : pts (cs.drop t ++ cs.take t) = (pts cs).drop t ++ (pts cs).take t := by unfold pts; rw [List.map_append, List.map_drop, List.map_take]
  have lt : t ≤ (pts cs).length := by unfold pts; rw [List.length_map]; exact ht
  refine ⟨(ringI_iff fun c hc => ?_).mpr ⟨by rw [e]; exact R.rot lt, by rw [List.length_append, List.length_drop, List.length_take]; omega⟩, fun N h => h.congr fun x y => ?_⟩
  · rcases List.mem_append.mp hc with hc | hc
    · exact ok c (List.mem_of_mem_drop hc)
    · exact ok c (List.mem_of_mem_take hc)
  · unfold ringS
    rw [e]
    exact ins_rot n0' lt _
theorem pts_take (cs : List Cn) (k : Nat) : pts (cs.take k) = (pts cs).take k := by unfold pts; rw [List.map_take]
theorem part_ring {cs : List Cn} (ok : ∀ c ∈ cs, OkC c) (I : RingI cs) {c : Nat} (c2 : 2 ≤ c) (hc : c < cs.length) : RingI (cs.take (c + 1)) := by
  obtain ⟨R, l20⟩ := (ringI_iff ok).mp I
  have len : (pts cs).length = cs.length := List.length_map ..
  refine (ringI_iff fun x hx => ok x (List.mem_of_mem_take hx)).mpr ⟨?_, by rw [List.length_take]; omega⟩
  rw [pts_take]
  exact R.part c2 (by omega)
theorem part_ring2 {cs : List Cn} (ok : ∀ c ∈ cs, OkC c) (I : RingI cs) {c : Nat} (c2 : 2 ≤ c) (hc : c + 2 ≤ cs.length) : RingI (cs.drop c ++ cs.take 1) := by
  have r := (rot_ring (t := c) (by omega) ok I).1
  have ok' : ∀ x ∈ cs.drop c ++ cs.take c, OkC x := fun x hx => by
    rcases List.mem_append.mp hx with hx | hx
    · exact ok x (List.mem_of_mem_drop hx)
    · exact ok x (List.mem_of_mem_take hx)
  have p := part_ring ok' r (c := cs.length - c) (by omega) (by rw [List.length_append, List.length_drop, List.length_take]; omega)
  have e : cs.drop c ++ cs.take 1 = (cs.drop c ++ cs.take c).take (cs.length - c + 1) := by
    rw [List.take_append, List.take_of_length_le (l := cs.drop c) (by rw [List.length_drop]; omega), List.length_drop, List.take_take, show cs.length - c + 1 - (cs.length - c) = 1 by omega, Nat.min_eq_left (by omega)]
  rw [e]
  exact p
theorem cut_law {cs : List Cn} (w : WholeC cs) (ok : ∀ c ∈ cs, OkC c) (I : RingI cs) {c : Nat} (c2 : 2 ≤ c) (hc : c + 2 ≤ cs.length) {N M L : Int} (hA : CntL (ringS (cs.take (c + 1))) N) (hB : CntL (ringS (cs.drop c ++ cs.take 1)) M) (hP : CntL (ringS cs) L) :
    N + M = L + ((Int.gcd ((cI cs c).1.1 - (cI cs 0).1.1) ((cI cs c).2.1 - (cI cs 0).2.1) : Int) + 1) := by
  have Z := whole_zr w ok I
  have len : (pts cs).length = cs.length := List.length_map ..
  unfold ringS at hA hB hP
  rw [pts_take] at hA
  have e : pts (cs.drop c ++ cs.take 1) = (pts cs).drop c ++ (pts cs).take 1 := by unfold pts; rw [List.map_append, List.map_drop, List.map_take]
  rw [e] at hB
  exact cut_count Z.R c2 (by rw [len]; exact hc) (Z.e 0) (Z.e c) hA hB hP

def sp_law_whole_corners_right (K : PySem.W.Frag) : Sp := fun vs H Q _ => ∃ (a : Addr) (rs : List (V × Cn)) (N : Int), vs = [.ref a, .int N] ∧ RgAt K H a rs ∧ 0 < rs.length ∧ rs.length ≤ 1000 ∧ ∀ H', Ex H H' → Q (.bl (decide (2 * N = sm (areaK (rcs rs)) rs.length + sm (rimK (rcs rs)) rs.length + 2))) H'
theorem use_law_whole_corners_right {K : PySem.W.Frag} {H : Hp} {Q : VK} {E : XK} {a : Addr} {rs : List (V × Cn)} {N : Int} (R : RgAt K H a rs) (n0 : 0 < rs.length) (n : rs.length ≤ 1000) (q : ∀ H', Ex H H' → Q (.bl (decide (2 * N = sm (areaK (rcs rs)) rs.length + sm (rimK (rcs rs)) rs.length + 2))) H') : sp_law_whole_corners_right K [.ref a, .int N] H Q E := ⟨a, rs, N, rfl, R, n0, n, q⟩
abbrev s_law_whole_corners_right : Stmt := topS 31
abbrev nm_law_whole_corners_right : List Str := ["ring", "found", "area", "rim", "k", "one", "other"]
theorem sc_law_whole_corners_right : FnScope nm_law_whole_corners_right ["ring", "found"] (defScope s_law_whole_corners_right) := ⟨rfl, rfl, rfl, by decide +kernel, rfl, by decide +kernel, by decide +kernel⟩
theorem st_law_whole_corners_right {v0 v1 : V} : start nm_law_whole_corners_right [v0, v1] = [some v0, some v1, none, none, none, none, none] := rfl
section
variable {P : Program} {w : World} {K : PySem.W.Frag} {mg : Str → Option Value} {base : Heap}
theorem ok_law_whole_corners_right (D : DefAt K mg "_law_whole_corners_right" s_law_whole_corners_right ["ring", "found"]) (B_range : mg "range" = none) (B_len : mg "len" = none) (G__law_common : Has P w K mg base CX0 2 "_law_common" ["one", "other"] (sp_law_common K)) : Has P w K mg base CX0 3 "_law_whole_corners_right" ["ring", "found"] (sp_law_whole_corners_right K) := by
  refine D.ok sc_law_whole_corners_right (by rintro _ _ _ _ ⟨_, _, _, rfl, _⟩; rfl) (fun f cdv A outer s H vs Q E hr h => ?_)
  obtain ⟨a, rs, N, rfl, R, n0, n4, q⟩ := h
  have nl : (rs.map (·.1)).length = rs.length := List.length_map ..
  have nc : (rcs rs).length = rs.length := List.length_map ..
  have hl := R.l
  refine ⟨_, (pss_cons (ps_set (i := 2) sc_law_whole_corners_right.nd rfl (Or.inl rfl) pe_int)
      (pss_cons (ps_set (i := 3) sc_law_whole_corners_right.nd rfl (Or.inl rfl) pe_int)
      (pss_cons (ps_for PassesOwn.never rfl (pi_range1 rfl B_range (pa_cons (pe_callB cl_len (by rfl) B_len (by decide +kernel) (pa_cons (pv 0) pa_nil)) pa_nil)) (pg_name (i := 4) sc_law_whole_corners_right.nd rfl (Or.inl rfl))
        (pss_cons (ps_set (i := 5) sc_law_whole_corners_right.nd rfl (Or.inl rfl) (pe_tup (pa_cons (pe_ix ix_tup (pe_ix ix_tup (pe_ix ix_list (pv 0) (pe_op op_sub (pv 4) pe_int) (fun _ _ => rfl)) pe_int (fun _ _ => rfl)) pe_int (fun _ _ => rfl)) (pa_cons (pe_ix ix_tup (pe_ix ix_tup (pe_ix ix_list (pv 0) (pe_op op_sub (pv 4) pe_int) (fun _ _ => rfl)) pe_int (fun _ _ => rfl)) pe_int (fun _ _ => rfl)) pa_nil))))
        (pss_cons (ps_set (i := 6) sc_law_whole_corners_right.nd rfl (Or.inl rfl) (pe_tup (pa_cons (pe_ix ix_tup (pe_ix ix_tup (pe_ix ix_list (pv 0) (pv 4) (fun _ _ => rfl)) pe_int (fun _ _ => rfl)) pe_int (fun _ _ => rfl)) (pa_cons (pe_ix ix_tup (pe_ix ix_tup (pe_ix ix_list (pv 0) (pv 4) (fun _ _ => rfl)) pe_int (fun _ _ => rfl)) pe_int (fun _ _ => rfl)) pa_nil))))
        (pss_cons (ps_set (i := 2) sc_law_whole_corners_right.nd rfl (Or.inl rfl) (pe_op op_sub (pe_op op_add (pv 2) (pe_op op_mulX (pe_ix ix_tup (pv 5) pe_int (fun _ _ => rfl)) (pe_ix ix_tup (pv 6) pe_int (fun _ _ => rfl)))) (pe_op op_mulX (pe_ix ix_tup (pv 5) pe_int (fun _ _ => rfl)) (pe_ix ix_tup (pv 6) pe_int (fun _ _ => rfl)))))
        (pss_one (ps_set (i := 3) sc_law_whole_corners_right.nd rfl (Or.inl rfl) (pe_op op_add (pv 3) (pcall G__law_common (hr.mono (by decide)) (pa_cons (pe_op op_sub (pe_ix ix_tup (pv 6) pe_int (fun _ _ => rfl)) (pe_ix ix_tup (pv 5) pe_int (fun _ _ => rfl))) (pa_cons (pe_op op_sub (pe_ix ix_tup (pv 6) pe_int (fun _ _ => rfl)) (pe_ix ix_tup (pv 5) pe_int (fun _ _ => rfl))) pa_nil))))))))))
      (pss_one (ps_ret (pe_cmpR op_eq (pe_op op_mulX pe_int (pv 1)) (pe_op op_add (pe_op op_add (pv 2) (pv 3)) pe_int) (nomark _))))))), ?_⟩
  rw [st_law_whole_corners_right]
  try dsimp only [Cx.nox, Cx.wish, Cx.blk, cx_K]
  walk_at "go"
  rw [nl]
  refine r_rng1 (by omega) (by omega) ?_
  refine for_rng (fun i σ H' => ∃ (o5 o6 o7 : Option V), σ = [some (.ref a), some (.int N), some (.int (sm (areaK (rcs rs)) i)), some (.int (sm (rimK (rcs rs)) i)), o5, o6, o7] ∧ Ex H H') ⟨none, none, none, rfl, Ex.refl⟩ ?_ ?_
  · clear hl
    rintro i σ G hi ⟨o5, o6, o7, rfl, E⟩
    have hi : i < rs.length := hi
    have R1 := R.ex E
    have hl := R1.l
    obtain ⟨vk, ak, ck, zk⟩ := R1.at (i := 0 + (i : Int)) (by omega) (by omega)
    rw [show (0 + (i : Int)).toNat = i by omega] at ck zk
    obtain ⟨vp, ap, cp, zp⟩ : ∃ v, atI (rs.map (·.1)) (0 + (i : Int) - 1) = some v ∧ CnAt G v (cI (rcs rs) (i + rs.length - 1)) ∧ SzC (cI (rcs rs) (i + rs.length - 1)) := by
      by_cases z : i = 0
      · obtain ⟨v, av, cv, zv⟩ := R1.at (i := ((rs.length - 1 : Nat) : Int)) (by omega) (by omega)
        rw [Int.toNat_natCast] at cv zv
        refine ⟨v, ?_, by rw [z, Nat.zero_add]; exact cv, by rw [z, Nat.zero_add]; exact zv⟩
        rw [z]
        unfold atI ixN at av ⊢
        rw [nl] at av ⊢
        rw [if_pos (by omega), if_pos (by omega)] at av
        rw [if_neg (by omega), if_pos (by omega)]
        rw [show (0 + ((0 : Nat) : Int) - 1 + (rs.length : Int)).toNat = ((rs.length - 1 : Nat) : Int).toNat by omega]
        exact av
      · obtain ⟨v, av, cv, zv⟩ := R1.at (i := 0 + (i : Int) - 1) (by omega) (by omega)
        have e : cI (rcs rs) (i + rs.length - 1) = cI (rcs rs) (0 + (i : Int) - 1).toNat := by
          rw [← cI_mod (rcs rs) (i + rs.length - 1), nc, show i + rs.length - 1 = (0 + (i : Int) - 1).toNat + rs.length by omega, Nat.add_mod_right, ← nc, cI_mod]
        rw [e]
        exact ⟨v, av, cv, zv⟩
    have eA : sm (areaK (rcs rs)) (i + 1) = sm (areaK (rcs rs)) i + (cI (rcs rs) (i + rs.length - 1)).1.1 * (cI (rcs rs) i).2.1 - (cI (rcs rs) (i + rs.length - 1)).2.1 * (cI (rcs rs) i).1.1 := by
      show _ + areaK (rcs rs) i = _
      unfold areaK wX wY
      rw [nc]
      omega
    have eR : sm (rimK (rcs rs)) (i + 1) = sm (rimK (rcs rs)) i + (Int.gcd ((cI (rcs rs) i).1.1 - (cI (rcs rs) (i + rs.length - 1)).1.1) ((cI (rcs rs) i).2.1 - (cI (rcs rs) (i + rs.length - 1)).2.1) : Int) := by
      show _ + rimK (rcs rs) i = _
      unfold rimK wX wY
      rw [nc]
    rw [eA, eR]
    generalize cI (rcs rs) (i + rs.length - 1) = c1 at *
    generalize cI (rcs rs) i = c2 at *
    obtain ⟨pp, _, _, rfl, hp, ⟨_, rfl, hp1⟩, _, rfl, hp2⟩ := cp
    obtain ⟨pk, _, _, rfl, hk, ⟨_, rfl, hk1⟩, _, rfl, hk2⟩ := ck
    have s1 := zp.1.2.1
    have s2 := zp.2.2.1
    have s3 := zk.1.2.1
    have s4 := zk.2.2.1
    walk_at "go"
    refine r_ixL hl ap ?_
    walk_at "go"
    refine r_ixL hl ap ?_
    walk_at "go"
    rename_i t1 G1 m1 g1 f1
    have hl := sql_up g1 hl
    have hk := g1.at hk
    have hk1 := g1.at hk1
    have hk2 := g1.at hk2
    refine r_ixL hl ak ?_
    walk_at "go"
    refine r_ixL hl ak ?_
    walk_at "go"
    rename_i t2 G2 m2 g2 f2
    have f1 := g2.at f1
    walk_at "go"
    refine use_law_common ?_
    walk_at "go"
    exact ⟨_, _, _, rfl, (E.trans g1).trans g2⟩
  · rintro σ G ⟨o5, o6, o7, rfl, E⟩
    walk_at "go"
    exact q _ E

end
def sp_law_on_line (_ : PySem.W.Frag) : Sp := fun vs H Q _ => ∃ (x y : V) (a b : Cn), vs = [x, y] ∧ CnAt H x a ∧ CnAt H y b ∧ SzC a ∧ SzC b ∧ Q (.int ((Int.gcd (b.1.1 - a.1.1) (b.2.1 - a.2.1) : Int) + 1)) H
theorem use_law_on_line {K : PySem.W.Frag} {H : Hp} {Q : VK} {E : XK} {x y : V} {a b : Cn} (hx : CnAt H x a) (hy : CnAt H y b) (za : SzC a) (zb : SzC b) (q : Q (.int ((Int.gcd (b.1.1 - a.1.1) (b.2.1 - a.2.1) : Int) + 1)) H) : sp_law_on_line K [x, y] H Q E := ⟨x, y, a, b, rfl, hx, hy, za, zb, q⟩
abbrev s_law_on_line : Stmt := topS 32
abbrev nm_law_on_line : List Str := ["one", "other"]
theorem sc_law_on_line : FnScope nm_law_on_line ["one", "other"] (defScope s_law_on_line) := ⟨rfl, rfl, rfl, by decide +kernel, rfl, by decide +kernel, by decide +kernel⟩
theorem st_law_on_line {v0 v1 : V} : start nm_law_on_line [v0, v1] = [some v0, some v1] := rfl
section
variable {P : Program} {w : World} {K : PySem.W.Frag} {mg : Str → Option Value} {base : Heap}
theorem ok_law_on_line (D : DefAt K mg "_law_on_line" s_law_on_line ["one", "other"]) (G__law_common : Has P w K mg base CX0 2 "_law_common" ["one", "other"] (sp_law_common K)) : Has P w K mg base CX0 3 "_law_on_line" ["one", "other"] (sp_law_on_line K) := by
  refine D.ok sc_law_on_line (by rintro _ _ _ _ ⟨_, _, _, _, rfl, _⟩; rfl) (fun f cdv A outer s H vs Q E hr h => ?_)
  obtain ⟨_, _, a, b, rfl, ⟨pa, _, _, rfl, ha, ⟨_, rfl, fa1⟩, _, rfl, fa2⟩, ⟨pb, _, _, rfl, hb, ⟨_, rfl, fb1⟩, _, rfl, fb2⟩, za, zb, q⟩ := h
  refine ⟨_, (pss_one (ps_ret (pe_op op_add (pcall G__law_common (hr.mono (by decide)) (pa_cons (pe_op op_sub (pe_ix ix_tup (pe_ix ix_tup (pv 1) pe_int (fun _ _ => rfl)) pe_int (fun _ _ => rfl)) (pe_ix ix_tup (pe_ix ix_tup (pv 0) pe_int (fun _ _ => rfl)) pe_int (fun _ _ => rfl))) (pa_cons (pe_op op_sub (pe_ix ix_tup (pe_ix ix_tup (pv 1) pe_int (fun _ _ => rfl)) pe_int (fun _ _ => rfl)) (pe_ix ix_tup (pe_ix ix_tup (pv 0) pe_int (fun _ _ => rfl)) pe_int (fun _ _ => rfl))) pa_nil))) pe_int))), ?_⟩
  rw [st_law_on_line]
  try dsimp only [Cx.nox, Cx.wish, Cx.blk, cx_K]
  walk_at "go"
  refine use_law_common ?_
  walk_at "go"
  exact q

end
def sp_law (K : PySem.W.Frag) : Sp := fun vs H Q _ => ∃ (a : Addr) (ns : List Int), vs = [.ref a] ∧ SqL K H a (ns.map V.int) ∧ ns.length ≤ 63 ∧ ∀ H', Q (.bl true) H'
/-- made greater -/
def grtC (b : Int) (c : Cn) : Cn := (frd (c.1.1 * b, c.1.2), frd (c.2.1 * b, c.2.2))
theorem grtC_sz {b : Int} {c : Cn} (zb : Sz 81 b) (h : SzS c) : SzM (grtC b c) := by
  obtain ⟨⟨p1, z1, z2⟩, p2, z3, z4⟩ := h
  exact ⟨(frd_sz (n := 150) (m := 10) (f := (c.1.1 * b, c.1.2)) ⟨p1, (z1.mul zb).mono (by decide), z2⟩), frd_sz (n := 150) (m := 10) (f := (c.2.1 * b, c.2.2)) ⟨p2, (z3.mul zb).mono (by decide), z4⟩⟩
theorem grt_fv {f : Fq} {b : Int} (h : 0 < f.2) : fv (frd (f.1 * b, f.2)) = (b : Rat) * fv f := by
  rw [frd_v (f := (f.1 * b, f.2)) h]
  refine qv_of h ?_
  have e : fv f * (f.2 : Rat) = (f.1 : Rat) := qv_mul h
  show _ = ((f.1 * b : Int) : Rat)
  rw [Rat.intCast_mul, ← e]
  grind
theorem grt_ring {b : Int} (b0 : 0 < b) {cs : List Cn} (ok : ∀ c ∈ cs, OkC c) (I : RingI cs) : RingI (cs.map (grtC b)) := by
  obtain ⟨R, l20⟩ := (ringI_iff ok).mp I
  have e : pts (cs.map (grtC b)) = (pts cs).map fun p : Pt => ((b : Rat) * p.1, (b : Rat) * p.2) := by
    unfold pts
    rw [List.map_map, List.map_map]
    refine List.map_congr_left fun c hc => ?_
    show (fv (frd (c.1.1 * b, c.1.2)), fv (frd (c.2.1 * b, c.2.2))) = _
    rw [grt_fv (ok c hc).1, grt_fv (ok c hc).2]
    rfl
  have bp := cast_pos b0
  refine (ringI_iff fun c hc => ?_).mpr ⟨?_, by rw [List.length_map]; exact l20⟩
  · obtain ⟨c, hm, rfl⟩ := List.mem_map.mp hc
    exact ⟨frd_pos (ok c hm).1, frd_pos (ok c hm).2⟩
  · rw [e]
    exact R.aff _ ((b : Rat) * (b : Rat)) (Rat.mul_pos bp bp) fun p q r => by unfold cr; grind
def whlC (c : Cn) : Cn := ((c.1.1 / c.1.2, 1), (c.2.1 / c.2.2, 1))
theorem whlC_sz {c : Cn} (h : SzM c) : SzC (whlC c) := by
  obtain ⟨⟨p1, z1, z2⟩, p2, z3, z4⟩ := h
  have one : Sz 30 (1 : Int) := by show (1 : Int).natAbs < 2 ^ 30; decide
  exact ⟨⟨Int.one_pos, (z1.div p1).mono (by decide), one⟩, Int.one_pos, (z3.div p2).mono (by decide), one⟩
abbrev s_law : Stmt := topS 33
abbrev nm_law : List Str := ["script", "k", "draws", "ring", "by", "found", "shift", "at", "others", "other", "whole", "cut", "both", "x", "y", "way"]
theorem sc_law : FnScope nm_law ["script"] (defScope s_law) := ⟨rfl, rfl, rfl, by decide +kernel, rfl, by decide +kernel, by decide +kernel⟩
theorem st_law {v0 : V} : start nm_law [v0] = [some v0, none, none, none, none, none, none, none, none, none, none, none, none, none, none, none] := rfl
section
variable {P : Program} {w : World} {K : PySem.W.Frag} {mg : Str → Option Value} {base : Heap}
theorem ok_law  {f : Addr} {fd : FuncData} (F : Fun K "law" "law" s_law f fd) (B_range : mg "range" = none) (B_max : mg "max" = none) (B_min : mg "min" = none) (B_len : mg "len" = none) (B_list : mg "list" = none) (G__law_draws : Has P w K mg base CX0 2 "_law_draws" ["script", "k"] (sp_law_draws K)) (G__law_arch : Has P w K mg base CX0 4 "_law_arch" ["draws", "most", "far"] (sp_law_arch K)) (G__law_draw : Has P w K mg base CX0 2 "_law_draw" ["draws", "many"] (sp_law_draw K)) (G__law_low : Has P w K mg base CX0 3 "_law_low" ["top", "bottom"] (sp_law_low K)) (G_points_in : Has P w K mg base CX0 7 "points_in" ["ring"] (sp_points_in K)) (G__law_figures : Has P w K mg base CX0 3 "_law_figures" ["draws", "most"] (sp_law_figures K)) (G__law_moved : Has P w K mg base CX0 4 "_law_moved" ["ring", "way", "by"] (sp_law_moved K)) (G__law_is_ring : Has P w K mg base CX0 3 "_law_is_ring" ["ring"] (sp_law_is_ring K)) (G__law_whole_corners_right : Has P w K mg base CX0 3 "_law_whole_corners_right" ["ring", "found"] (sp_law_whole_corners_right K)) (G__law_on_line : Has P w K mg base CX0 3 "_law_on_line" ["one", "other"] (sp_law_on_line K)) : FnOk P w K mg base CX0 8 f fd ["script"] (sp_law K) := by
  refine F.ok sc_law (by rintro _ _ _ _ ⟨_, _, rfl, _⟩; rfl) (fun cdv A outer s H vs Q E hr h => ?_)
  obtain ⟨a, ns, rfl, hS, hlen, q⟩ := h
  refine ⟨_, (pss_cons (ps_for PassesOwn.never rfl (pi_range1 rfl B_range (pa_cons (pe_callB (cl_max2 rfl) (by rfl) B_max (by decide +kernel) (pa_cons pe_int (pa_cons (pe_callB (cl_min2 rfl) (by rfl) B_min (by decide +kernel) (pa_cons pe_int (pa_cons (pe_callB cl_len (by rfl) B_len (by decide +kernel) (pa_cons (pv 0) pa_nil)) pa_nil))) pa_nil))) pa_nil)) (pg_name (i := 1) sc_law.nd rfl (Or.inl rfl))
        (pss_cons (ps_set (i := 2) sc_law.nd rfl (Or.inl rfl) (pcall G__law_draws (hr.mono (by decide)) (pa_cons (pv 0) (pa_cons (pv 1) pa_nil))))
        (pss_cons (ps_set (i := 3) sc_law.nd rfl (Or.inr rfl) (pe_slice sl_list (pcall G__law_arch (hr.mono (by decide)) (pa_cons (pv 2) (pa_cons pe_int (pa_cons pe_int pa_nil)))) po_none (po_some pe_int)))
        (pss_cons (ps_set (i := 4) sc_law.nd rfl (Or.inr rfl) (pe_ix ix_list (pe_lst (pa_cons pe_int (pa_cons (pe_op op_pow pe_int pe_int) (pa_cons (pe_op op_add (pe_op op_pow pe_int pe_int) pe_int) pa_nil)))) (pcall G__law_draw (hr.mono (by decide)) (pa_cons (pv 2) (pa_cons pe_int pa_nil))) (fun _ _ => rfl)))
        (pss_cons (ps_set (i := 3) sc_law.nd rfl (Or.inr rfl) (pe_lc rfl sc_law.nd (pi_list (pv 3)) (blkOk_by (own := [("x", 13), ("y", 14)]) (N := nm_law) (sc := defScope s_law) (by decide +kernel)) (fun _ _ _ _ _ => (pg_tupK (K := K) (n := 2) (by rfl) (pgs_cons (pg_name (i := 13) sc_law.nd rfl (Or.inl rfl)) (pgs_cons (pg_name (i := 14) sc_law.nd rfl (Or.inl rfl)) pgs_nil)))) (fun _ _ _ _ _ => pts_nil) (fun _ _ _ _ _ => (pe_tup (pa_cons (pcall G__law_low (hr.mono (by decide)) (pa_cons (pe_op op_mulX (pe_ix (ix_tupK (K := K)) (pv 13) pe_int (fun _ _ => rfl)) (pv 4)) (pa_cons (pe_ix (ix_tupK (K := K)) (pv 13) pe_int (fun _ _ => rfl)) pa_nil))) (pa_cons (pcall G__law_low (hr.mono (by decide)) (pa_cons (pe_op op_mulX (pe_ix (ix_tupK (K := K)) (pv 14) pe_int (fun _ _ => rfl)) (pv 4)) (pa_cons (pe_ix (ix_tupK (K := K)) (pv 14) pe_int (fun _ _ => rfl)) pa_nil))) pa_nil))))))
        (pss_cons (ps_set (i := 5) sc_law.nd rfl (Or.inl rfl) (pcall G_points_in (hr.mono (by decide)) (pa_cons (pe_callTy cl_listOf (by rfl) B_list (by decide +kernel) (pa_cons (pv 3) pa_nil)) pa_nil)))
        (pss_cons (ps_set (i := 6) sc_law.nd rfl (Or.inr rfl) (pe_ix ix_list (pe_lst (pa_cons (pe_op op_sub (pcall G__law_draw (hr.mono (by decide)) (pa_cons (pv 2) (pa_cons pe_int pa_nil))) pe_int) (pa_cons (pcall G__law_figures (hr.mono (by decide)) (pa_cons (pv 2) (pa_cons pe_int pa_nil))) pa_nil))) (pcall G__law_draw (hr.mono (by decide)) (pa_cons (pv 2) (pa_cons pe_int pa_nil))) (fun _ _ => rfl)))
        (pss_cons (ps_set (i := 7) sc_law.nd rfl (Or.inl rfl) (pcall G__law_draw (hr.mono (by decide)) (pa_cons (pv 2) (pa_cons (pe_callB cl_len (by rfl) B_len (by decide +kernel) (pa_cons (pv 3) pa_nil)) pa_nil))))
        (pss_cons (ps_setLc (i := 8) rfl sc_law.nd rfl rfl (sw_true rfl rfl rfl (by decide +kernel)) (pi_range1 rfl B_range (pa_cons pe_int pa_nil)) (blkOk_by (own := [("way", 15)]) (N := nm_law) (sc := defScope s_law) (by decide +kernel)) (fun _ _ _ _ _ => (pg_name (i := 15) sc_law.nd rfl (Or.inl rfl))) (fun _ _ _ _ _ => pts_nil) (fun _ _ _ _ _ => (pcall G__law_moved (hr.mono (by decide)) (pa_cons (pv 3) (pa_cons (pv 15) (pa_cons (pe_ix (ix_listK (K := K)) (pe_lst (pa_cons (pv 6) (pa_cons pe_int (pa_cons pe_int (pa_cons (pv 6) pa_nil))))) (pv 15) (fun _ _ => rfl)) pa_nil))))))
        (pss_cons (ps_for PassesOwn.never rfl (pi_list (pe_op op_cat (pv 8) (pe_lst (pa_cons (pe_op op_cat (pe_slice sl_list (pv 3) (po_some (pv 7)) po_none) (pe_slice sl_list (pv 3) po_none (po_some (pv 7)))) pa_nil)))) (pg_name (i := 9) sc_law.nd rfl (Or.inl rfl))
          (pss_one (ps_if (pt_cmpR op_ne (pcall G_points_in (hr.mono (by decide)) (pa_cons (pv 9) pa_nil)) (pv 5) (nomark _)) (pss_one (ps_ret pe_bl)) pss_nil)))
        (pss_cons (ps_setLc (i := 10) rfl sc_law.nd rfl rfl (sw_true rfl rfl rfl (by decide +kernel)) (pi_list (pv 3)) (blkOk_by (own := [("x", 13), ("y", 14)]) (N := nm_law) (sc := defScope s_law) (by decide +kernel)) (fun _ _ _ _ _ => (pg_tupK (K := K) (n := 2) (by rfl) (pgs_cons (pg_name (i := 13) sc_law.nd rfl (Or.inl rfl)) (pgs_cons (pg_name (i := 14) sc_law.nd rfl (Or.inl rfl)) pgs_nil)))) (fun _ _ _ _ _ => pts_nil) (fun _ _ _ _ _ => (pe_tup (pa_cons (pe_tup (pa_cons (pe_op op_fdivW (pe_ix (ix_tupK (K := K)) (pv 13) pe_int (fun _ _ => rfl)) (pe_ix (ix_tupK (K := K)) (pv 13) pe_int (fun _ _ => rfl))) (pa_cons pe_int pa_nil))) (pa_cons (pe_tup (pa_cons (pe_op op_fdivW (pe_ix (ix_tupK (K := K)) (pv 14) pe_int (fun _ _ => rfl)) (pe_ix (ix_tupK (K := K)) (pv 14) pe_int (fun _ _ => rfl))) (pa_cons pe_int pa_nil))) pa_nil)))))
        (pss_one (ps_if (pt_val (pcall G__law_is_ring (hr.mono (by decide)) (pa_cons (pv 10) pa_nil))) (pss_cons (ps_set (i := 5) sc_law.nd rfl (Or.inl rfl) (pcall G_points_in (hr.mono (by decide)) (pa_cons (pe_callTy cl_listOf (by rfl) B_list (by decide +kernel) (pa_cons (pv 10) pa_nil)) pa_nil)))
          (pss_cons (ps_if (pt_not (pt_val (pcall G__law_whole_corners_right (hr.mono (by decide)) (pa_cons (pv 10) (pa_cons (pv 5) pa_nil))))) (pss_one (ps_ret pe_bl)) pss_nil)
          (pss_one (ps_if (pt_cmpR op_gt (pe_callB cl_len (by rfl) B_len (by decide +kernel) (pa_cons (pv 10) pa_nil)) pe_int (nomark _)) (pss_cons (ps_set (i := 11) sc_law.nd rfl (Or.inl rfl) (pe_op op_add pe_int (pcall G__law_draw (hr.mono (by decide)) (pa_cons (pv 2) (pa_cons (pe_op op_sub (pe_callB cl_len (by rfl) B_len (by decide +kernel) (pa_cons (pv 10) pa_nil)) pe_int) pa_nil)))))
            (pss_cons (ps_set (i := 12) sc_law.nd rfl (Or.inl rfl) (pe_op op_add (pcall G_points_in (hr.mono (by decide)) (pa_cons (pe_slice sl_list (pv 10) po_none (po_some (pe_op op_add (pv 11) pe_int))) pa_nil)) (pcall G_points_in (hr.mono (by decide)) (pa_cons (pe_op op_cat (pe_slice sl_list (pv 10) (po_some (pv 11)) po_none) (pe_slice sl_list (pv 10) po_none (po_some pe_int))) pa_nil))))
            (pss_one (ps_if (pt_cmpR op_ne (pv 12) (pe_op op_add (pv 5) (pcall G__law_on_line (hr.mono (by decide)) (pa_cons (pe_ix ix_list (pv 10) pe_int (fun _ _ => rfl)) (pa_cons (pe_ix ix_list (pv 10) (pv 11) (fun _ _ => rfl)) pa_nil)))) (nomark _)) (pss_one (ps_ret pe_bl)) pss_nil)))) pss_nil)))) pss_nil)))))))))))))
      (pss_one (ps_ret pe_bl))), ?_⟩
  rw [st_law]
  try dsimp only [Cx.nox, Cx.wish, Cx.blk, cx_K]
  walk_at "go"
  rw [List.length_map]
  refine r_rng1 (by omega) (by omega) ?_
  refine for_rng (fun i σ H' => ∃ o1 o2 o3 o4 o5 o6 o7 o8 o9 o10 o11 o12 o13 o14 o15 : Option V, σ = [some (.ref a), o1, o2, o3, o4, o5, o6, o7, o8, o9, o10, o11, o12, o13, o14, o15] ∧ Ex H H') ⟨_, _, _, _, _, _, _, _, _, _, _, _, _, _, _, rfl, Ex.refl⟩ ?_ ?_
  · rintro i σ H0 hi ⟨o1, o2, o3, o4, o5, o6, o7, o8, o9, o10, o11, o12, o13, o14, o15, rfl, e0⟩
    walk_at "go"
    refine use_law_draws (sql_up e0 hS) (by omega) (by omega) fun d H1 nd e1 D1 => ?_
    have w1 : Lw H0 d H1 := ⟨e1, nd, D1⟩
    clear e1 nd D1
    walk_at "go"
    refine use_law_arch w1.D (by decide) (by decide) (by decide) (by decide) fun l2 rs2 H2 n2 k2 D2 RA IA lA _ => ?_
    have w2 := w1.kp k2 D2
    have ld2 := w1.D.free n2
    have hl2 := RA.l
    clear n2 k2 D2 w1
    walk_at "go"
    refine r_slL hl2 fun l3 H3 n3 e3 h3 => ?_
    have w3 := w2.ex e3
    have ld3 := w2.D.free n3
    rw [cut_ge (by rw [List.length_map]; omega)] at h3
    have RB : RgS H3 l3 rs2 := ⟨h3, fun r hr => (RA.c r hr).ex e3, RA.z⟩
    clear n3 e3 w2 hl2 RA ld2
    walk_at "go"
    rename_i p4 H4 n4 e4 h4
    have w4 := w3.ex e4
    have ld4 := w3.D.free n4
    have RB := RB.ex e4
    clear n4 e4 w3
    refine use_law_draw w4.D (by decide) (by walk_at "szm") fun v5 H5 a5 b5 k5 D5 => ?_
    have w5 := w4.kp k5 D5
    have h4 := k5 _ _ ld4 h4
    have RB := RB.kp k5 w4.D ld3
    clear k5 D5 w4
    walk_at "go"
    obtain ⟨b, hb, b0, zb⟩ : ∃ b : Int, atI [V.int 1, .int 1000000, .int 1000000000000000000000007] v5 = some (.int b) ∧ 0 < b ∧ Sz 81 b := by
      obtain rfl | rfl | rfl : v5 = 0 ∨ v5 = 1 ∨ v5 = 2 := by omega
      · exact ⟨_, rfl, by decide, by show Int.natAbs _ < 2 ^ 81; decide⟩
      · exact ⟨_, rfl, by decide, by show Int.natAbs _ < 2 ^ 81; decide⟩
      · exact ⟨_, rfl, by decide, by show Int.natAbs _ < 2 ^ 81; decide⟩
    refine r_ixL (SqL.of h4) hb ?_
    have zb2 : Sz 200 b := zb.mono (by decide)
    have hl3 := RB.l
    have nn3 := IA.1
    have lenc : (rcs rs2).length = rs2.length := List.length_map ..
    walk_at "go"
    refine lc_cn (grtC b) (SqL.of hl3) RB.c (by omega) (fun _ _ => rfl) (fun r hr p1 p2 f1 f2 G e QE kE => ?_) (fun l6 H6 ts n6 e6 h6 c6 t6 => ?_)
    · obtain ⟨⟨q1, z1, z2⟩, q2, z3, z4⟩ := RB.z r hr
      have f1 := e.at f1
      have f2 := e.at f2
      walk_at "go"
      refine use_law_low q1 (z2.mono (by decide)) fun u1 G1 m1 g1 o1 => ?_
      have f2 := g1.at f2
      walk_at "go"
      refine use_law_low q2 (z4.mono (by decide)) fun u2 G2 m2 g2 o2 => ?_
      walk_at "go"
      rename_i nc G3 m3 g3 f3
      exact kE nc G3 ((g1.trans g2).trans g3) ⟨nc, _, _, rfl, f3, (o1.ex g2).ex g3, o2.ex g3⟩
    have ecs : rcs ts = (rcs rs2).map (grtC b) := t6
    have lts : ts.length = rs2.length := by
      have := congrArg List.length t6
      rwa [List.length_map, List.length_map, List.length_map] at this
    have RM : RgM H6 l6 ts := ⟨h6, c6, fun r hr => by
      have m : r.2 ∈ (rcs rs2).map (grtC b) := by rw [← ecs]; exact List.mem_map.mpr ⟨r, hr, rfl⟩
      obtain ⟨c, hc, e⟩ := List.mem_map.mp m
      obtain ⟨r', hr', rfl⟩ := List.mem_map.mp hc
      rw [← e]
      exact grtC_sz zb (RB.z r' hr')⟩
    have I6 : RingI (rcs ts) := by
      rw [ecs]
      exact grt_ring b0 (RB.at (K := K)).ok IA
    have nn : 3 ≤ ts.length := by omega
    have nn20 : ts.length ≤ 20 := by omega
    have w6 := w5.ex e6
    have ld6 := w5.D.free n6
    clear n6 e6 h6 c6 t6 RB w5 hb h4 ecs hl3 IA lenc
    have ok6 := (RM.at (K := K)).ok
    have hl6 := RM.l
    walk_at "go"
    rename_i l7 H7 n7 e7 h7
    have RM := RM.ex e7
    have w7 := w6.ex e7
    refine use_points_in ⟨SqL.of h7, RM.c, fun r hr => (RM.z r hr).c⟩ I6 fun N H8 e8 C8 => ?_
    have CN := C8.list
    have RM := RM.ex e8
    have w8 := w7.ex e8
    clear e7 e8 n7 h7 w6 w7 C8 hl6
    walk_at "go"
    refine use_law_draw w8.D (by decide) (by walk_at "szm") fun v9 H9 a9 b9 k9 D9 => ?_
    walk_at "go"
    refine use_law_figuresB D9 (by decide) (by decide) fun v10 H10 _ z10 k10 D10 => ?_
    have k910 := k9.trans k10
    have RM := RM.kp k910 w8.D ld6
    have w10 := w8.kp k910 D10
    clear k9 k10 k910 D9 D10 w8
    walk_at "go"
    rename_i l11 H11 n11 e11 h11
    have w11 := w10.ex e11
    have ld11 := w10.D.free n11
    have RM := RM.ex e11
    clear n11 e11 w10
    refine use_law_draw w11.D (by decide) (by walk_at "szm") fun v12 H12 a12 b12 k12 D12 => ?_
    have h11 := k12 _ _ ld11 h11
    have RM := RM.kp k12 w11.D ld6
    have w12 := w11.kp k12 D12
    clear k12 D12 w11
    walk_at "go"
    obtain ⟨s, hs, zs⟩ : ∃ s : Int, atI [V.int (v9 - 49), .int v10] v12 = some (.int s) ∧ Sz 110 s := by
      obtain rfl | rfl : v12 = 0 ∨ v12 = 1 := by omega
      · exact ⟨_, rfl, by show (v9 - 49).natAbs < 2 ^ 110; omega⟩
      · refine ⟨_, rfl, ?_⟩
        show v10.natAbs < 2 ^ 110
        have z10 : v10.natAbs < 1000000 ^ 4 := z10
        have : (1000000 : Nat) ^ 4 = 1000000000000000000000000 := by decide
        omega
    refine r_ixL (SqL.of h11) hs ?_
    have zs2 : Sz 200 s := zs.mono (by decide)
    have hl6 := RM.l
    clear h11 hs z10
    have lmap : (ts.map (·.1)).length = ts.length := List.length_map ..
    walk_at "go"
    rw [lmap]
    refine use_law_draw w12.D (by omega) ((Sz.small (by omega)).mono (by decide)) fun at_ H13 a13 b13 k13 D13 => ?_
    have RM := RM.kp k13 w12.D ld6
    have w13 := w12.kp k13 D13
    clear k13 D13 w12 hl6
    have hl6 := RM.l
    walk_at "go"
    refine r_rng1 (by decide) (by decide) ?_
    refine lc_rngE (MvAt (rcs ts) (fun i => if i = 0 ∨ i = 3 then s else 0)) (fun D i v G G' kp h => h.kp kp) (by decide) (fun _ => rfl) (fun D hD i hi G e hd QE kE => ?_) (fun l14 H14 us n14 e14 h14 lus hus => ?_)
    · obtain ⟨ys, hd⟩ := hd
      have hi : i < 4 := hi
      walk_at "go"
      rename_i q1 G1 m1 g1 f1
      have ix : atI [V.int s, .int 0, .int 0, .int s] (0 + (i : Int)) = some (.int (if i = 0 ∨ i = 3 then s else 0)) := by
        obtain rfl | rfl | rfl | rfl : i = 0 ∨ i = 1 ∨ i = 2 ∨ i = 3 := by omega
        all_goals rfl
      refine r_ixL (SqL.of f1) ix ?_
      walk_at "go"
      have RM1 := (RM.ex e).ex g1
      rw [show (0 : Int) + (i : Int) = i by omega]
      refine use_law_moved RM1 (by omega) (by omega) (by split; exact zs; show (0 : Int).natAbs < 2 ^ 110; decide) fun l2 ts2 G2 m2 g2 R2 t2 h2 => ?_
      have hd2 := g2.at (g1.at hd)
      exact kE _ _ (g1.trans g2) ⟨l2, ts2, rfl, minus_at (by simp only [List.mem_singleton]; exact (ne_of_none (g1.at hd) m2).symm) h2, fun t ht => (R2.c t ht).minus hd2, R2.z, t2⟩
    have ok6' := ok6
    have all4 : ∀ v ∈ us, EqR N H14 v := fun v hv => by
      obtain ⟨j, hj⟩ := List.getElem?_of_mem hv
      have lj : j < 4 := by
        have := (List.getElem?_eq_some_iff.mp hj).1
        rw [lus] at this
        exact this
      exact (hus j v hj).eqR lj ok6 I6 CN
    have RM := RM.ex e14
    have w14 := w13.ex e14
    clear e14 n14 w13 hl6 hus
    have hl6 := RM.l
    have A1 : at_ ≤ ((ts.map (·.1)).length : Nat) := by rw [lmap]; omega
    have cuA : cutV (ts.map (·.1)) none (some at_) = (ts.take at_.toNat).map (·.1) := by rw [cut_toN _ a13 A1, List.map_take]
    have cuB : cutV (ts.map (·.1)) (some at_) none = (ts.drop at_.toNat).map (·.1) := by rw [cut_fromN _ a13 A1, List.map_drop]
    walk_at "go"
    refine r_slL hl6 fun s1 G1 m1 g1 f1 => ?_
    rw [cuB] at f1
    have hl6 := g1.at hl6
    have h14 := g1.at h14
    walk_at "go"
    refine r_slL hl6 fun s2 G2 m2 g2 f2 => ?_
    rw [cuA] at f2
    have f1 := g2.at f1
    have h14 := g2.at h14
    refine r_catL f1 f2 (by rw [List.length_map, List.length_map, List.length_drop, List.length_take]; omega) fun s3 G3 m3 g3 f3 => ?_
    have h14 := g3.at h14
    walk_at "go"
    rename_i q4 G4 m4 g4 f4
    have h14 := g4.at h14
    have lus4 : us.length = 4 := lus
    refine r_catL h14 f4 (by rw [lus4]; show 4 + 1 ≤ _; decide) fun ol G5 m5 g5 f5 => ?_
    have E5 := (((g1.trans g2).trans g3).trans g4).trans g5
    have rr := rot_ring (t := at_.toNat) (cs := rcs ts) (by unfold rcs; rw [List.length_map]; omega) ok6 I6
    have S3 : EqR N G3 (.ref s3) := by
      refine ⟨s3, ts.drop at_.toNat ++ ts.take at_.toNat, rfl, by rw [f3, List.map_append], fun t ht => ?_, fun t ht => ?_, ?_, ?_⟩
      · have m : t ∈ ts := by
          rcases List.mem_append.mp ht with ht | ht
          · exact List.mem_of_mem_drop ht
          · exact List.mem_of_mem_take ht
        exact (RM.c t m).ex ((g1.trans g2).trans g3)
      · have m : t ∈ ts := by
          rcases List.mem_append.mp ht with ht | ht
          · exact List.mem_of_mem_drop ht
          · exact List.mem_of_mem_take ht
        exact (RM.z t m).c
      · have e : rcs (ts.drop at_.toNat ++ ts.take at_.toNat) = (rcs ts).drop at_.toNat ++ (rcs ts).take at_.toNat := by
          unfold rcs
          rw [List.map_append, List.map_drop, List.map_take]
        rw [e]
        exact rr.1
      · have e : rcs (ts.drop at_.toNat ++ ts.take at_.toNat) = (rcs ts).drop at_.toNat ++ (rcs ts).take at_.toNat := by
          unfold rcs
          rw [List.map_append, List.map_drop, List.map_take]
        rw [e]
        exact rr.2 N CN
    have all5 : ∀ v ∈ us ++ [V.ref s3], EqR N G5 v := fun v hv => by
      rcases List.mem_append.mp hv with hv | hv
      · exact (all4 v hv).ex E5
      · rw [List.mem_singleton.mp hv]
        exact S3.ex (g4.trans g5)
    have RM := RM.ex E5
    have w5 := w14.ex E5
    clear g1 g2 g3 g4 g5 E5 f1 f2 f3 f4 m1 m2 m3 m4 m5 h14 S3 all4 w14 hl6 rr
    walk_at "go"
    refine for_lst (xs := us ++ [V.ref s3]) (fun j σ H' => ∃ (o9 : Option V), σ = [some (.ref a), some (.int (0 + i)), some (.ref d), some (.ref l6), some (.int b), some (.int N), some (.int s), some (.int at_), some (.ref l14), o9, o10, o11, o12, o13, o14, o15] ∧ Lw H0 d H' ∧ RgM H' l6 ts ∧ H' ol = some (.lst (us ++ [V.ref s3])) ∧ ∀ v ∈ us ++ [V.ref s3], EqR N H' v) ⟨_, rfl, w5, RM, f5, all5⟩ (fun j σ H' _ h => ?_) ?_ ?_
    · obtain ⟨_, _, _, _, z, _⟩ := h
      exact SqL.of z
    · clear w5 RM f5 all5
      rintro j v σ F1 hv ⟨o9, rfl, w, RM, hol, all⟩
      obtain ⟨lo, ro, rfl, hlo, co, zo, io, no⟩ := all v (List.mem_of_getElem? hv)
      walk_at "go"
      refine use_points_in ⟨SqL.of hlo, co, zo⟩ io fun M F2 e2 CM => ?_
      rw [show M = N from CM.list.uniq no]
      walk_at "go"
      exact ⟨_, rfl, w.ex e2, RM.ex e2, e2.at hol, fun v hv => (all v hv).ex e2⟩
    rintro σ F1 ⟨o9, rfl, w, RM', _, _⟩
    clear w5 RM f5 all5
    have hl6 := RM'.l
    walk_at "go"
    refine lc_cn whlC (SqL.of hl6) RM'.c (by omega) (fun _ _ => rfl) (fun r hr p1 p2 f1 f2 G e QE kE => ?_) (fun l7 H7 ws n7 e7 h7 c7 t7 => ?_)
    · obtain ⟨⟨q1, z1, z2⟩, q2, z3, z4⟩ := RM'.z r hr
      have f1 := e.at f1
      have f2 := e.at f2
      walk_at "go"
      rename_i u1 G1 m1 g1 o1 u2 G2 m2 g2 o2 nc G3 m3 g3 f3
      exact kE nc G3 ((g1.trans g2).trans g3) ⟨nc, _, _, rfl, f3, ⟨u1, rfl, (g2.trans g3).at o1⟩, u2, rfl, g3.at o2⟩
    have ews : rcs ws = (rcs ts).map whlC := t7
    have lws : ws.length = ts.length := by
      have := congrArg List.length t7
      rwa [List.length_map, List.length_map, List.length_map] at this
    have zW : ∀ r ∈ ws, SzC r.2 := fun r hr => by
      have m : r.2 ∈ (rcs ts).map whlC := by rw [← ews]; exact List.mem_map.mpr ⟨r, hr, rfl⟩
      obtain ⟨c, hc, e⟩ := List.mem_map.mp m
      obtain ⟨r', hr', rfl⟩ := List.mem_map.mp hc
      rw [← e]
      exact whlC_sz (RM'.z r' hr')
    have WC : WholeC (rcs ws) := fun c hc => by
      rw [ews] at hc
      obtain ⟨c', _, rfl⟩ := List.mem_map.mp hc
      exact ⟨rfl, rfl⟩
    have RW : RgAt K H7 l7 ws := ⟨SqL.of h7, c7, zW⟩
    have okW := RW.ok
    have w7 := w.ex e7
    have ld7 := w.D.free n7
    clear e7 n7 t7 w hl6 RM'
    have lmw : (ws.map (·.1)).length = ws.length := List.length_map ..
    walk_at "go"
    refine use_law_is_ring RW (by omega) (fun H8 e8 I8 => ?_) (fun H8 e8 _ => ?_)
    · have h7 := e8.at h7
      walk_at "go"
      rename_i l9 H9 n9 e9 h9
      have e89 := e8.trans e9
      refine use_points_in ⟨SqL.of h9, fun r hr => (c7 r hr).ex e89, zW⟩ I8 fun M H10 e10 C10 => ?_
      have CM := C10.list
      have e810 := e89.trans e10
      have RW := RW.ex e810
      have w10 := w7.ex e810
      have h7 := (e9.trans e10).at h7
      clear e8 e9 e10 e89 e810 n9 h9 C10 w7
      walk_at "go"
      refine use_law_whole_corners_right RW (by omega) (by omega) fun H11 e11 => ?_
      have lrw : (rcs ws).length = ws.length := List.length_map ..
      have pk := pick_law WC okW I8 CM
      rw [lrw] at pk
      rw [decide_eq_true pk]
      have RW := RW.ex e11
      have w11 := w10.ex e11
      have h7 := e11.at h7
      clear e11 w10
      walk_at "go"
      rw [lmw]
      by_cases c3 : 3 < ws.length
      · walk_at "go"
        rw [lmw]
        walk_at "go"
        refine use_law_draw w11.D (by omega) ((Sz.small (by omega)).mono (by decide)) fun v12 H12 a12 b12 k12 D12 => ?_
        have RG12 : ∀ r ∈ ws, CnAt H12 r.1 r.2 := fun r hr => (RW.c r hr).kp k12 w11.D
        have h7 := k12 _ _ ld7 h7
        have w12 := w11.kp k12 D12
        clear k12 D12 w11 RW
        have ec : ((2 + v12).toNat : Int) = 2 + v12 := by omega
        walk_at "go"
        refine r_slL h7 fun l13 H13 n13 e13 h13 => ?_
        have cu1 : cutV (ws.map (·.1)) none (some (2 + v12 + 1)) = (ws.take ((2 + v12).toNat + 1)).map (·.1) := by
          rw [cut_toN _ (by omega) (by rw [lmw]; omega), List.map_take]
          congr 1
          omega
        have cu2 : cutV (ws.map (·.1)) (some (2 + v12)) none = (ws.drop (2 + v12).toNat).map (·.1) := by rw [cut_fromN _ (by omega) (by rw [lmw]; omega), List.map_drop]
        have cu3 : cutV (ws.map (·.1)) none (some 1) = (ws.take 1).map (·.1) := by rw [cut_toN _ (by decide) (by rw [lmw]; omega), List.map_take]; rfl
        rw [cu1] at h13
        have IA := part_ring okW I8 (c := (2 + v12).toNat) (by omega) (by rw [lrw]; omega)
        have IB := part_ring2 okW I8 (c := (2 + v12).toNat) (by omega) (by rw [lrw]; omega)
        have eA : rcs (ws.take ((2 + v12).toNat + 1)) = (rcs ws).take ((2 + v12).toNat + 1) := by unfold rcs; rw [List.map_take]
        have eB : rcs (ws.drop (2 + v12).toNat ++ ws.take 1) = (rcs ws).drop (2 + v12).toNat ++ (rcs ws).take 1 := by unfold rcs; rw [List.map_append, List.map_drop, List.map_take]
        walk_at "go"
        refine use_points_in (rs := ws.take ((2 + v12).toNat + 1)) ⟨SqL.of h13, fun r hr => (RG12 r (List.mem_of_mem_take hr)).ex e13, fun r hr => zW r (List.mem_of_mem_take hr)⟩ (by rw [eA]; exact IA) fun N1 H14 e14 C1 => ?_
        rw [eA] at C1
        have E14 := e13.trans e14
        have h7 := E14.at h7
        walk_at "go"
        refine r_slL h7 fun l15 H15 n15 e15 h15 => ?_
        rw [cu2] at h15
        have h7 := e15.at h7
        walk_at "go"
        refine r_slL h7 fun l16 H16 n16 e16 h16 => ?_
        rw [cu3] at h16
        have h15 := e16.at h15
        refine r_catL h15 h16 (by rw [List.length_map, List.length_map, List.length_drop, List.length_take]; omega) fun l17 H17 n17 e17 h17 => ?_
        have E17 := ((E14.trans e15).trans e16).trans e17
        have m17 : ∀ r ∈ ws.drop (2 + v12).toNat ++ ws.take 1, r ∈ ws := fun r hr => by
          rcases List.mem_append.mp hr with hr | hr
          · exact List.mem_of_mem_drop hr
          · exact List.mem_of_mem_take hr
        walk_at "go"
        refine use_points_in (rs := ws.drop (2 + v12).toNat ++ ws.take 1) ⟨SqL.of (by rw [h17, List.map_append]), fun r hr => (RG12 r (m17 r hr)).ex E17, fun r hr => zW r (m17 r hr)⟩ (by rw [eB]; exact IB) fun N2 H18 e18 C2 => ?_
        rw [eB] at C2
        have E18 := E17.trans e18
        have RW18 : RgAt K H18 l7 ws := ⟨SqL.of ((e16.trans (e17.trans e18)).at h7), fun r hr => (RG12 r hr).ex E18, zW⟩
        have key := cut_law WC okW I8 (c := (2 + v12).toNat) (by omega) (by rw [lrw]; omega) C1.list C2.list CM
        obtain ⟨x0, y0, cc0, z0⟩ := RW18.at (i := 0) (by decide) (by omega)
        obtain ⟨xc, yc, ccc, zc⟩ := RW18.at (i := 2 + v12) (by omega) (by omega)
        have hl18 := RW18.l
        walk_at "go"
        refine r_ixL hl18 y0 ?_
        walk_at "go"
        refine r_ixL hl18 yc ?_
        walk_at "go"
        refine use_law_on_line cc0 ccc z0 zc ?_
        walk_at "go"
        rw [show (0 : Int).toNat = 0 from rfl, key]
        walk_at "go"
        exact ⟨_, _, _, _, _, _, _, _, _, _, _, _, _, _, _, rfl, e0.trans (w12.ex E18).e⟩
      · walk_at "go"
        exact ⟨_, _, _, _, _, _, _, _, _, _, _, _, _, _, _, rfl, e0.trans w11.e⟩
    · walk_at "go"
      exact ⟨_, _, _, _, _, _, _, _, _, _, _, _, _, _, _, rfl, e0.trans (w7.ex e8).e⟩
  · rintro σ H' ⟨o1, o2, o3, o4, o5, o6, o7, o8, o9, o10, o11, o12, o13, o14, o15, rfl, e0⟩
    walk_at "go"
    exact q _

end
end Sd
namespace Sd
open PySem PySem.Spec PyProof.Rows L2
theorem all_mk {l : PySem.W.OpenLaw} {w : World} {K : PySem.W.Frag} {h : Heap} {mg : Str → Option Value} {fa : Addr} (X : K.In h) (G : h.Ns mainGlobals mg) (hfa : mg "law" = some (.ref fa))
    {f0 f1 f2 f3 f4 f5 f6 f7 f8 f9 f10 f11 f12 f13 f14 f15 f16 f17 f18 f19 f20 f21 f22 f23 f24 : Addr}
    {od0 an0 od1 an1 od2 an2 od3 an3 od4 an4 od5 an5 od6 an6 od7 an7 od8 an8 od9 an9 od10 an10 od11 an11 od12 an12 od13 an13 od14 an14 od15 an15 od16 an16 od17 an17 od18 an18 od19 an19 od20 an20 od21 an21 od22 an22 od23 an23 od24 an24 : Option Addr}
    {sl0 sl1 sl2 sl3 sl4 sl5 sl6 sl7 sl8 sl9 sl10 sl11 sl12 sl13 sl14 sl15 sl16 sl17 sl18 sl19 sl20 sl21 sl22 sl23 sl24 : Array (Option Value)}
    {oc0 kV0 dc0 pm0 cd0 ct0 oc1 kV1 dc1 pm1 cd1 ct1 oc2 kV2 dc2 pm2 cd2 ct2 oc3 kV3 dc3 pm3 cd3 ct3 oc4 kV4 dc4 pm4 cd4 ct4 oc5 kV5 dc5 pm5 cd5 ct5 oc6 kV6 dc6 pm6 cd6 ct6 oc7 kV7 dc7 pm7 cd7 ct7 oc8 kV8 dc8 pm8 cd8 ct8 oc9 kV9 dc9 pm9 cd9 ct9 oc10 kV10 dc10 pm10 cd10 ct10 oc11 kV11 dc11 pm11 cd11 ct11 oc12 kV12 dc12 pm12 cd12 ct12 oc13 kV13 dc13 pm13 cd13 ct13 oc14 kV14 dc14 pm14 cd14 ct14 oc15 kV15 dc15 pm15 cd15 ct15 oc16 kV16 dc16 pm16 cd16 ct16 oc17 kV17 dc17 pm17 cd17 ct17 oc18 kV18 dc18 pm18 cd18 ct18 oc19 kV19 dc19 pm19 cd19 ct19 oc20 kV20 dc20 pm20 cd20 ct20 oc21 kV21 dc21 pm21 cd21 ct21 oc22 kV22 dc22 pm22 cd22 ct22 oc23 kV23 dc23 pm23 cd23 ct23 oc24 kV24 dc24 pm24 cd24 ct24 : Value}
    {tk_LEAST_CORNERS tk_MOST_CORNERS : Tok}
    (a0 : PySem.W.nsIn K mainGlobals "_law_draws" = some (some (.ref f0))) (l0 : K.lookup f0 = some ⟨oc0, od0, .func (PySem.W.fnOf "_law_draws" "_law_draws" (defArgs s_law_draws) (defBody s_law_draws) (defScope s_law_draws) .none kV0 dc0 pm0 an0 cd0 ct0), sl0⟩) (c0 : PySem.W.codeIn K cd0 "_law_draws" = true) (k0 : PySem.W.keepIn K (.ref f0) = true)
    (a1 : PySem.W.nsIn K mainGlobals "_law_draw" = some (some (.ref f1))) (l1 : K.lookup f1 = some ⟨oc1, od1, .func (PySem.W.fnOf "_law_draw" "_law_draw" (defArgs s_law_draw) (defBody s_law_draw) (defScope s_law_draw) .none kV1 dc1 pm1 an1 cd1 ct1), sl1⟩) (c1 : PySem.W.codeIn K cd1 "_law_draw" = true) (k1 : PySem.W.keepIn K (.ref f1) = true)
    (a2 : PySem.W.nsIn K mainGlobals "_law_common" = some (some (.ref f2))) (l2 : K.lookup f2 = some ⟨oc2, od2, .func (PySem.W.fnOf "_law_common" "_law_common" (defArgs s_law_common) (defBody s_law_common) (defScope s_law_common) .none kV2 dc2 pm2 an2 cd2 ct2), sl2⟩) (c2 : PySem.W.codeIn K cd2 "_law_common" = true) (k2 : PySem.W.keepIn K (.ref f2) = true)
    (a3 : PySem.W.nsIn K mainGlobals "_law_low" = some (some (.ref f3))) (l3 : K.lookup f3 = some ⟨oc3, od3, .func (PySem.W.fnOf "_law_low" "_law_low" (defArgs s_law_low) (defBody s_law_low) (defScope s_law_low) .none kV3 dc3 pm3 an3 cd3 ct3), sl3⟩) (c3 : PySem.W.codeIn K cd3 "_law_low" = true) (k3 : PySem.W.keepIn K (.ref f3) = true)
    (a4 : PySem.W.nsIn K mainGlobals "_law_arch" = some (some (.ref f4))) (l4 : K.lookup f4 = some ⟨oc4, od4, .func (PySem.W.fnOf "_law_arch" "_law_arch" (defArgs s_law_arch) (defBody s_law_arch) (defScope s_law_arch) .none kV4 dc4 pm4 an4 cd4 ct4), sl4⟩) (c4 : PySem.W.codeIn K cd4 "_law_arch" = true) (k4 : PySem.W.keepIn K (.ref f4) = true)
    (a5 : PySem.W.nsIn K mainGlobals "divisor" = some (some (.ref f5))) (l5 : K.lookup f5 = some ⟨oc5, od5, .func (PySem.W.fnOf "divisor" "divisor" (defArgs s_divisor) (defBody s_divisor) (defScope s_divisor) .none kV5 dc5 pm5 an5 cd5 ct5), sl5⟩) (c5 : PySem.W.codeIn K cd5 "divisor" = true) (k5 : PySem.W.keepIn K (.ref f5) = true)
    (a6 : PySem.W.nsIn K mainGlobals "fraction" = some (some (.ref f6))) (l6 : K.lookup f6 = some ⟨oc6, od6, .func (PySem.W.fnOf "fraction" "fraction" (defArgs s_fraction) (defBody s_fraction) (defScope s_fraction) .none kV6 dc6 pm6 an6 cd6 ct6), sl6⟩) (c6 : PySem.W.codeIn K cd6 "fraction" = true) (k6 : PySem.W.keepIn K (.ref f6) = true)
    (a7 : PySem.W.nsIn K mainGlobals "difference" = some (some (.ref f7))) (l7 : K.lookup f7 = some ⟨oc7, od7, .func (PySem.W.fnOf "difference" "difference" (defArgs s_difference) (defBody s_difference) (defScope s_difference) .none kV7 dc7 pm7 an7 cd7 ct7), sl7⟩) (c7 : PySem.W.codeIn K cd7 "difference" = true) (k7 : PySem.W.keepIn K (.ref f7) = true)
    (a8 : PySem.W.nsIn K mainGlobals "product_of" = some (some (.ref f8))) (l8 : K.lookup f8 = some ⟨oc8, od8, .func (PySem.W.fnOf "product_of" "product_of" (defArgs s_product_of) (defBody s_product_of) (defScope s_product_of) .none kV8 dc8 pm8 an8 cd8 ct8), sl8⟩) (c8 : PySem.W.codeIn K cd8 "product_of" = true) (k8 : PySem.W.keepIn K (.ref f8) = true)
    (a9 : PySem.W.nsIn K mainGlobals "hand_of" = some (some (.ref f9))) (l9 : K.lookup f9 = some ⟨oc9, od9, .func (PySem.W.fnOf "hand_of" "hand_of" (defArgs s_hand_of) (defBody s_hand_of) (defScope s_hand_of) .none kV9 dc9 pm9 an9 cd9 ct9), sl9⟩) (c9 : PySem.W.codeIn K cd9 "hand_of" = true) (k9 : PySem.W.keepIn K (.ref f9) = true)
    (a10 : PySem.W.nsIn K mainGlobals "need_ring" = some (some (.ref f10))) (l10 : K.lookup f10 = some ⟨oc10, od10, .func (PySem.W.fnOf "need_ring" "need_ring" (defArgs s_need_ring) (defBody s_need_ring) (defScope s_need_ring) .none kV10 dc10 pm10 an10 cd10 ct10), sl10⟩) (c10 : PySem.W.codeIn K cd10 "need_ring" = true) (k10 : PySem.W.keepIn K (.ref f10) = true)
    (a11 : PySem.W.nsIn K mainGlobals "line_of" = some (some (.ref f11))) (l11 : K.lookup f11 = some ⟨oc11, od11, .func (PySem.W.fnOf "line_of" "line_of" (defArgs s_line_of) (defBody s_line_of) (defScope s_line_of) .none kV11 dc11 pm11 an11 cd11 ct11), sl11⟩) (c11 : PySem.W.codeIn K cd11 "line_of" = true) (k11 : PySem.W.keepIn K (.ref f11) = true)
    (a12 : PySem.W.nsIn K mainGlobals "side_of" = some (some (.ref f12))) (l12 : K.lookup f12 = some ⟨oc12, od12, .func (PySem.W.fnOf "side_of" "side_of" (defArgs s_side_of) (defBody s_side_of) (defScope s_side_of) .none kV12 dc12 pm12 an12 cd12 ct12), sl12⟩) (c12 : PySem.W.codeIn K cd12 "side_of" = true) (k12 : PySem.W.keepIn K (.ref f12) = true)
    (a13 : PySem.W.nsIn K mainGlobals "over_down" = some (some (.ref f13))) (l13 : K.lookup f13 = some ⟨oc13, od13, .func (PySem.W.fnOf "over_down" "over_down" (defArgs s_over_down) (defBody s_over_down) (defScope s_over_down) .none kV13 dc13 pm13 an13 cd13 ct13), sl13⟩) (c13 : PySem.W.codeIn K cd13 "over_down" = true) (k13 : PySem.W.keepIn K (.ref f13) = true)
    (a14 : PySem.W.nsIn K mainGlobals "summed" = some (some (.ref f14))) (l14 : K.lookup f14 = some ⟨oc14, od14, .func (PySem.W.fnOf "summed" "summed" (defArgs s_summed) (defBody s_summed) (defScope s_summed) .none kV14 dc14 pm14 an14 cd14 ct14), sl14⟩) (c14 : PySem.W.codeIn K cd14 "summed" = true) (k14 : PySem.W.keepIn K (.ref f14) = true)
    (a15 : PySem.W.nsIn K mainGlobals "summed_from" = some (some (.ref f15))) (l15 : K.lookup f15 = some ⟨oc15, od15, .func (PySem.W.fnOf "summed_from" "summed_from" (defArgs s_summed_from) (defBody s_summed_from) (defScope s_summed_from) .none kV15 dc15 pm15 an15 cd15 ct15), sl15⟩) (c15 : PySem.W.codeIn K cd15 "summed_from" = true) (k15 : PySem.W.keepIn K (.ref f15) = true)
    (a16 : PySem.W.nsIn K mainGlobals "side_sum" = some (some (.ref f16))) (l16 : K.lookup f16 = some ⟨oc16, od16, .func (PySem.W.fnOf "side_sum" "side_sum" (defArgs s_side_sum) (defBody s_side_sum) (defScope s_side_sum) .none kV16 dc16 pm16 an16 cd16 ct16), sl16⟩) (c16 : PySem.W.codeIn K cd16 "side_sum" = true) (k16 : PySem.W.keepIn K (.ref f16) = true)
    (a17 : PySem.W.nsIn K mainGlobals "points_in" = some (some (.ref f17))) (l17 : K.lookup f17 = some ⟨oc17, od17, .func (PySem.W.fnOf "points_in" "points_in" (defArgs s_points_in) (defBody s_points_in) (defScope s_points_in) .none kV17 dc17 pm17 an17 cd17 ct17), sl17⟩) (c17 : PySem.W.codeIn K cd17 "points_in" = true) (k17 : PySem.W.keepIn K (.ref f17) = true)
    (a18 : PySem.W.nsIn K mainGlobals "_law_figures" = some (some (.ref f18))) (l18 : K.lookup f18 = some ⟨oc18, od18, .func (PySem.W.fnOf "_law_figures" "_law_figures" (defArgs s_law_figures) (defBody s_law_figures) (defScope s_law_figures) .none kV18 dc18 pm18 an18 cd18 ct18), sl18⟩) (c18 : PySem.W.codeIn K cd18 "_law_figures" = true) (k18 : PySem.W.keepIn K (.ref f18) = true)
    (a19 : PySem.W.nsIn K mainGlobals "_law_moved" = some (some (.ref f19))) (l19 : K.lookup f19 = some ⟨oc19, od19, .func (PySem.W.fnOf "_law_moved" "_law_moved" (defArgs s_law_moved) (defBody s_law_moved) (defScope s_law_moved) .none kV19 dc19 pm19 an19 cd19 ct19), sl19⟩) (c19 : PySem.W.codeIn K cd19 "_law_moved" = true) (k19 : PySem.W.keepIn K (.ref f19) = true)
    (a20 : PySem.W.nsIn K mainGlobals "_law_hand" = some (some (.ref f20))) (l20 : K.lookup f20 = some ⟨oc20, od20, .func (PySem.W.fnOf "_law_hand" "_law_hand" (defArgs s_law_hand) (defBody s_law_hand) (defScope s_law_hand) .none kV20 dc20 pm20 an20 cd20 ct20), sl20⟩) (c20 : PySem.W.codeIn K cd20 "_law_hand" = true) (k20 : PySem.W.keepIn K (.ref f20) = true)
    (a21 : PySem.W.nsIn K mainGlobals "_law_is_ring" = some (some (.ref f21))) (l21 : K.lookup f21 = some ⟨oc21, od21, .func (PySem.W.fnOf "_law_is_ring" "_law_is_ring" (defArgs s_law_is_ring) (defBody s_law_is_ring) (defScope s_law_is_ring) .none kV21 dc21 pm21 an21 cd21 ct21), sl21⟩) (c21 : PySem.W.codeIn K cd21 "_law_is_ring" = true) (k21 : PySem.W.keepIn K (.ref f21) = true)
    (a22 : PySem.W.nsIn K mainGlobals "_law_whole_corners_right" = some (some (.ref f22))) (l22 : K.lookup f22 = some ⟨oc22, od22, .func (PySem.W.fnOf "_law_whole_corners_right" "_law_whole_corners_right" (defArgs s_law_whole_corners_right) (defBody s_law_whole_corners_right) (defScope s_law_whole_corners_right) .none kV22 dc22 pm22 an22 cd22 ct22), sl22⟩) (c22 : PySem.W.codeIn K cd22 "_law_whole_corners_right" = true) (k22 : PySem.W.keepIn K (.ref f22) = true)
    (a23 : PySem.W.nsIn K mainGlobals "_law_on_line" = some (some (.ref f23))) (l23 : K.lookup f23 = some ⟨oc23, od23, .func (PySem.W.fnOf "_law_on_line" "_law_on_line" (defArgs s_law_on_line) (defBody s_law_on_line) (defScope s_law_on_line) .none kV23 dc23 pm23 an23 cd23 ct23), sl23⟩) (c23 : PySem.W.codeIn K cd23 "_law_on_line" = true) (k23 : PySem.W.keepIn K (.ref f23) = true)
    (a24 : PySem.W.nsIn K mainGlobals "law" = some (some (.ref f24))) (l24 : K.lookup f24 = some ⟨oc24, od24, .func (PySem.W.fnOf "law" "law" (defArgs s_law) (defBody s_law) (defScope s_law) .none kV24 dc24 pm24 an24 cd24 ct24), sl24⟩) (c24 : PySem.W.codeIn K cd24 "law" = true) (k24 : PySem.W.keepIn K (.ref f24) = true)
    (z_abs : PySem.W.nsIn K mainGlobals "abs" = some none)
    (z_int : PySem.W.nsIn K mainGlobals "int" = some none)
    (z_len : PySem.W.nsIn K mainGlobals "len" = some none)
    (z_list : PySem.W.nsIn K mainGlobals "list" = some none)
    (z_max : PySem.W.nsIn K mainGlobals "max" = some none)
    (z_min : PySem.W.nsIn K mainGlobals "min" = some none)
    (z_range : PySem.W.nsIn K mainGlobals "range" = some none)
    (z_sorted : PySem.W.nsIn K mainGlobals "sorted" = some none)
    (q_LEAST_CORNERS : PySem.W.nsIn K mainGlobals "LEAST_CORNERS" = some (some (.int LEAST_CORNERS_val tk_LEAST_CORNERS)))
    (q_MOST_CORNERS : PySem.W.nsIn K mainGlobals "MOST_CORNERS" = some (some (.int MOST_CORNERS_val tk_MOST_CORNERS)))
    : ∃ fd : FuncData, (∀ (s : Shared) (v : Value), BindsTo s fd ⟨[v], []⟩ [("script", v)]) ∧ ∀ base : Heap, K.In base → base.Ns mainGlobals mg → FnOk l.prog w K mg base CX0 8 fa fd ["script"] (sp_law K) := by
  have D_law_draws : DefAt K mg "_law_draws" s_law_draws ["script", "k"] := def_mk X G a0 l0 c0 k0 fun _ _ _ _ _ _ us hl => match us, hl with | [_, _], _ => rfl
  have D_law_draw : DefAt K mg "_law_draw" s_law_draw ["draws", "many"] := def_mk X G a1 l1 c1 k1 fun _ _ _ _ _ _ us hl => match us, hl with | [_, _], _ => rfl
  have D_law_common : DefAt K mg "_law_common" s_law_common ["one", "other"] := def_mk X G a2 l2 c2 k2 fun _ _ _ _ _ _ us hl => match us, hl with | [_, _], _ => rfl
  have D_law_low : DefAt K mg "_law_low" s_law_low ["top", "bottom"] := def_mk X G a3 l3 c3 k3 fun _ _ _ _ _ _ us hl => match us, hl with | [_, _], _ => rfl
  have D_law_arch : DefAt K mg "_law_arch" s_law_arch ["draws", "most", "far"] := def_mk X G a4 l4 c4 k4 fun _ _ _ _ _ _ us hl => match us, hl with | [_, _, _], _ => rfl
  have D_divisor : DefAt K mg "divisor" s_divisor ["one", "other"] := def_mk X G a5 l5 c5 k5 fun _ _ _ _ _ _ us hl => match us, hl with | [_, _], _ => rfl
  have D_fraction : DefAt K mg "fraction" s_fraction ["top", "bottom"] := def_mk X G a6 l6 c6 k6 fun _ _ _ _ _ _ us hl => match us, hl with | [_, _], _ => rfl
  have D_difference : DefAt K mg "difference" s_difference ["one", "other"] := def_mk X G a7 l7 c7 k7 fun _ _ _ _ _ _ us hl => match us, hl with | [_, _], _ => rfl
  have D_product_of : DefAt K mg "product_of" s_product_of ["one", "other"] := def_mk X G a8 l8 c8 k8 fun _ _ _ _ _ _ us hl => match us, hl with | [_, _], _ => rfl
  have D_hand_of : DefAt K mg "hand_of" s_hand_of ["one", "other", "third"] := def_mk X G a9 l9 c9 k9 fun _ _ _ _ _ _ us hl => match us, hl with | [_, _, _], _ => rfl
  have D_need_ring : DefAt K mg "need_ring" s_need_ring ["ring"] := def_mk X G a10 l10 c10 k10 fun _ _ _ _ _ _ us hl => match us, hl with | [_], _ => rfl
  have D_line_of : DefAt K mg "line_of" s_line_of ["one", "other"] := def_mk X G a11 l11 c11 k11 fun _ _ _ _ _ _ us hl => match us, hl with | [_, _], _ => rfl
  have D_side_of : DefAt K mg "side_of" s_side_of ["ring", "side"] := def_mk X G a12 l12 c12 k12 fun _ _ _ _ _ _ us hl => match us, hl with | [_, _], _ => rfl
  have D_over_down : DefAt K mg "over_down" s_over_down ["line"] := def_mk X G a13 l13 c13 k13 fun _ _ _ _ _ _ us hl => match us, hl with | [_], _ => rfl
  have D_summed : DefAt K mg "summed" s_summed ["n", "a", "b", "m"] := def_mk X G a14 l14 c14 k14 fun _ _ _ _ _ _ us hl => match us, hl with | [_, _, _, _], _ => rfl
  have D_summed_from : DefAt K mg "summed_from" s_summed_from ["stair", "k", "n"] := def_mk X G a15 l15 c15 k15 fun _ _ _ _ _ _ us hl => match us, hl with | [_, _, _], _ => rfl
  have D_side_sum : DefAt K mg "side_sum" s_side_sum ["edges", "turn_over"] := def_mk X G a16 l16 c16 k16 fun _ _ _ _ _ _ us hl => match us, hl with | [_, _], _ => rfl
  have D_points_in : DefAt K mg "points_in" s_points_in ["ring"] := def_mk X G a17 l17 c17 k17 fun _ _ _ _ _ _ us hl => match us, hl with | [_], _ => rfl
  have D_law_figures : DefAt K mg "_law_figures" s_law_figures ["draws", "most"] := def_mk X G a18 l18 c18 k18 fun _ _ _ _ _ _ us hl => match us, hl with | [_, _], _ => rfl
  have D_law_moved : DefAt K mg "_law_moved" s_law_moved ["ring", "way", "by"] := def_mk X G a19 l19 c19 k19 fun _ _ _ _ _ _ us hl => match us, hl with | [_, _, _], _ => rfl
  have D_law_hand : DefAt K mg "_law_hand" s_law_hand ["one", "other", "third"] := def_mk X G a20 l20 c20 k20 fun _ _ _ _ _ _ us hl => match us, hl with | [_, _, _], _ => rfl
  have D_law_is_ring : DefAt K mg "_law_is_ring" s_law_is_ring ["ring"] := def_mk X G a21 l21 c21 k21 fun _ _ _ _ _ _ us hl => match us, hl with | [_], _ => rfl
  have D_law_whole_corners_right : DefAt K mg "_law_whole_corners_right" s_law_whole_corners_right ["ring", "found"] := def_mk X G a22 l22 c22 k22 fun _ _ _ _ _ _ us hl => match us, hl with | [_, _], _ => rfl
  have D_law_on_line : DefAt K mg "_law_on_line" s_law_on_line ["one", "other"] := def_mk X G a23 l23 c23 k23 fun _ _ _ _ _ _ us hl => match us, hl with | [_, _], _ => rfl
  have D_law : DefAt K mg "law" s_law ["script"] := def_mk X G a24 l24 c24 k24 fun _ _ _ _ _ _ us hl => match us, hl with | [_], _ => rfl
  have e := hfa.symm.trans (PySem.W.mg_of X G a24)
  cases e
  refine ⟨PySem.W.fnOf "law" "law" (defArgs s_law) (defBody s_law) (defScope s_law) .none kV24 dc24 pm24 an24 cd24 ct24, fun s v => .of_eq rfl, fun base _ _ => ?_⟩
  have B_abs := PySem.W.mg_none_of X G z_abs
  have B_int := PySem.W.mg_none_of X G z_int
  have B_len := PySem.W.mg_none_of X G z_len
  have B_list := PySem.W.mg_none_of X G z_list
  have B_max := PySem.W.mg_none_of X G z_max
  have B_min := PySem.W.mg_none_of X G z_min
  have B_range := PySem.W.mg_none_of X G z_range
  have B_sorted := PySem.W.mg_none_of X G z_sorted
  have T_LEAST_CORNERS : ∃ t, mg "LEAST_CORNERS" = some (.int LEAST_CORNERS_val t) := ⟨_, PySem.W.mg_of X G q_LEAST_CORNERS⟩
  have T_MOST_CORNERS : ∃ t, mg "MOST_CORNERS" = some (.int MOST_CORNERS_val t) := ⟨_, PySem.W.mg_of X G q_MOST_CORNERS⟩
  have G_law_draws := ok_law_draws (P := l.prog) (w := w) (base := base) D_law_draws B_len B_int
  have G_law_draw := ok_law_draw (P := l.prog) (w := w) (base := base) D_law_draw
  have G_law_common := ok_law_common (P := l.prog) (w := w) (base := base) D_law_common B_abs
  have G_law_low := ok_law_low (P := l.prog) (w := w) (base := base) D_law_low G_law_common
  have G_law_arch := ok_law_arch (P := l.prog) (w := w) (base := base) D_law_arch B_range B_len G_law_draw G_law_low
  have G_divisor := ok_divisor (P := l.prog) (w := w) (base := base) D_divisor B_abs
  have G_fraction := ok_fraction (P := l.prog) (w := w) (base := base) D_fraction G_divisor
  have G_difference := ok_difference (P := l.prog) (w := w) (base := base) D_difference G_fraction
  have G_product_of := ok_product_of (P := l.prog) (w := w) (base := base) D_product_of G_fraction
  have G_hand_of := ok_hand_of (P := l.prog) (w := w) (base := base) D_hand_of G_difference G_product_of
  have G_need_ring := ok_need_ring (P := l.prog) (w := w) (base := base) D_need_ring B_len B_range T_LEAST_CORNERS T_MOST_CORNERS G_hand_of
  have G_line_of := ok_line_of (P := l.prog) (w := w) (base := base) D_line_of G_difference G_fraction G_product_of
  have G_side_of := ok_side_of (P := l.prog) (w := w) (base := base) D_side_of B_range B_len B_sorted G_difference G_line_of
  have G_over_down := ok_over_down (P := l.prog) (w := w) (base := base) D_over_down
  have G_summed := ok_summed (P := l.prog) (w := w) (base := base) D_summed
  have G_summed_from := ok_summed_from (P := l.prog) (w := w) (base := base) D_summed_from G_summed
  have G_side_sum := ok_side_sum (P := l.prog) (w := w) (base := base) D_side_sum G_over_down G_summed_from
  have G_points_in := ok_points_in (P := l.prog) (w := w) (base := base) D_points_in G_need_ring G_side_of G_side_sum
  have G_law_figures := ok_law_figures (P := l.prog) (w := w) (base := base) D_law_figures B_range G_law_draw
  have G_law_moved := ok_law_moved (P := l.prog) (w := w) (base := base) D_law_moved G_law_low
  have G_law_hand := ok_law_hand (P := l.prog) (w := w) (base := base) D_law_hand
  have G_law_is_ring := ok_law_is_ring (P := l.prog) (w := w) (base := base) D_law_is_ring B_len B_range G_law_hand
  have G_law_whole_corners_right := ok_law_whole_corners_right (P := l.prog) (w := w) (base := base) D_law_whole_corners_right B_range B_len G_law_common
  have G_law_on_line := ok_law_on_line (P := l.prog) (w := w) (base := base) D_law_on_line G_law_common
  exact ok_law (fun_mk (st := s_law) l24 c24 k24) B_range B_max B_min B_len B_list G_law_draws G_law_arch G_law_draw G_law_low G_points_in G_law_figures G_law_moved G_law_is_ring G_law_whole_corners_right G_law_on_line
theorem walk {l : PySem.W.OpenLaw} {q : Program} {loose : List Str} {XP : (Str → Option Value) → Heap → Prop} {YP : World → Heap → Prop} {d : DefRec} {K : Params → PySem.W.Frag} (hn : l.most = some 63) (hdf : d.params.defaults = [])
    (hY : ∀ (w : World) (h : Heap), YP w h → (K w.params).In h)
    (F : ∀ (w : World) (mg : Str → Option Value) (fa : Addr) (h : Heap), (K w.params).In h → h.Ns mainGlobals mg → mg d.name = some (.ref fa) →
      ∃ fd : FuncData, (∀ (s : Shared) (u : Value), BindsTo s fd ⟨[u], []⟩ [("script", u)]) ∧ ∀ base : Heap, (K w.params).In base → base.Ns mainGlobals mg → FnOk l.prog w (K w.params) mg base CX0 8 fa fd ["script"] (sp_law (K w.params))) :
    PySem.W.WalkO q loose XP YP l.row.toRowW d [] (fun f vs => PySem.call f vs) :=
  L2.walk_of (n := 63) (k := 8) (x := "script") (CX := fun _ => CX0) (sp := fun w => sp_law (K w.params)) hn (by decide) hdf ⟨rfl, by decide, by decide⟩ hY F (fun _ _ a ns hl _ hS => ⟨a, ns, rfl, hS, hl, fun _ => rfl⟩) fun _ _ _ _ _ z => z
end Sd
open PySem PySem.W PyProof.Rows
set_option maxRecDepth 100000 in
set_option maxHeartbeats 0 in
theorem PySem.Challenge.cw_stairsum_k35_whole_points_moved_holds : PySem.Challenge.rw_stairsum_k35_whole_points_moved.Holds := by
  w_on; o_law; k_head; (case hw => w_witness2)
  k_fill
  refine Sd.walk (l := PySem.Challenge.rw_stairsum_k35_whole_points_moved) rfl rfl (fun w h Y => PySem.W.kIn_of Y) ?F
  case F =>
    intro w mg fa h KX G hmg
    refine' Sd.all_mk KX G hmg ?a0 ?l0 ?c0 ?k0 ?a1 ?l1 ?c1 ?k1 ?a2 ?l2 ?c2 ?k2 ?a3 ?l3 ?c3 ?k3 ?a4 ?l4 ?c4 ?k4 ?a5 ?l5 ?c5 ?k5 ?a6 ?l6 ?c6 ?k6 ?a7 ?l7 ?c7 ?k7 ?a8 ?l8 ?c8 ?k8 ?a9 ?l9 ?c9 ?k9 ?a10 ?l10 ?c10 ?k10 ?a11 ?l11 ?c11 ?k11 ?a12 ?l12 ?c12 ?k12 ?a13 ?l13 ?c13 ?k13 ?a14 ?l14 ?c14 ?k14 ?a15 ?l15 ?c15 ?k15 ?a16 ?l16 ?c16 ?k16 ?a17 ?l17 ?c17 ?k17 ?a18 ?l18 ?c18 ?k18 ?a19 ?l19 ?c19 ?k19 ?a20 ?l20 ?c20 ?k20 ?a21 ?l21 ?c21 ?k21 ?a22 ?l22 ?c22 ?k22 ?a23 ?l23 ?c23 ?k23 ?a24 ?l24 ?c24 ?k24 ?z_abs ?z_int ?z_len ?z_list ?z_max ?z_min ?z_range ?z_sorted ?q_LEAST_CORNERS ?q_MOST_CORNERS
    (case a0 => k_is)
    (case l0 => k_is)
    (case c0 => k_is)
    (case k0 => k_is)
    (case a1 => k_is)
    (case l1 => k_is)
    (case c1 => k_is)
    (case k1 => k_is)
    (case a2 => k_is)
    (case l2 => k_is)
    (case c2 => k_is)
    (case k2 => k_is)
    (case a3 => k_is)
    (case l3 => k_is)
    (case c3 => k_is)
    (case k3 => k_is)
    (case a4 => k_is)
    (case l4 => k_is)
    (case c4 => k_is)
    (case k4 => k_is)
    (case a5 => k_is)
    (case l5 => k_is)
    (case c5 => k_is)
    (case k5 => k_is)
    (case a6 => k_is)
    (case l6 => k_is)
    (case c6 => k_is)
    (case k6 => k_is)
    (case a7 => k_is)
    (case l7 => k_is)
    (case c7 => k_is)
    (case k7 => k_is)
    (case a8 => k_is)
    (case l8 => k_is)
    (case c8 => k_is)
    (case k8 => k_is)
    (case a9 => k_is)
    (case l9 => k_is)
    (case c9 => k_is)
    (case k9 => k_is)
    (case a10 => k_is)
    (case l10 => k_is)
    (case c10 => k_is)
    (case k10 => k_is)
    (case a11 => k_is)
    (case l11 => k_is)
    (case c11 => k_is)
    (case k11 => k_is)
    (case a12 => k_is)
    (case l12 => k_is)
    (case c12 => k_is)
    (case k12 => k_is)
    (case a13 => k_is)
    (case l13 => k_is)
    (case c13 => k_is)
    (case k13 => k_is)
    (case a14 => k_is)
    (case l14 => k_is)
    (case c14 => k_is)
    (case k14 => k_is)
    (case a15 => k_is)
    (case l15 => k_is)
    (case c15 => k_is)
    (case k15 => k_is)
    (case a16 => k_is)
    (case l16 => k_is)
    (case c16 => k_is)
    (case k16 => k_is)
    (case a17 => k_is)
    (case l17 => k_is)
    (case c17 => k_is)
    (case k17 => k_is)
    (case a18 => k_is)
    (case l18 => k_is)
    (case c18 => k_is)
    (case k18 => k_is)
    (case a19 => k_is)
    (case l19 => k_is)
    (case c19 => k_is)
    (case k19 => k_is)
    (case a20 => k_is)
    (case l20 => k_is)
    (case c20 => k_is)
    (case k20 => k_is)
    (case a21 => k_is)
    (case l21 => k_is)
    (case c21 => k_is)
    (case k21 => k_is)
    (case a22 => k_is)
    (case l22 => k_is)
    (case c22 => k_is)
    (case k22 => k_is)
    (case a23 => k_is)
    (case l23 => k_is)
    (case c23 => k_is)
    (case k23 => k_is)
    (case a24 => k_is)
    (case l24 => k_is)
    (case c24 => k_is)
    (case k24 => k_is)
    (case z_abs => k_is)
    (case z_int => k_is)
    (case z_len => k_is)
    (case z_list => k_is)
    (case z_max => k_is)
    (case z_min => k_is)
    (case z_range => k_is)
    (case z_sorted => k_is)
    (case q_LEAST_CORNERS => k_is)
    (case q_MOST_CORNERS => k_is)

