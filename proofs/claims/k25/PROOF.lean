import PyProof.Rows.All
import Wide.All
import OpenK.AllK
import Wide.FinOn
import HandS.ForMost
import HandS.Codes
import HandS.Walk
import HandS.Exc
import HandS.TryOnly
import HandS.ExcOwn
import HandS.WordsExc
import HandS.Wide
import HandS.WideMore
import HandS.Flow
import HandS.IsInst
import HandS.Style
import HandS.SortInts
import HandS.TupAny
import HandS.Flt
import HandS.Zip
import PyProof.LongRange
import PySem.Challenge.RW_stairsum_k25_whole_stairs_of_texts
set_option Elab.async false
set_option linter.all false
set_option maxRecDepth 100000
set_option maxHeartbeats 4000000
set_option Elab.async false
set_option linter.all false
set_option maxRecDepth 100000
set_option maxHeartbeats 4000000
/-! The prelude: heaps, readings step by step, sizes, defs of the top by name. -/
namespace Sd
open PySem PySem.Spec PyProof.Rows L2

/-! ### heaps -/
def Ex (H H' : Hp) : Prop := ∀ a o, H a = some o → H' a = some o
/-- all but what stands at d is kept -/
def Kp (d : Addr) (H H' : Hp) : Prop := ∀ a o, a ≠ d → H a = some o → H' a = some o
theorem Ex.at {H H' : Hp} {a : Addr} {o : HO} (e : Ex H H') (h : H a = some o) : H' a = some o := e a o h
theorem Ex.refl {H : Hp} : Ex H H := fun _ _ h => h
theorem Ex.trans {H H1 H2 : Hp} (a : Ex H H1) (b : Ex H1 H2) : Ex H H2 := fun x o h => b x o (a x o h)
theorem Ex.kp {H H' : Hp} {d : Addr} (e : Ex H H') : Kp d H H' := fun a o _ h => e a o h
theorem Kp.refl {H : Hp} {d : Addr} : Kp d H H := fun _ _ _ h => h
theorem Kp.trans {H H1 H2 : Hp} {d : Addr} (a : Kp d H H1) (b : Kp d H1 H2) : Kp d H H2 := fun x o n h => b x o n (a x o n h)
theorem Ex.kpd {H H1 H2 : Hp} {d : Addr} (e : Ex H H1) (n : H d = none) (b : Kp d H1 H2) : Ex H H2 := fun x o h => b x o (ne_of_none h n) (e x o h)
theorem Ex.new {H : Hp} {p : Addr} {o : HO} (h : H p = none) : Ex H (upd H p o) := fun a u e => by
  rw [upd_ne (ne_of_none e h)]
  exact e
theorem Kp.upd {H : Hp} {d : Addr} {o : HO} : Kp d H (upd H d o) := fun a u n e => by
  rw [upd_ne n]
  exact e
theorem free_back {H H' : Hp} {p : Addr} (e : Ex H H') (h : H' p = none) : H p = none := by
  cases h1 : H p with
  | none => rfl
  | some o =>
    rw [e p o h1] at h
    cases h
theorem rd_up {H H' : Hp} {a : Addr} {u : HO} (e : Ex H H') (h : Rd H a u) : Rd H' a u := by
  rcases h with h | ⟨o, h⟩
  · exact Or.inl (e a _ h)
  · exact Or.inr ⟨o, e a _ h⟩
theorem sql_up {K : PySem.W.Frag} {H H' : Hp} {a : Addr} {xs : List V} (e : Ex H H') (h : SqL K H a xs) : SqL K H' a xs := by
  rcases h with h | h
  · exact Or.inl (rd_up e h)
  · exact Or.inr h
theorem sqt_up {K : PySem.W.Frag} {H H' : Hp} {a : Addr} {xs : List V} (e : Ex H H') (h : SqT K H a xs) : SqT K H' a xs := by
  rcases h with h | h
  · exact Or.inl (rd_up e h)
  · exact Or.inr h
/-- the list of drawn digits at d -/
def Dr (H : Hp) (d : Addr) : Prop := ∃ x y : Int, H d = some (.lst [.int x, .int y]) ∧ 0 ≤ y ∧ y < 2147483647
theorem Dr.up {H H' : Hp} {d : Addr} (D : Dr H d) (e : Ex H H') : Dr H' d := by
  obtain ⟨x, y, h, r⟩ := D
  exact ⟨x, y, e _ _ h, r⟩
theorem Kp.tup {H H' : Hp} {d p : Addr} {xs : List V} (k : Kp d H H') (D : Dr H d) (h : H p = some (.tup xs)) : H' p = some (.tup xs) := by
  obtain ⟨x, y, e, _⟩ := D
  exact k _ _ (ne_of h e (by intro z; cases z)) h
theorem Kp.frz {H H' : Hp} {d p : Addr} {o : Obj} {u : HO} (k : Kp d H H') (D : Dr H d) (h : H p = some (.frz o u)) : H' p = some (.frz o u) := by
  obtain ⟨x, y, e, _⟩ := D
  exact k _ _ (ne_of h e (by intro z; cases z)) h
theorem Dr.free {H : Hp} {d p : Addr} (D : Dr H d) (h : H p = none) : p ≠ d := fun e => by
  obtain ⟨x, y, k, _⟩ := D
  rw [e, k] at h
  cases h
theorem free_kp {H H' : Hp} {d p : Addr} (e : Kp d H H') (D' : Dr H' d) (h : H' p = none) : H p = none := by
  cases q : H p with
  | none => rfl
  | some o =>
    rw [e p o (D'.free h) q] at h
    cases h
theorem sqt_kp {K : PySem.W.Frag} {H H' : Hp} {d a : Addr} {xs : List V} (e : Kp d H H') (D : Dr H d) (h : SqT K H a xs) : SqT K H' a xs := by
  rcases h with (h | ⟨o, h⟩) | h
  · exact Or.inl (Or.inl (e.tup D h))
  · exact Or.inl (Or.inr ⟨o, e.frz D h⟩)
  · exact Or.inr h

/-! ### sizes -/
def Sz (n : Nat) (x : Int) : Prop := x.natAbs < 2 ^ n
theorem Sz.mono {n m : Nat} {x : Int} (h : Sz n x) (l : n ≤ m) : Sz m x := Nat.lt_of_lt_of_le h (Nat.pow_le_pow_right (by decide) l)
theorem Sz.mul {n m : Nat} {x y : Int} (h : Sz n x) (k : Sz m y) : Sz (n + m) (x * y) := wide_lt h k
theorem Sz.add {n m : Nat} {x y : Int} (h : Sz n x) (k : Sz m y) : Sz (n + m + 1) (x + y) := by
  have h' : x.natAbs < 2 ^ n := h
  have k' : y.natAbs < 2 ^ m := k
  have a : 2 ^ n ≤ 2 ^ (n + m) := Nat.pow_le_pow_right (by decide) (Nat.le_add_right _ _)
  have b : 2 ^ m ≤ 2 ^ (n + m) := Nat.pow_le_pow_right (by decide) (Nat.le_add_left _ _)
  show (x + y).natAbs < 2 ^ (n + m + 1)
  rw [Nat.pow_succ]
  omega
theorem Sz.neg {n : Nat} {x : Int} (h : Sz n x) : Sz n (-x) := by
  show (-x).natAbs < 2 ^ n
  rw [Int.natAbs_neg]
  exact h
theorem Sz.sub {n m : Nat} {x y : Int} (h : Sz n x) (k : Sz m y) : Sz (n + m + 1) (x - y) := by
  have := h.add k.neg
  rw [Int.sub_eq_add_neg]
  exact this
theorem Sz.div {n : Nat} {x y : Int} (h : Sz n x) (p : 0 < y) : Sz n (x / y) := by
  have h' : x.natAbs < 2 ^ n := h
  show (x / y).natAbs < 2 ^ n
  have l : (x / y).natAbs ≤ x.natAbs := by
    have e := Int.emod_add_mul_ediv x y
    have e1 := Int.emod_nonneg x (show y ≠ 0 by omega)
    have e2 := Int.emod_lt_of_pos x p
    by_cases hx : 0 ≤ x
    · have q0 : 0 ≤ x / y := Int.ediv_nonneg hx (by omega)
      have q1 : x / y ≤ x := Int.ediv_le_self _ hx
      omega
    · have q0 : x / y < 0 := Int.ediv_neg_of_neg_of_pos (by omega) p
      have q1 : x ≤ x / y := by
        have : (x / y) * y ≤ (x / y) * 1 := Int.mul_le_mul_of_nonpos_left (by omega) (by omega)
        have e' : x / y * y ≥ x - (y - 1) := by
          have : y * (x / y) = x / y * y := Int.mul_comm _ _
          omega
        by_cases hq : x / y = -1
        · omega
        · have q2 : x / y + 1 ≤ -1 := by omega
          have q3 : (x / y + 1) * y ≤ (x / y + 1) * 1 := Int.mul_le_mul_of_nonpos_left (by omega) (by omega)
          have q4 : (x / y + 1) * y = x / y * y + y := by rw [Int.add_mul, Int.one_mul]
          have : y * (x / y) = x / y * y := Int.mul_comm _ _
          omega
      omega
  omega
theorem Sz.mod {n : Nat} {x y : Int} (h : Sz n y) (p : 0 < y) : Sz n (x % y) := by
  have e1 := Int.emod_nonneg x (show y ≠ 0 by omega)
  have e2 := Int.emod_lt_of_pos x p
  have h' : y.natAbs < 2 ^ n := h
  show (x % y).natAbs < 2 ^ n
  omega
theorem Sz.le {n : Nat} {x y : Int} (h : Sz n y) (a : -y ≤ x) (b : x ≤ y) : Sz n x := by
  have h' : y.natAbs < 2 ^ n := h
  show x.natAbs < 2 ^ n
  omega
theorem Sz.lit {x : Int} (h : x.natAbs < 2 ^ 200 := by decide) : Sz 200 x := h
theorem mulW {i j : Int} {n m : Nat} (a : Sz n i) (b : Sz m j) (h : n + m ≤ 900000 := by decide) : CMulW i j :=
  wide_mul (a.mono (Nat.le_succ n)) (b.mono (Nat.le_succ m)) (Nat.succ_pos _) (Nat.succ_pos _) (by omega)
theorem divW {i j : Int} {n : Nat} (p : 0 < j) (a : Sz n j) (h : n ≤ 8999 := by decide) : CDivW i j :=
  wide_div p (a.mono (Nat.le_succ n)) (Nat.succ_pos _) (by omega)

/-- a product of two numbers, one small or both of a known size -/
def CMulX (i j : Int) : Prop := CMul i j ∨ CMulW i j
theorem op_mulX {X : Cx} : OpR X (binaryOp .Mult) (rI CMulX fun i j => .int (i * j)) := opI fun _ _ _ _ _ _ _ hc q => mul_int q (hc.elim (fun h => h.ok) (fun h => h.ok))
theorem mulX {i j : Int} {n m : Nat} (a : Sz n i) (b : Sz m j) (h : n + m ≤ 900000 := by decide) : CMulX i j := .inr (mulW a b h)
theorem mulR {i j : Int} (h : -(2 ^ 64) < j ∧ j < 2 ^ 64) : CMulX i j := .inl (.inr h)
theorem mulL {i j : Int} (h : -(2 ^ 64) < i ∧ i < 2 ^ 64) : CMulX i j := .inl (.inl h)
/-! ### defs of the top, by their names -/
/-- the def named x stands as st -/
def DefAt (K : PySem.W.Frag) (mg : Str → Option Value) (x : Str) (st : Stmt) (ps : List Str) : Prop :=
  ∃ f fd, Fun K x x st f fd ∧ mg x = some (.ref f) ∧ Binds K fd ps []
/-- the def named x keeps the promise sp -/
def Has (P : Program) (w : World) (K : PySem.W.Frag) (mg : Str → Option Value) (base : Heap) (CX : CXT) (k : Nat) (x : Str) (ps : List Str) (sp : Sp) : Prop :=
  ∃ f fd, mg x = some (.ref f) ∧ PySem.W.keepIn K (.ref f) = true ∧ Binds K fd ps [] ∧ FnOk P w K mg base CX k f fd ps sp
theorem def_mk {K : PySem.W.Frag} {h : Heap} {mg : Str → Option Value} {x : Str} {st : Stmt} {ps : List Str} {f : Addr} {oc : Value} {od an : Option Addr} {osl : Array (Option Value)} {kV doc pm cdv ct : Value} (X : K.In h) (G : h.Ns mainGlobals mg)
    (a : PySem.W.nsIn K mainGlobals x = some (some (.ref f))) (l : K.lookup f = some ⟨oc, od, .func (PySem.W.fnOf x x (defArgs st) (defBody st) (defScope st) .none kV doc pm an cdv ct), osl⟩)
    (c : PySem.W.codeIn K cdv x = true) (k : PySem.W.keepIn K (.ref f) = true)
    (b : ∀ (kV doc pm : Value) (an : Option Addr) (cdv ct : Value) (us : List Value), us.length = ps.length → bindArgs (PySem.W.fnOf x x (defArgs st) (defBody st) (defScope st) .none kV doc pm an cdv ct) ⟨us, []⟩ = pure (ps.zip us)) : DefAt K mg x st ps :=
  ⟨f, _, fun_mk l c k, PySem.W.mg_of X G a, (fun_mk l c k).binds b⟩
section
variable {P : Program} {w : World} {K : PySem.W.Frag} {mg : Str → Option Value} {base : Heap}
theorem DefAt.ok {x : Str} {st : Stmt} {N ps : List Str} {k : Nat} {sp : Sp} (D : DefAt K mg x st ps) (S : FnScope N ps (defScope st)) (len : ∀ vs H Q E, sp vs H Q E → vs.length = ps.length)
    (hbody : ∀ (f : Addr) (cdv : Value) (A : Around) (outer : List Env) (s : Shared) (H : Hp) (vs : List V) (Q : VK) (E : XK), Room k (A.deeper (envOfC x (defScope st) s.heap.objs.size f cdv)) → sp vs H Q E →
      ∃ t, PSs (cxOf CX0 P w K mg base N x (defScope st) f cdv A outer s H E).nox (defBody st) t ∧ t { nx := fun _ H' => Q .non H', rt := Q } (start N vs) H) : Has P w K mg base CX0 (k + 1) x ps sp := by
  obtain ⟨f, fd, F, m, b⟩ := D
  exact ⟨f, fd, m, F.kp, b, F.ok S len fun cdv A outer s H vs Q E hr h => hbody f cdv A outer s H vs Q E hr h⟩
theorem Has.mono {CX : CXT} {x : Str} {ps : List Str} {j k : Nat} {sp : Sp} (G : Has P w K mg base CX j x ps sp) (h : j ≤ k) : Has P w K mg base CX k x ps sp := by
  obtain ⟨f, fd, m, kp, b, F⟩ := G
  exact ⟨f, fd, m, kp, b, F.mono h⟩
end
theorem Has.alias {P : Program} {w : World} {K : PySem.W.Frag} {mg : Str → Option Value} {base : Heap} {CX : CXT} {x y : Str} {ps : List Str} {k : Nat} {sp : Sp} (G : Has P w K mg base CX k x ps sp) (e : mg y = mg x) : Has P w K mg base CX k y ps sp := by
  obtain ⟨f, fd, m, kp, b, F⟩ := G
  exact ⟨f, fd, e.trans m, kp, b, F⟩
/-- f(e, ..), f a def of the top; nothing is raised -/
def tCal (sp : Sp) (E : XK) (t : TA) : TE := fun σ H Q => t σ H fun vs H1 => sp vs H1 Q E
section
variable {X : Cx} {x : Str} {p pos : Pos} {e : Expr} {es : List Expr} {t : TA} {k : Nat} {ps : List Str} {sp : Sp}
theorem pcall (G : Has X.prog X.w X.K X.mg X.base CX0 k x ps sp) (hr : Room k X.A) (ha : PA X (e :: es) t) (hg : Gl X x := by rfl)
    (hdb : (x == ("__debug__" : Str)) = false := by decide) (he : starEach (e :: es) X.env = (false, eval e X.env) :: starEach es X.env := by rfl) (hpl : (backTo pos (starEach es X.env)).any (·.1) = false := by rfl) :
    PE X (.Call (.Name x p) (e :: es) [] pos) (tCal sp E0 t) := by
  obtain ⟨f, fd, m, kp, b, F⟩ := G
  have q := pe_call (p := p) F hr hg m kp b (dvs := []) .nil pass0 ha hdb he hpl
  refine ⟨fun pins s σ H Q I h => q.run pins s σ H Q I ?_⟩
  have h' : t σ H fun vs H1 => sp vs H1 Q E0 := h
  show t σ H fun vs H1 => sp (vs ++ []) H1 Q E0
  have ee : (fun (vs : List V) (H1 : Hp) => sp (vs ++ []) H1 Q E0) = fun vs H1 => sp vs H1 Q E0 := by
    funext vs H1
    rw [List.append_nil]
  rw [ee]
  exact h'
end

theorem cx_K {CX : CXT} {P : Program} {w : World} {K : PySem.W.Frag} {mg : Str → Option Value} {base : Heap} {N : List Str} {qual : Str} {scope : Scope} {f : Addr} {cd : Value} {A : Around} {outer : List Env} {s : Shared} {H : Hp} {E : XK} :
    (cxOf CX P w K mg base N qual scope f cd A outer s H E).K = K := rfl
/-- a statement, then the rest, with a word between them -/
def tCut (t u : TS) : TS := fun D σ H => ∃ M : L2.St → Hp → Prop, t { D with nx := M } σ H ∧ ∀ σ' H', M σ' H' → u D σ' H'
theorem pcut {X : Cx} {st : Stmt} {rest : List Stmt} {t u : TS} (h1 : PS X st t) (h2 : PSs X rest u) : PSs X (st :: rest) (tCut t u) := by
  refine ⟨fun pins s σ H D I h => ?_⟩
  obtain ⟨M, hm, hu⟩ := h
  refine wpAny_execs_cons (thn (h1.run pins s σ H { D with nx := M } I hm) fun f s1 q => ?_)
  cases f with
  | next =>
    obtain ⟨σ', H', I', q⟩ := q
    exact h2.run pins s1 σ' H' D I' (hu σ' H' q)
  | ret v => exact q
  | brk => exact q
  | cont => exact q
/-- a op b op c op d, a test -/
def tChain3 (r r' r'' : R2) (ta tb tc td : TE) : TT := fun σ H Q => ta σ H fun x H1 => tb σ H1 fun y H2 => r x y H2 fun z H3 => ∃ k, z = .bl k ∧
  (if k = true then tc σ H3 fun w' H4 => r' y w' H4 fun z2 H5 => ∃ k2, z2 = .bl k2 ∧ (if k2 = true then td σ H5 fun u' H6 => r'' w' u' H6 fun z3 H7 => ∃ k3, z3 = .bl k3 ∧ Q k3 H7 else Q false H5) else Q false H3)
theorem pt_chain3 {X : Cx} {a b c d : Expr} {ta tb tc td : TE} {pos : Pos} {op op' op'' : CmpOp} {r r' r'' : R2} (ho : OpR X (compareOp op) r) (ho' : OpR X (compareOp op') r') (ho'' : OpR X (compareOp op'') r'') (ha : PE X a ta) (hb : PE X b tb) (hc : PE X c tc) (hd : PE X d td)
    (hm : lastMarks [op, op', op''] [b, c, d] = false := by with_unfolding_all rfl) : PT X (.Compare a [op, op', op''] [b, c, d] pos) (tChain3 r r' r'' ta tb tc td) := by
  refine ⟨fun pins s σ H Q I h => ?_⟩
  refine isTrue_chain (thn (ha.run pins s σ H _ I h) fun v s1 ⟨x, H1, I1, r1, q1⟩ => test_link (thn (hb.run pins s1 σ H1 _ I1 q1) fun u s2 ⟨y, H2, I2, r2, q2⟩ =>
    thn (ho pins s2 σ H2 x y v u _ I2 r1 r2 q2) fun d s3 ⟨z, H3, I3, r3, k, e, q3⟩ => ?_)) hm
  subst e
  cases r3
  refine wpAny_truthy_bool ?_
  cases k with
  | false => exact ite_ff ⟨H3, I3, q3⟩
  | true =>
    refine ite_tt (test_link (thn (hc.run pins s3 σ H3 _ I3 q3) fun w' s4 ⟨z', H4, I4, r4, q4⟩ => thn (ho' pins s4 σ H4 y z' u w' _ I4 r2 r4 q4) fun d' s5 ⟨z2, H5, I5, r5, k2, e2, q5⟩ => ?_))
    subst e2
    cases r5
    refine wpAny_truthy_bool ?_
    cases k2 with
    | false => exact ite_ff ⟨H5, I5, q5⟩
    | true =>
      refine ite_tt (test_last (thn (hd.run pins s5 σ H5 _ I5 q5) fun w2 s6 ⟨z6, H6, I6, r6, q6⟩ => thn (ho'' pins s6 σ H6 z' z6 w' w2 _ I6 r4 r6 q6) fun d7 s7 ⟨z7, H7, I7, r7, k7, e7, q7⟩ => ?_))
      subst e7
      cases r7
      exact wpAny_truthy_bool ⟨H7, I7, q7⟩
/-! ### readings, step by step -/
section
variable {K : PySem.W.Frag} {σ : L2.St} {H : Hp} {Q : VK} {QT : Bool → Hp → Prop} {QA : List V → Hp → Prop} {ta tb tc te : TE} {t u : TT} {tr : TA} {v x y : V} {i j : Int} {D : Ends} {s1 s2 : TS}
theorem r_var {n : Nat} (h : σ[n]? = some (some v)) (k : Q v H) : tVar n σ H Q := ⟨v, h, k⟩
theorem r_c (k : Q v H) : tC v σ H Q := k
theorem r_op {r : R2} (k : ta σ H fun x H1 => tb σ H1 fun y H2 => r x y H2 Q) : tOp r ta tb σ H Q := k
theorem r_un {r : V → Hp → VK → Prop} (k : ta σ H fun x H1 => r x H1 Q) : tUn r ta σ H Q := k
theorem r_I0 {g : Int → Int → V} (k : Q (g i j) H) : rI0 g (.int i) (.int j) H Q := ⟨i, j, rfl, rfl, k⟩
theorem r_I {C : Int → Int → Prop} {g : Int → Int → V} (c : C i j) (k : Q (g i j) H) : rI C g (.int i) (.int j) H Q := ⟨i, j, rfl, rfl, c, k⟩
theorem r_mul (c : CMulX i j) (k : Q (.int (i * j)) H) : rI CMulX (fun i j => .int (i * j)) (.int i) (.int j) H Q := r_I c k
theorem r_div (c : CDivW i j) (k : Q (.int (i / j)) H) : rI CDivW (fun i j => .int (i / j)) (.int i) (.int j) H Q := r_I c k
theorem r_mod (c : 0 < j) (k : Q (.int (i % j)) H) : rI (fun _ j => 0 < j) (fun i j => .int (i % j)) (.int i) (.int j) H Q := ⟨i, j, rfl, rfl, c, k⟩
theorem r_pow (c : CPow i j) (k : Q (.int (i ^ j.toNat)) H) : rI CPow (fun i j => .int (i ^ j.toNat)) (.int i) (.int j) H Q := r_I c k
theorem r_p6 (k : Q (.int 1000000) H) : rI CPow (fun i j => .int (i ^ j.toNat)) (.int 10) (.int 6) H Q := r_I ⟨by decide, by decide, by decide⟩ (by rw [show (10 : Int) ^ Int.toNat 6 = 1000000 by decide +kernel]; exact k)
theorem r_p15 (k : Q (.int 1000000000000000) H) : rI CPow (fun i j => .int (i ^ j.toNat)) (.int 10) (.int 15) H Q := r_I ⟨by decide, by decide, by decide⟩ (by rw [show (10 : Int) ^ Int.toNat 15 = 1000000000000000 by decide +kernel]; exact k)
theorem r_p18 (k : Q (.int 1000000000000000000) H) : rI CPow (fun i j => .int (i ^ j.toNat)) (.int 10) (.int 18) H Q := r_I ⟨by decide, by decide, by decide⟩ (by rw [show (10 : Int) ^ Int.toNat 18 = 1000000000000000000 by decide +kernel]; exact k)
theorem r_p24 (k : Q (.int 1000000000000000000000000) H) : rI CPow (fun i j => .int (i ^ j.toNat)) (.int 10) (.int 24) H Q := r_I ⟨by decide, by decide, by decide⟩ (by rw [show (10 : Int) ^ Int.toNat 24 = 1000000000000000000000000 by decide +kernel]; exact k)
theorem r_p29 (k : Q (.int 100000000000000000000000000000) H) : rI CPow (fun i j => .int (i ^ j.toNat)) (.int 10) (.int 29) H Q := r_I ⟨by decide, by decide, by decide⟩ (by rw [show (10 : Int) ^ Int.toNat 29 = 100000000000000000000000000000 by decide +kernel]; exact k)
theorem r_p30 (k : Q (.int 1000000000000000000000000000000) H) : rI CPow (fun i j => .int (i ^ j.toNat)) (.int 10) (.int 30) H Q := r_I ⟨by decide, by decide, by decide⟩ (by rw [show (10 : Int) ^ Int.toNat 30 = 1000000000000000000000000000000 by decide +kernel]; exact k)
theorem r_p60 (k : Q (.int 1000000000000000000000000000000000000000000000000000000000000) H) : rI CPow (fun i j => .int (i ^ j.toNat)) (.int 10) (.int 60) H Q := r_I ⟨by decide, by decide, by decide⟩ (by rw [show (10 : Int) ^ Int.toNat 60 = 1000000000000000000000000000000000000000000000000000000000000 by decide +kernel]; exact k)
theorem r_U {g : Int → V} (k : Q (g i) H) : rU g (.int i) H Q := ⟨i, rfl, k⟩
theorem r_eqI (k : Q (.bl (decide (i = j))) H) : rEq (.int i) (.int j) H Q := ⟨rfl, by
  have e : decide (V.int i = V.int j) = decide (i = j) := by
    by_cases h : i = j
    · subst h
      rw [decide_eq_true rfl, decide_eq_true rfl]
    · rw [decide_eq_false h, decide_eq_false (fun z => h (V.int.inj z))]
  rw [e]
  exact k⟩
theorem r_neI (k : Q (.bl (!decide (i = j))) H) : rNe (.int i) (.int j) H Q := ⟨rfl, by
  have e : decide (V.int i = V.int j) = decide (i = j) := by
    by_cases h : i = j
    · subst h
      rw [decide_eq_true rfl, decide_eq_true rfl]
    · rw [decide_eq_false h, decide_eq_false (fun z => h (V.int.inj z))]
  rw [e]
  exact k⟩
theorem r_eqB {a b : Bool} (k : Q (.bl (a == b)) H) : rEq (.bl a) (.bl b) H Q := ⟨rfl, by rw [dec_bl]; exact k⟩
theorem r_neB {a b : Bool} (k : Q (.bl (!(a == b))) H) : rNe (.bl a) (.bl b) H Q := ⟨rfl, by rw [dec_bl]; exact k⟩
theorem r_eqS {a b : Str} (k : Q (.bl (a == b)) H) : rEq (.str a) (.str b) H Q := ⟨rfl, by rw [dec_str]; exact k⟩
theorem r_neS {a b : Str} (k : Q (.bl (!(a == b))) H) : rNe (.str a) (.str b) H Q := ⟨rfl, by rw [dec_str]; exact k⟩
theorem r_test (k : te σ H fun x H' => ∃ b, x = .bl b ∧ QT b H') : tTest te σ H QT := k
theorem r_tB (k : te σ H fun x H' => ∃ b, x = .bl b ∧ QT b H') : tB te σ H QT := k
theorem r_bl {b : Bool} (k : QT b H) : ∃ b', V.bl b = .bl b' ∧ QT b' H := ⟨b, rfl, k⟩
theorem r_not (k : t σ H fun b H1 => QT (!b) H1) : tNot t σ H QT := k
theorem r_and (k : t σ H fun b H1 => if b = true then u σ H1 QT else QT false H1) : tAnd t u σ H QT := k
theorem r_or (k : t σ H fun b H1 => if b = true then QT true H1 else u σ H1 QT) : tOr t u σ H QT := k
theorem r_notV (k : ta σ H fun x H1 => ∃ c, x = .bl c ∧ Q (.bl (!c)) H1) : tNotV ta σ H Q := k
theorem r_andV (k : ta σ H fun x H1 => ∃ c, x = .bl c ∧ if c = true then tb σ H1 Q else Q (.bl false) H1) : tAndV ta tb σ H Q := k
theorem r_orV (k : ta σ H fun x H1 => ∃ c, x = .bl c ∧ if c = true then Q (.bl true) H1 else tb σ H1 Q) : tOrV ta tb σ H Q := k
theorem r_blV {b : Bool} {R : Bool → Prop} (k : R b) : ∃ c, V.bl b = .bl c ∧ R c := ⟨b, rfl, k⟩
theorem r_chain {r r' : R2} (k : ta σ H fun x H1 => tb σ H1 fun y H2 => r x y H2 fun z H3 => ∃ k, z = .bl k ∧ (if k = true then tc σ H3 fun w' H4 => r' y w' H4 Q else Q (.bl false) H3)) : tChain r r' ta tb tc σ H Q := k
theorem r_chain3 {r r' r'' : R2} {td : TE} (k : ta σ H fun x H1 => tb σ H1 fun y H2 => r x y H2 fun z H3 => ∃ k, z = .bl k ∧ (if k = true then tc σ H3 fun w' H4 => r' y w' H4 fun z2 H5 => ∃ k2, z2 = .bl k2 ∧ (if k2 = true then td σ H5 fun u' H6 => r'' w' u' H6 fun z3 H7 => ∃ k3, z3 = .bl k3 ∧ QT k3 H7 else QT false H5) else QT false H3)) : tChain3 r r' r'' ta tb tc td σ H QT := k
theorem r_if (k : t σ H fun c H1 => if c = true then ta σ H1 Q else tb σ H1 Q) : tIf t ta tb σ H Q := k
theorem r_cons (k : ta σ H fun x H1 => tr σ H1 fun xs H2 => QA (x :: xs) H2) : tCons ta tr σ H QA := k
theorem r_nil (k : QA [] H) : tNil σ H QA := k
theorem r_cal {sp : Sp} {E : XK} (k : tr σ H fun vs H1 => sp vs H1 Q E) : tCal sp E tr σ H Q := k
/-- a new tuple, a new list -/
def NewT (xs : List V) (H : Hp) (Q : VK) : Prop := xs.length ≤ sizeLine ∧ ∀ p, H p = none → Q (.ref p) (upd H p (.tup xs))
def NewL (xs : List V) (H : Hp) (Q : VK) : Prop := xs.length ≤ sizeLine ∧ ∀ p, H p = none → Q (.ref p) (upd H p (.lst xs))
theorem r_tup (k : tr σ H fun xs H1 => NewT xs H1 Q) : tTup tr σ H Q := k
theorem r_lst (k : tr σ H fun xs H1 => NewL xs H1 Q) : tLst tr σ H Q := k
theorem sz_of {n : Nat} (h : n ≤ 100000) : n ≤ sizeLine := Nat.le_trans h (by decide)
theorem r_newT {xs : List V} (h : xs.length ≤ 100000) (k : ∀ p H1, H p = none → Ex H H1 → H1 p = some (.tup xs) → Q (.ref p) H1) : NewT xs H Q := ⟨sz_of h, fun p hp => k p _ hp (Ex.new hp) upd_same⟩
theorem r_newL {xs : List V} (h : xs.length ≤ 100000) (k : ∀ p H1, H p = none → Ex H H1 → H1 p = some (.lst xs) → Q (.ref p) H1) : NewL xs H Q := ⟨sz_of h, fun p hp => k p _ hp (Ex.new hp) upd_same⟩
theorem r_ixT {p : Addr} {xs : List V} (h : SqT K H p xs) (a : atI xs i = some v) (k : Q v H) : rIxT K (.ref p) (.int i) H Q := ⟨p, xs, i, v, rfl, rfl, h, a, k⟩
theorem r_ixL {p : Addr} {xs : List V} (h : SqL K H p xs) (a : atI xs i = some v) (k : Q v H) : rIxL K (.ref p) (.int i) H Q := ⟨p, xs, i, v, rfl, rfl, h, a, k⟩
/-! statements -/
theorem r_seq (k : s1 { D with nx := s2 D } σ H) : tSeq s1 s2 D σ H := k
theorem r_asg {n : Nat} (k : te σ H fun x H1 => D.nx (σ.set n (some x)) H1) : tAsg te (gName n) D σ H := k
theorem r_asgG {g : TG} (k : te σ H fun x H1 => g x σ H1 D.nx) : tAsg te g D σ H := k
theorem r_drop (k : te σ H fun _ H1 => D.nx σ H1) : tDrop te D σ H := k
theorem r_ret (k : te σ H D.rt) : tRet te D σ H := k
theorem r_retN (k : D.rt .non H) : tRetN D σ H := k
theorem r_ifS (k : t σ H fun b H1 => if b = true then s1 D σ H1 else s2 D σ H1) : tIfS t s1 s2 D σ H := k
theorem r_next (k : D.nx σ H) : tNext D σ H := k
theorem r_gTup {p : Addr} {xs : List V} {n : Nat} {g : TGs} {QS : L2.St → Hp → Prop} (h : SqT K H p xs) (l : xs.length = n) (k : g xs σ H QS) : gTup K n g (.ref p) σ H QS := ⟨p, xs, rfl, h, l, k⟩
theorem r_gCons {g : TG} {gs : TGs} {xs : List V} {QS : L2.St → Hp → Prop} (k : g x σ H fun σ' H' => gs xs σ' H' QS) : gCons g gs (x :: xs) σ H QS := ⟨x, xs, rfl, k⟩
theorem r_gNil {QS : L2.St → Hp → Prop} (k : QS σ H) : gNil [] σ H QS := ⟨rfl, k⟩
theorem r_gName {n : Nat} {QS : L2.St → Hp → Prop} (k : QS (σ.set n (some x)) H) : gName n x σ H QS := k
theorem r_par {n m : Nat} (k : tr σ H fun vs H1 => ∃ v w, vs = [v, w] ∧ D.nx ((σ.set n (some v)).set m (some w)) H1) : tPar n m tr D σ H := k
theorem r_parE {R : V → V → Prop} (k : R x y) : ∃ v w, [x, y] = [v, w] ∧ R v w := ⟨x, y, rfl, k⟩
theorem r_par3 {n m l : Nat} (k : tr σ H fun vs H1 => ∃ u v w, vs = [u, v, w] ∧ D.nx (((σ.set n (some u)).set m (some v)).set l (some w)) H1) : tPar3 n m l tr D σ H := k
theorem r_parE3 {z : V} {R : V → V → V → Prop} (k : R x y z) : ∃ u v w, [x, y, z] = [u, v, w] ∧ R u v w := ⟨x, y, z, rfl, k⟩
theorem r_aug {n : Nat} {f : Int → Int → Int} (h : σ[n]? = some (some (.int i))) (k : te σ H fun y H1 => ipI f (.int i) y H1 fun z H2 => D.nx (σ.set n (some z)) H2) : tAug n te (ipI f) D σ H := ⟨.int i, h, k⟩
theorem r_ipI {f : Int → Int → Int} (k : Q (.int (f i j)) H) : ipI f (.int i) (.int j) H Q := ⟨i, j, rfl, rfl, k⟩
theorem r_cut {t u : TS} (M : L2.St → Hp → Prop) (h : t { D with nx := M } σ H) (k : ∀ σ' H', M σ' H' → u D σ' H') : tCut t u D σ H := ⟨M, h, k⟩
/-! tests decided -/
theorem r_nx {f : L2.St → Hp → Prop} {g : VK} {b c : L2.St → Hp → Prop} (k : f σ H) : Ends.nx ⟨f, g, b, c⟩ σ H := k
theorem r_nxS {f : L2.St → Hp → Prop} {g : VK} {b c : L2.St → Hp → Prop} {n : Nat} {z : Option V} {l' : L2.St} (h : σ.set n z = l') (k : f l' H) : Ends.nx ⟨f, g, b, c⟩ (σ.set n z) H := by rw [h]; exact k
theorem set_z {x v : Option V} {l : L2.St} : List.set (x :: l) 0 v = v :: l := rfl
theorem set_s {x v : Option V} {n : Nat} {l l' : L2.St} (h : l.set n v = l') : List.set (x :: l) (n + 1) v = x :: l' := by rw [← h]; rfl
theorem set_in {v : Option V} {n : Nat} {e e' l' : L2.St} (h1 : e = e') (h2 : e'.set n v = l') : e.set n v = l' := by rw [h1]; exact h2
theorem r_rt {f : L2.St → Hp → Prop} {g : VK} {b c : L2.St → Hp → Prop} (k : g v H) : Ends.rt ⟨f, g, b, c⟩ v H := k
theorem not_t {b : Bool} (h : b = false) : (!b) = true := by rw [h]; rfl
theorem not_f {b : Bool} (h : b = true) : (!b) = false := by rw [h]; rfl
theorem if_T {b : Bool} {A B : Prop} (h : b = true) (k : A) : if b = true then A else B := by rw [if_pos h]; exact k
theorem if_F {b : Bool} {A B : Prop} (h : b = false) (k : B) : if b = true then A else B := by
  rw [h, if_neg Bool.false_ne_true]
  exact k
theorem if_2 {b : Bool} {A B : Prop} (h1 : b = true → A) (h2 : b = false → B) : if b = true then A else B := by
  cases b with
  | true => exact if_T rfl (h1 rfl)
  | false => exact if_F rfl (h2 rfl)
/-- what is set into the tuple of the draws -/
theorem r_setL {o : Addr} {xs : List V} {k0 : Nat} {z : V} {Qh : Hp → Prop} (h : H o = some (.lst xs)) (hi : ixN xs.length i = some k0) (k : Qh (upd H o (.lst (xs.set k0 z)))) : rSetL (.ref o) (.int i) z H Qh := ⟨o, xs, i, k0, rfl, rfl, h, hi, k⟩
theorem r_gSub {to ti : TE} {ts : TSet} {QS : L2.St → Hp → Prop} (k : to σ H fun o H1 => ti σ H1 fun i H2 => ts o i v H2 fun H3 => QS σ H3) : gSub to ti ts v σ H QS := k
end

/-! calls of built-ins, walks -/
def rLen (K : PySem.W.Frag) : List V → Hp → VK → Prop := fun xs H Q => ∃ p ys, xs = [.ref p] ∧ (SqL K H p ys ∨ SqT K H p ys) ∧ Q (.int ys.length) H
theorem cl_len {X : Cx} : CallR X (.builtin "len") (rLen X.K) := call_len_seq
def rLenStr : List V → Hp → VK → Prop := fun xs H Q => ∃ z, xs = [.str z] ∧ z.length ≤ sizeLine ∧ Q (.int z.length) H
theorem cl_lenS {X : Cx} : CallR X (.builtin "len") rLenStr := call_len_str
def rAbs : List V → Hp → VK → Prop := fun xs H Q => ∃ i, xs = [.int i] ∧ Q (.int (if i < 0 then -i else i)) H
theorem cl_abs {X : Cx} : CallR X (.builtin "abs") rAbs := call_abs
def rMax2 : List V → Hp → VK → Prop := fun xs H Q => ∃ i j, xs = [.int i, .int j] ∧ Q (.int (if j > i then j else i)) H
def rMin2 : List V → Hp → VK → Prop := fun xs H Q => ∃ i j, xs = [.int i, .int j] ∧ Q (.int (if j < i then j else i)) H
theorem cl_max2 {X : Cx} (hc : X.calm = true) : CallR X (.builtin "max") rMax2 := call_max2 hc
theorem cl_min2 {X : Cx} (hc : X.calm = true) : CallR X (.builtin "min") rMin2 := call_min2 hc
def rMin3 : List V → Hp → VK → Prop := fun xs H Q => ∃ i j k, xs = [.int i, .int j, .int k] ∧ Q (.int (min (min i j) k)) H
theorem nu_min3 (i j k : Int) : nuMin3 (.int i) (.int j) (.int k) = some (.int (min (min i j) k)) := by
  have h1 : (if decide (j < i) = true then V.int j else V.int i) = V.int (min i j) := by
    by_cases h : j < i
    · rw [decide_eq_true h, if_pos rfl, show min i j = j by omega]
    · rw [decide_eq_false h, if_neg (by decide), show min i j = i by omega]
  have h2 : (if decide (k < min i j) = true then V.int k else V.int (min i j)) = V.int (min (min i j) k) := by
    by_cases h : k < min i j
    · rw [decide_eq_true h, if_pos rfl, show min (min i j) k = k by omega]
    · rw [decide_eq_false h, if_neg (by decide), show min (min i j) k = min i j by omega]
  rw [← h2, ← h1]
  unfold nuMin3
  show (some (if decide (j < i) = true then V.int j else V.int i)).bind _ = _
  rw [h1]
  rfl
theorem cl_min3 {X : Cx} (hc : X.calm = true) : CallR X (.builtin "min") rMin3 := fun pins s σ H xs us Q I r h => by
  obtain ⟨i, j, k, rfl, q⟩ := h
  exact call_min3Nu hc pins s σ H _ us Q I r ⟨_, _, _, _, rfl, nu_min3 i j k, q⟩
theorem r_min3 {H : Hp} {Q : VK} {i j k : Int} (q : Q (.int (min (min i j) k)) H) : rMin3 [.int i, .int j, .int k] H Q := ⟨i, j, k, rfl, q⟩
def rInt1 : List V → Hp → VK → Prop := fun xs H Q => (∃ i, xs = [.int i] ∧ Q (.int i) H) ∨ ∃ k, xs = [.bl k] ∧ Q (.int (if k then 1 else 0)) H
theorem cl_int1 {X : Cx} : CallR X (.type "int") rInt1 := call_int1
def rBool1 : List V → Hp → VK → Prop := fun xs H Q => (∃ i, xs = [.int i] ∧ Q (.bl (i != 0)) H) ∨ ∃ k, xs = [.bl k] ∧ Q (.bl k) H
theorem cl_bool1 {X : Cx} : CallR X (.type "bool") rBool1 := call_bool1
def rStrI : List V → Hp → VK → Prop := fun xs H Q => ∃ i, xs = [.int i] ∧ i.natAbs.log2 < 1920 ∧ Q (.str (toString i)) H
theorem cl_strI {X : Cx} : CallR X (.type "str") rStrI := call_str_int
section
variable {K : PySem.W.Frag} {σ : L2.St} {H : Hp} {Q : VK} {QT : Bool → Hp → Prop} {ta tb tc te : TE} {t u : TT} {tr : TA} {v x y : V} {i j : Int} {D : Ends} {s1 s2 : TS} {g : TG}
theorem r_CB {r : List V → Hp → VK → Prop} (k : tr σ H fun vs H1 => r vs H1 Q) : tCB r tr σ H Q := k
theorem r_lenL {p : Addr} {ys : List V} (h : SqL K H p ys) (k : Q (.int (ys.length : Nat)) H) : rLen K [.ref p] H Q := ⟨p, ys, rfl, .inl h, k⟩
theorem r_lenT {p : Addr} {ys : List V} (h : SqT K H p ys) (k : Q (.int (ys.length : Nat)) H) : rLen K [.ref p] H Q := ⟨p, ys, rfl, .inr h, k⟩
theorem r_lenS {z : Str} (h : z.length ≤ sizeLine) (k : Q (.int (z.length : Nat)) H) : rLenStr [.str z] H Q := ⟨z, rfl, h, k⟩
theorem r_abs (k : Q (.int (i.natAbs : Int)) H) : rAbs [.int i] H Q := ⟨i, rfl, by
  have e : (if i < 0 then -i else i) = (i.natAbs : Int) := by split <;> omega
  rw [e]
  exact k⟩
theorem r_max2 (k : Q (.int (max i j)) H) : rMax2 [.int i, .int j] H Q := ⟨i, j, rfl, by
  have e : (if j > i then j else i) = max i j := by split <;> omega
  rw [e]
  exact k⟩
theorem r_min2 (k : Q (.int (min i j)) H) : rMin2 [.int i, .int j] H Q := ⟨i, j, rfl, by
  have e : (if j < i then j else i) = min i j := by split <;> omega
  rw [e]
  exact k⟩
theorem r_intI (k : Q (.int i) H) : rInt1 [.int i] H Q := .inl ⟨i, rfl, k⟩
theorem r_intB {b : Bool} (k : Q (.int (if b = true then 1 else 0)) H) : rInt1 [.bl b] H Q := .inr ⟨b, rfl, k⟩
theorem r_isII (k : Q (.bl true) H) : rIsi K [.int i, .ty "int"] H Q := ⟨_, _, _, _, _, rfl, .ty _, .base (.int _), kit_ty (by decide +kernel), k⟩
theorem r_isIB (k : Q (.bl false) H) : rIsi K [.int i, .ty "bool"] H Q := ⟨_, _, _, _, _, rfl, .ty _, .base (.int _), kit_ty (by decide +kernel), k⟩
theorem r_isTT {p : Addr} {xs : List V} (h : H p = some (.tup xs)) (k : Q (.bl true) H) : rIsi K [.ref p, .ty "tuple"] H Q := ⟨_, _, _, _, _, rfl, .ty _, .base (.tup h), kit_ty (by decide +kernel), k⟩
theorem r_isLL {p : Addr} {xs : List V} (h : H p = some (.lst xs)) (k : Q (.bl true) H) : rIsi K [.ref p, .ty "list"] H Q := ⟨_, _, _, _, _, rfl, .ty _, .base (.lst h), kit_ty (by decide +kernel), k⟩
theorem r_isBB {b : Bool} (k : Q (.bl true) H) : rIsi K [.bl b, .ty "bool"] H Q := ⟨_, _, _, _, _, rfl, .ty _, .base (.bl _), kit_ty (by decide +kernel), k⟩
theorem r_isBI {b : Bool} (k : Q (.bl true) H) : rIsi K [.bl b, .ty "int"] H Q := ⟨_, _, _, _, _, rfl, .ty _, .base (.bl _), kit_ty (by decide +kernel), k⟩
theorem r_isSS {z : Str} (k : Q (.bl true) H) : rIsi K [.str z, .ty "str"] H Q := ⟨_, _, _, _, _, rfl, .ty _, .base (.str _), kit_ty (by decide +kernel), k⟩
theorem r_all {p : Addr} {bs : List Bool} (h : SqL K H p (bs.map V.bl)) (k : Q (.bl (bs.all id)) H) : rAll K [.ref p] H Q := ⟨p, bs, rfl, h, k⟩
theorem r_any {p : Addr} {bs : List Bool} (h : SqL K H p (bs.map V.bl)) (k : Q (.bl (bs.any id)) H) : rAny K [.ref p] H Q := ⟨p, bs, rfl, h, k⟩
/-- a loop over J -/
def ForB (J : It) (g : TG) (tb : TS) (D : Ends) (σ : L2.St) (H1 : Hp) : Prop := ∃ W : Nat → Nat → L2.St → Hp → Prop, (∃ m, W 0 m σ H1) ∧ ∀ i m σ H, W i m σ H →
  (J.stop i H ∧ D.nx σ H) ∨ (J.go i H ∧ ∃ Nx : L2.St → Hp → Prop, (∀ σ' H', Nx σ' H' → ∃ m', m' < m ∧ W (i + 1) m' σ' H') ∧ ∀ x H', J.yld i H x H' → g x σ H' fun σ2 H2 => tb { D with nx := Nx, ct := Nx, bk := D.nx } σ2 H2)
def Rng1 (vs : List V) (H : Hp) (R : It → Hp → Prop) : Prop := ∃ j : Int, vs = [.int j] ∧ -(2 ^ 62) ≤ j ∧ j < 2 ^ 62 ∧ R (Itr 0 j.toNat) H
def Rng2 (vs : List V) (H : Hp) (R : It → Hp → Prop) : Prop := ∃ i j : Int, vs = [.int i, .int j] ∧ R (Itr i (j - i).toNat) H
def iRngL (ta : TA) : TI := fun σ H R => ta σ H fun vs H1 => Rng2 vs H1 R
def ItL (K : PySem.W.Frag) (x : V) (H : Hp) (R : It → Hp → Prop) : Prop := ∃ a, x = .ref a ∧ (∃ xs, SqL K H a xs) ∧ R (Itl K a) H
def ItT (K : PySem.W.Frag) (x : V) (H : Hp) (R : It → Hp → Prop) : Prop := ∃ a, x = .ref a ∧ (∃ xs, SqT K H a xs) ∧ R (Itt K a) H
variable {R : It → Hp → Prop} {wi : TI}
theorem r_for (k : wi σ H fun J H1 => ForB J g s1 D σ H1) : tFor wi g s1 D σ H := k
theorem r_iRng1 (k : tr σ H fun vs H1 => Rng1 vs H1 R) : iRng1 tr σ H R := k
theorem r_iRng2 (k : tr σ H fun vs H1 => Rng2 vs H1 R) : iRngL tr σ H R := k
theorem r_iList (k : te σ H fun x H1 => ItL K x H1 R) : iList K te σ H R := k
theorem r_iTup (k : te σ H fun x H1 => ItT K x H1 R) : iTup K te σ H R := k
theorem r_rng1 (h1 : -(2 ^ 62) ≤ i) (h2 : i < 2 ^ 62) (k : R (Itr 0 i.toNat) H) : Rng1 [.int i] H R := ⟨i, rfl, h1, h2, k⟩
theorem r_rng2 (h : -(2 ^ 62) ≤ i ∧ i < 2 ^ 62 ∧ -(2 ^ 62) ≤ j ∧ j < 2 ^ 62) (k : R (Itr i (j - i).toNat) H) : Rng2 [.int i, .int j] H R := ⟨i, j, rfl, k⟩
theorem r_rngL (k : R (Itr i (j - i).toNat) H) : Rng2 [.int i, .int j] H R := ⟨i, j, rfl, k⟩
theorem r_ItL {p : Addr} {xs : List V} (h : SqL K H p xs) (k : R (Itl K p) H) : ItL K (.ref p) H R := ⟨p, rfl, ⟨xs, h⟩, k⟩
theorem r_ItT {p : Addr} {xs : List V} (h : SqT K H p xs) (k : R (Itt K p) H) : ItT K (.ref p) H R := ⟨p, rfl, ⟨xs, h⟩, k⟩
theorem for_rng {lo : Int} {n j : Nat} (Pv : Nat → L2.St → Hp → Prop) (h0 : Pv 0 σ H)
    (hs : ∀ i σ H, i < n → Pv i σ H → s1 { D with nx := Pv (i + 1), ct := Pv (i + 1), bk := D.nx } (σ.set j (some (.int (lo + i)))) H) (hd : ∀ σ H, Pv n σ H → D.nx σ H) : ForB (Itr lo n) (gName j) s1 D σ H := for_range Pv h0 hs hd
theorem for_lst {a : Addr} {xs : List V} (Pv : Nat → L2.St → Hp → Prop) (h0 : Pv 0 σ H) (hl : ∀ i σ H, i ≤ xs.length → Pv i σ H → SqL K H a xs)
    (hs : ∀ i x σ H, xs[i]? = some x → Pv i σ H → g x σ H fun σ2 H2 => s1 { D with nx := Pv (i + 1), ct := Pv (i + 1), bk := D.nx } σ2 H2) (hd : ∀ σ H, Pv xs.length σ H → D.nx σ H) : ForB (Itl K a) g s1 D σ H := for_list Pv h0 hl hs hd
theorem for_tp {a : Addr} {xs : List V} (Pv : Nat → L2.St → Hp → Prop) (h0 : Pv 0 σ H) (hl : ∀ i σ H, i ≤ xs.length → Pv i σ H → SqT K H a xs)
    (hs : ∀ i x σ H, xs[i]? = some x → Pv i σ H → g x σ H fun σ2 H2 => s1 { D with nx := Pv (i + 1), ct := Pv (i + 1), bk := D.nx } σ2 H2) (hd : ∀ σ H, Pv xs.length σ H → D.nx σ H) : ForB (Itt K a) g s1 D σ H := for_tup Pv h0 hl hs hd
/-- a comprehension over J -/
def LcB (J : It) (g : TG) (tt : TT) (te : TE) (vs : List Nat) (σ : L2.St) (H1 : Hp) (Q : VK) : Prop := ∀ D, H1 D = none → ∃ W : Nat → Nat → Hp → Prop, (∃ m, W 0 m (upd H1 D (.lst []))) ∧ ∀ i m H, W i m H →
  (J.stop i H ∧ Q (.ref D) H) ∨ (J.go i H ∧ ∃ Nx : Hp → Prop, (∀ H', Nx H' → ∃ m', m' < m ∧ W (i + 1) m' H') ∧ ∀ x H', J.yld i H x H' → g x (wipe σ vs) H' fun σ2 H2 => wipe σ2 vs = wipe σ vs ∧ tt σ2 H2 fun b H3 =>
    if b = true then te σ2 H3 fun y H4 => ∃ acc, H4 D = some (.lst acc) ∧ acc.length < sizeLine ∧ Nx (upd H4 D (.lst (acc ++ [y]))) else Nx H3)
theorem r_lc {vs : List Nat} (k : wi σ H fun J H1 => LcB J g t te vs σ H1 Q) : tLc wi g t te vs σ H Q := k
end
/-! ranges of any size -/
theorem turn_long {P : Program} {w : World} {K : PySem.W.Frag} {tg : Expr} (it : Addr) (lo : Int) (n : Nat) : Turn P w K tg (Itr lo n) [it] it (fun i h => IsLongIter h it (lo + (i : Nat) * 1) ((n : Int) - (i : Nat)) 1) where
  mem := List.mem_cons_self
  obj := fun i h st b hb => by
    obtain rfl : b = it := by simpa using hb
    exact ⟨_, st, fun v z => by
      have z' : Data.fields _ = Data.cell v := z
      cases z'⟩
  keep := fun i h h' st k => k it List.mem_cons_self _ st
  item := by
    intro X hP hw hK hc i pins s σ H E I hf st hg
    subst hP hw hK
    obtain ⟨f0, f1, f2, f3, f4, f5⟩ := hf it List.mem_cons_self
    refine (Walks.longrange (prog := X.prog) (w := X.w) (I.ok.hd hc) it lo 1 n).item i s _ _ hg st fun v h' tk hv st' kk => ?_
    obtain ⟨t, rfl⟩ := hv
    have I1 : Inv X pins σ H { s with heap := h', toks := tk } := I.turned (fun b o hb e => kk b o (by simpa using hb) e) f0 f1 f3 f4 f5
    exact ⟨_, rfl, go_of (s := { s with heap := h', toks := tk }) (n := "longrange_iterator") st' rfl rfl (by decide) ⟨.int (lo + i), H, I1, ⟨t, by rw [Int.mul_one]⟩, ⟨rfl, rfl⟩, st', fun b hb => (hf b hb).1⟩⟩
  done := by
    intro X hP hw hK hc i pins s σ H E I hf st hg
    subst hP hw hK
    obtain ⟨f0, f1, f2, f3, f4, f5⟩ := hf it List.mem_cons_self
    have hg' : n ≤ i := hg
    exact wpAny_pyNext_long_end (I.ok.hd hc) st (by omega) fun h' eb => ⟨rfl, I.turned (t' := s.toks) (fun b o hb e => eb b o hb e) f0 f1 f3 f4 f5⟩
  self := fun _ _ _ _ _ st h => wpAny_pyIter_longiter st h
theorem size_0 {lo hi : Int} : (((hi - lo).toNat : Nat) : Int) - ((0 : Nat) : Int) = Builtin.Range.rangeSize lo hi 1 := by
  rw [rangeSize_one]
  split <;> omega
theorem rit_0 {h : Heap} {lo hi : Int} : IsRangeIter (h.push { cls := .type "range_iterator", data := .fields #[rawInt lo, rawInt (Builtin.Range.rangeSize lo hi 1), rawInt 1] }) h.objs.size (lo + ((0 : Nat) : Int) * 1) ((((hi - lo).toNat : Nat) : Int) - ((0 : Nat) : Int)) 1 := by
  have e1 : lo + ((0 : Nat) : Int) * 1 = lo := by omega
  rw [e1, size_0]
  exact Heap.get?_push_size _ rfl
theorem lit_0 {h : Heap} {lo hi : Int} : IsLongIter (h.push { cls := .type "longrange_iterator", data := .fields #[rawInt lo, rawInt (Builtin.Range.rangeSize lo hi 1), rawInt 1] }) h.objs.size (lo + ((0 : Nat) : Int) * 1) ((((hi - lo).toNat : Nat) : Int) - ((0 : Nat) : Int)) 1 := by
  have e1 : lo + ((0 : Nat) : Int) * 1 = lo := by omega
  rw [e1, size_0]
  exact Heap.get?_push_size _ rfl
theorem range_any {X : Cx} {tg : Expr} {pins : List (Addr × Obj)} {σ : L2.St} {H : Hp} {s : Shared} {R : It → Hp → Prop} {E : Value → Shared → Prop} {lo hi : Int} {t u v : Tok} {tk : Nat} (I : Inv X pins σ H s)
    (q : R (Itr lo (hi - lo).toNat) H) : wpAny (model X.prog X.w) X.A (pyIter (.ref s.heap.objs.size)) (PIE X pins σ tg R) E { s with heap := s.heap.push { cls := .type "range", data := .fields #[.int lo t, .int hi u, .int 1 v] }, toks := tk } := by
  have I1 : Inv X pins σ H { s with heap := s.heap.push { cls := .type "range", data := .fields #[.int lo t, .int hi u, .int 1 v] }, toks := tk } := I.kept fun b o e => Heap.get?_push_of_some _ e
  have fp : ∀ b ∈ [(s.heap.push { cls := .type "range", data := .fields #[.int lo t, .int hi u, .int 1 v] }).objs.size], FpOk X pins H b := fun b hb => by
    obtain rfl : b = (s.heap.push { cls := .type "range", data := .fields #[.int lo t, .int hi u, .int 1 v] }).objs.size := by simpa using hb
    exact I1.fpOk (Nat.le_refl _) (I1.hok.fresh (Nat.le_refl _))
  cases hs : Builtin.Range.small lo hi 1 with
  | true => exact wpAny_pyIter_range (IsRange.new ..) hs ⟨_, [_], _, _, H, rfl, I1.kept (t' := tk) fun b o e => Heap.get?_push_of_some _ e, turn_range _ lo (hi - lo).toNat, rit_0, fp, q⟩
  | false => exact wpAny_pyIter_longrange (IsRange.new ..) hs ⟨_, [_], _, _, H, rfl, I1.kept (t' := tk) fun b o e => Heap.get?_push_of_some _ e, turn_long _ lo (hi - lo).toNat, lit_0, fp, q⟩
theorem pi_rng2 {X : Cx} {tg : Expr} {a b : Expr} {ta : TA} {p pos : Pos} (hg : Gl X "range") (hm : X.mg "range" = none) (ha : PA X [a, b] ta) (hs : starEach [a, b] X.env = [(false, eval a X.env), (false, eval b X.env)] := by rfl) (hs2 : starEach [b] X.env = [(false, eval b X.env)] := by rfl) :
    PI X tg (.Call (.Name "range" p) [a, b] [] pos) (iRngL ta) := by
  refine ⟨fun pins s σ H R I h => Call_ (ld_blt I hg hm boot_range (PyProof.Rows.callWith_type1 (thn (ha.run pos pins s σ H _ I h) fun us s1 ⟨vs, H1, I1, r1, q1⟩ => ?_) (by rw [hs, hs2]) (by rw [hs2]; rfl)))⟩
  obtain ⟨i, j, rfl, q⟩ := q1
  cases r1 with
  | cons r rr =>
    cases rr with
    | cons r' rr =>
      cases rr
      obtain ⟨t, rfl⟩ := r
      obtain ⟨t', rfl⟩ := r'
      exact call_range_2 (range_any I1 q)
/-- what an expression gives without a change of what is tracked -/
def PureE (te : TE) (σ : L2.St) (H : Hp) (v : V) : Prop := ∀ H1, Ex H H1 → ∀ Q : VK, (∀ H2, Ex H1 H2 → Q v H2) → te σ H1 Q
section
variable {K : PySem.W.Frag} {σ : L2.St} {H : Hp} {Q : VK} {te : TE}
theorem tYes_k {F : Bool → Hp → Prop} (k : F true H) : tYes σ H F := k
theorem len_lt {n : Nat} (h : n ≤ 100000) : n < sizeLine := Nat.lt_of_le_of_lt h (by decide)
/-- [e for j in a range], e pure -/
theorem lc_rngP {lo : Int} {n j : Nat} {vs : List Nat} (f : Nat → V) (hn : n ≤ 100000) (hw : ∀ x, wipe ((wipe σ vs).set j (some x)) vs = wipe σ vs)
    (he : ∀ i : Nat, i < n → PureE te ((wipe σ vs).set j (some (.int (lo + i)))) H (f i)) (k : ∀ p H1, H p = none → Ex H H1 → H1 p = some (.lst ((List.range n).map f)) → Q (.ref p) H1) : LcB (Itr lo n) (gName j) tYes te vs σ H Q := fun Dl hD => by
  refine lc_range (fun i H' => Ex H H' ∧ H' Dl = some (.lst ((List.range i).map f))) ⟨Ex.new hD, upd_same⟩ (fun i H' hi p => ?_) (fun H' p => k Dl H' hD p.1 p.2)
  refine ⟨hw _, ?_⟩
  refine tYes_k ?_
  rw [if_pos rfl]
  refine he i hi H' p.1 _ fun H2 e2 => ⟨_, e2 _ _ p.2, ?_, ?_⟩
  · rw [List.length_map, List.length_range]
    exact len_lt (by omega)
  · refine ⟨fun a o ha => ?_, ?_⟩
    · rw [upd_ne (ne_of_none ha hD)]
      exact e2 _ _ (p.1 _ _ ha)
    · rw [upd_same, List.range_succ, List.map_append]
      rfl
theorem lc_lstP {a : Addr} {xs : List V} {j : Nat} {vs : List Nat} (f : V → V) (hx : SqL K H a xs) (hn : xs.length ≤ 100000) (hw : ∀ x, wipe ((wipe σ vs).set j (some x)) vs = wipe σ vs)
    (he : ∀ (i : Nat) x, xs[i]? = some x → PureE te ((wipe σ vs).set j (some x)) H (f x)) (k : ∀ p H1, H p = none → Ex H H1 → H1 p = some (.lst (xs.map f)) → Q (.ref p) H1) : LcB (Itl K a) (gName j) tYes te vs σ H Q := fun Dl hD => by
  refine lc_list (xs := xs) (fun i H' => Ex H H' ∧ H' Dl = some (.lst ((xs.take i).map f))) ⟨Ex.new hD, upd_same⟩ (fun i H' _ p => sql_up p.1 hx) (fun i x H' hi p => ?_) (fun H' p => k Dl H' hD p.1 (by rw [p.2, List.take_length]))
  refine ⟨hw _, ?_⟩
  refine tYes_k ?_
  rw [if_pos rfl]
  refine he i x hi H' p.1 _ fun H2 e2 => ⟨_, e2 _ _ p.2, ?_, ?_⟩
  · rw [List.length_map, List.length_take]
    exact len_lt (by omega)
  · refine ⟨fun a o ha => ?_, ?_⟩
    · rw [upd_ne (ne_of_none ha hD)]
      exact e2 _ _ (p.1 _ _ ha)
    · rw [upd_same, List.take_add_one, hi, List.map_append]
      rfl
theorem lc_tupP {a : Addr} {xs : List V} {j : Nat} {vs : List Nat} (f : V → V) (hx : SqT K H a xs) (hn : xs.length ≤ 100000) (hw : ∀ x, wipe ((wipe σ vs).set j (some x)) vs = wipe σ vs)
    (he : ∀ (i : Nat) x, xs[i]? = some x → PureE te ((wipe σ vs).set j (some x)) H (f x)) (k : ∀ p H1, H p = none → Ex H H1 → H1 p = some (.lst (xs.map f)) → Q (.ref p) H1) : LcB (Itt K a) (gName j) tYes te vs σ H Q := fun Dl hD => by
  refine lc_tup (xs := xs) (fun i H' => Ex H H' ∧ H' Dl = some (.lst ((xs.take i).map f))) ⟨Ex.new hD, upd_same⟩ (fun i H' _ p => sqt_up p.1 hx) (fun i x H' hi p => ?_) (fun H' p => k Dl H' hD p.1 (by rw [p.2, List.take_length]))
  refine ⟨hw _, ?_⟩
  refine tYes_k ?_
  rw [if_pos rfl]
  refine he i x hi H' p.1 _ fun H2 e2 => ⟨_, e2 _ _ p.2, ?_, ?_⟩
  · rw [List.length_map, List.length_take]
    exact len_lt (by omega)
  · refine ⟨fun a o ha => ?_, ?_⟩
    · rw [upd_ne (ne_of_none ha hD)]
      exact e2 _ _ (p.1 _ _ ha)
    · rw [upd_same, List.take_add_one, hi, List.map_append]
      rfl
end

theorem Sz.b2 {c : Prop} {_ : Decidable c} : Sz 1 (if c then 1 else 0) := by
  show (if c then (1 : Int) else 0).natAbs < 2 ^ 1
  split <;> decide
theorem div_mod_eq (x m : Int) : x / m * m + x % m = x := by
  have := Int.emod_add_mul_ediv x m
  rw [Int.mul_comm] at this
  omega
theorem Sz.small {x : Int} (h : x.natAbs < 1000000000000000000) : Sz 200 x := by
  show x.natAbs < 2 ^ 200
  omega
theorem at_ints {ns : List Int} {i : Int} (h0 : 0 ≤ i) (h1 : i < ns.length) : ∃ z, atI (ns.map V.int) i = some (.int z) ∧ ns[i.toNat]? = some z := by
  have hl : i.toNat < ns.length := by omega
  refine ⟨ns[i.toNat], ?_, List.getElem?_eq_getElem hl⟩
  refine at_of (j := i.toNat) (by omega) ?_
  rw [List.getElem?_map, List.getElem?_eq_getElem hl]
  rfl
theorem at_3 {x y z : V} {i : Int} (h0 : 0 ≤ i) (h1 : i < 3) : ∃ v, atI [x, y, z] i = some v ∧ (v = x ∨ v = y ∨ v = z) := by
  obtain rfl | rfl | rfl : i = 0 ∨ i = 1 ∨ i = 2 := by omega
  · exact ⟨_, rfl, .inl rfl⟩
  · exact ⟨_, rfl, .inr (.inl rfl)⟩
  · exact ⟨_, rfl, .inr (.inr rfl)⟩
theorem Sz.lt {n : Nat} {x y : Int} (h : Sz n y) (a : 0 ≤ x) (b : x < y) : Sz n x := by
  have h' : y.natAbs < 2 ^ n := h
  show x.natAbs < 2 ^ n
  omega
theorem Sz.abs {n : Nat} {x : Int} (h : Sz n x) : Sz n (x.natAbs : Int) := by
  show ((x.natAbs : Int)).natAbs < 2 ^ n
  exact h

section
variable {σ : L2.St} {H : Hp} {D : Ends} {t : TT} {s1 : TS}
/-- a while by its measure -/
theorem while_m (W : Nat → L2.St → Hp → Prop) (m0 : Nat) (h0 : W m0 σ H) (h : ∀ m σ H, W m σ H → t σ H fun b H1 => if b = true then ∃ N : L2.St → Hp → Prop, (∀ σ' H', N σ' H' → ∃ m', m' < m ∧ W m' σ' H') ∧ s1 { D with nx := N, ct := N, bk := D.nx } σ H1 else D.nx σ H1) : tWhile t s1 D σ H :=
  ⟨W, ⟨m0, h0⟩, fun m σ H w => h m σ H w⟩
theorem r_body {m : Nat} {W : Nat → L2.St → Hp → Prop} (N : L2.St → Hp → Prop) (hN : ∀ σ' H', N σ' H' → ∃ m', m' < m ∧ W m' σ' H') (k : s1 { D with nx := N, ct := N, bk := D.nx } σ H) :
    ∃ N : L2.St → Hp → Prop, (∀ σ' H', N σ' H' → ∃ m', m' < m ∧ W m' σ' H') ∧ s1 { D with nx := N, ct := N, bk := D.nx } σ H := ⟨N, hN, k⟩
end

/-- in a turn of the law, begun at H0, drawing from d -/
structure Lw (H0 : Hp) (d : Addr) (H : Hp) : Prop where
  e : Ex H0 H
  n : H0 d = none
  D : Dr H d
theorem Lw.ex {H0 H H' : Hp} {d : Addr} (w : Lw H0 d H) (e : Ex H H') : Lw H0 d H' := ⟨w.e.trans e, w.n, w.D.up e⟩
/-- a list of the turn's own is changed -/
theorem Lw.own {H0 H H' : Hp} {d l : Addr} (w : Lw H0 d H) (nf : H0 l = none) (ne : l ≠ d) (k : Kp l H H') : Lw H0 d H' := by
  obtain ⟨x, y, h, r⟩ := w.D
  exact ⟨w.e.kpd nf k, w.n, x, y, k _ _ (Ne.symm ne) h, r⟩
theorem Lw.kp {H0 H H' : Hp} {d : Addr} (w : Lw H0 d H) (k : Kp d H H') (D : Dr H' d) : Lw H0 d H' := ⟨w.e.kpd w.n k, w.n, D⟩

/-! data compared -/
theorem eqv_ints : ∀ xs ys : List Int, PyData.eqvAll (xs.map PyData.int) (ys.map PyData.int) = decide (xs = ys)
  | [], [] => by rw [decide_eq_true rfl]; rfl
  | [], y :: ys => by rw [decide_eq_false (by intro h; cases h)]; rfl
  | x :: xs, [] => by rw [decide_eq_false (by intro h; cases h)]; rfl
  | x :: xs, y :: ys => by
    show (PyData.eqv (.int x) (.int y) && PyData.eqvAll (xs.map PyData.int) (ys.map PyData.int)) = _
    rw [eqv_ints xs ys]
    show ((x == y) && decide (xs = ys)) = decide (x :: xs = y :: ys)
    by_cases h : x = y
    · subst h
      by_cases h2 : xs = ys
      · subst h2
        rw [decide_eq_true rfl, decide_eq_true rfl, beq_self_eq_true]
        rfl
      · rw [decide_eq_false h2, decide_eq_false (fun z => h2 (List.cons.inj z).2), Bool.and_false]
    · rw [beq_eq_false_iff_ne.mpr h, decide_eq_false (fun z => h (List.cons.inj z).1), Bool.false_and]
theorem lay_ints : ∀ xs : List Int, PyData.canLayAll0 (xs.map PyData.int) = true
  | [] => rfl
  | x :: xs => by
    show (PyData.canLay0 (.int x) && PyData.canLayAll0 (xs.map PyData.int)) = true
    rw [lay_ints xs]
    rfl
theorem dep_ints : ∀ xs : List Int, PyData.depthAll (xs.map PyData.int) ≤ 1
  | [] => Nat.zero_le _
  | x :: xs => by
    show max (PyData.depth (.int x)) (PyData.depthAll (xs.map PyData.int)) ≤ 1
    have h1 : PyData.depth (.int x) ≤ 1 := by
      unfold PyData.depth
      omega
    have := dep_ints xs
    omega
theorem shp_tup (xs : List Int) : SeqAt.shaped (.tuple (xs.map PyData.int)) = true := by
  unfold SeqAt.shaped
  rw [Bool.and_eq_true]
  refine ⟨?_, decide_eq_true ?_⟩
  · unfold PyData.canLay0
    exact lay_ints xs
  · unfold PyData.depth
    have := dep_ints xs
    omega
theorem shp_lst (xs : List Int) : SeqAt.shaped (.list (xs.map PyData.int)) = true := by
  unfold SeqAt.shaped
  rw [Bool.and_eq_true]
  refine ⟨?_, decide_eq_true ?_⟩
  · unfold PyData.canLay0
    exact lay_ints xs
  · unfold PyData.depth
    have := dep_ints xs
    omega
section
variable {K : PySem.W.Frag} {H : Hp} {Q : VK}
theorem dp_ints : ∀ xs : List Int, DpAll K H (xs.map V.int) (xs.map PyData.int)
  | [] => .nil
  | x :: xs => .cons (.int x) (dp_ints xs)
theorem r_eqD {x y : V} {d e : PyData} (hd : Dp K H x d) (he : Dp K H y e) (sd : SeqAt.shaped d = true) (se : SeqAt.shaped e = true) (k : Q (.bl (PyData.eqv d e)) H) : rEqD K x y H Q := ⟨d, e, hd, he, sd, se, k⟩
theorem r_neD {x y : V} {d e : PyData} (hd : Dp K H x d) (he : Dp K H y e) (sd : SeqAt.shaped d = true) (se : SeqAt.shaped e = true) (k : Q (.bl (!PyData.eqv d e)) H) : rNeD K x y H Q := ⟨d, e, hd, he, sd, se, k⟩
theorem eqvT (xs ys : List Int) : PyData.eqv (.tuple (xs.map PyData.int)) (.tuple (ys.map PyData.int)) = decide (xs = ys) := by
  unfold PyData.eqv
  exact eqv_ints xs ys
theorem eqvL (xs ys : List Int) : PyData.eqv (.list (xs.map PyData.int)) (.list (ys.map PyData.int)) = decide (xs = ys) := by
  unfold PyData.eqv
  exact eqv_ints xs ys
/-- two tuples of three whole numbers, two lists of whole numbers -/
theorem r_eqT3 {p q : Addr} {a b c a' b' c' : Int} (h : SqT K H p [.int a, .int b, .int c]) (h' : SqT K H q [.int a', .int b', .int c']) (k : Q (.bl (decide ([a, b, c] = [a', b', c']))) H) : rEqD K (.ref p) (.ref q) H Q :=
  r_eqD (.tup h (dp_ints [a, b, c])) (.tup h' (dp_ints [a', b', c'])) (shp_tup _) (shp_tup _) (by rw [eqvT]; exact k)
theorem r_neT3 {p q : Addr} {a b c a' b' c' : Int} (h : SqT K H p [.int a, .int b, .int c]) (h' : SqT K H q [.int a', .int b', .int c']) (k : Q (.bl (!decide ([a, b, c] = [a', b', c']))) H) : rNeD K (.ref p) (.ref q) H Q :=
  r_neD (.tup h (dp_ints [a, b, c])) (.tup h' (dp_ints [a', b', c'])) (shp_tup _) (shp_tup _) (by rw [eqvT]; exact k)
theorem r_eqL {p q : Addr} {xs ys : List Int} (h : SqL K H p (xs.map V.int)) (h' : SqL K H q (ys.map V.int)) (k : Q (.bl (decide (xs = ys))) H) : rEqD K (.ref p) (.ref q) H Q :=
  r_eqD (.lst h (dp_ints xs)) (.lst h' (dp_ints ys)) (shp_lst _) (shp_lst _) (by rw [eqvL]; exact k)
theorem r_neL {p q : Addr} {xs ys : List Int} (h : SqL K H p (xs.map V.int)) (h' : SqL K H q (ys.map V.int)) (k : Q (.bl (!decide (xs = ys))) H) : rNeD K (.ref p) (.ref q) H Q :=
  r_neD (.lst h (dp_ints xs)) (.lst h' (dp_ints ys)) (shp_lst _) (shp_lst _) (by rw [eqvL]; exact k)
end
theorem at_2 {x y : V} {i : Int} (h0 : 0 ≤ i) (h1 : i < 2) : ∃ v, atI [x, y] i = some v ∧ (v = x ∨ v = y) := by
  obtain rfl | rfl : i = 0 ∨ i = 1 := by omega
  · exact ⟨_, rfl, .inl rfl⟩
  · exact ⟨_, rfl, .inr rfl⟩
/-- what a test gives without a change of what is tracked -/
def PureT (tt : TT) (σ : L2.St) (H : Hp) (b : Bool) : Prop := ∀ H1, Ex H H1 → ∀ Q : Bool → Hp → Prop, (∀ H2, Ex H1 H2 → Q b H2) → tt σ H1 Q
section
variable {K : PySem.W.Frag} {σ : L2.St} {H : Hp} {Q : VK} {te : TE} {tt : TT}
/-- [e for j in a range if t], t and e pure -/
theorem lc_rngF {lo : Int} {n j : Nat} {vs : List Nat} (c : Nat → Bool) (f : Nat → V) (hn : n ≤ 100000) (hw : ∀ x, wipe ((wipe σ vs).set j (some x)) vs = wipe σ vs)
    (ht : ∀ i : Nat, i < n → PureT tt ((wipe σ vs).set j (some (.int (lo + i)))) H (c i))
    (he : ∀ i : Nat, i < n → c i = true → PureE te ((wipe σ vs).set j (some (.int (lo + i)))) H (f i)) (k : ∀ p H1, H p = none → Ex H H1 → H1 p = some (.lst (((List.range n).filter c).map f)) → Q (.ref p) H1) : LcB (Itr lo n) (gName j) tt te vs σ H Q := fun Dl hD => by
  refine lc_range (fun i H' => Ex H H' ∧ H' Dl = some (.lst (((List.range i).filter c).map f))) ⟨Ex.new hD, upd_same⟩ (fun i H' hi p => ?_) (fun H' p => k Dl H' hD p.1 p.2)
  refine ⟨hw _, ht i hi H' p.1 _ fun H2 e2 => ?_⟩
  cases hc : c i with
  | true =>
    rw [if_pos rfl]
    refine he i hi hc H2 (p.1.trans e2) _ fun H3 e3 => ⟨_, e3 _ _ (e2 _ _ p.2), ?_, ?_⟩
    · have l1 := List.length_filter_le c (List.range i)
      rw [List.length_range] at l1
      rw [List.length_map]
      exact len_lt (by omega)
    · refine ⟨fun a o ha => ?_, ?_⟩
      · rw [upd_ne (ne_of_none ha hD)]
        exact e3 _ _ (e2 _ _ (p.1 _ _ ha))
      · rw [upd_same, List.range_succ, List.filter_append, List.map_append]
        simp [hc]
  | false =>
    rw [if_neg Bool.false_ne_true]
    refine ⟨p.1.trans e2, ?_⟩
    rw [List.range_succ, List.filter_append, List.map_append]
    simp [hc, e2 _ _ p.2]
end
/-- a drawn stair -/
structure StB (a b m : Int) : Prop where
  m0 : 0 < m
  m1 : m ≤ 1000000000000000000000000000000000000000000000000000000000000
  za : Sz 620 a
  zb : Sz 620 b
theorem StB.zm {a b m : Int} (S : StB a b m) : Sz 200 m := by
  have := S.m0
  have := S.m1
  show m.natAbs < 2 ^ 200
  omega

section
variable {K : PySem.W.Frag} {σ : L2.St} {H : Hp} {Q : VK} {i : Int}
theorem r_sortI {a : Addr} {ns : List Int} (h : SqL K H a (ns.map V.int)) (k : ∀ (ns' : List Int) p H1, ns'.Perm ns → ns'.Pairwise (· ≤ ·) → H p = none → Ex H H1 → H1 p = some (.lst (ns'.map V.int)) → Q (.ref p) H1) : rSortedI K [.ref a] H Q :=
  ⟨a, ns, rfl, h, fun ns' p h1 h2 hp => k ns' p _ h1 h2 hp (Ex.new hp) upd_same⟩
theorem r_gLst {p : Addr} {xs : List V} {n : Nat} {g : TGs} {QS : L2.St → Hp → Prop} (h : SqL K H p xs) (l : xs.length = n) (k : g xs σ H QS) : gLst K n g (.ref p) σ H QS := ⟨p, xs, rfl, h, l, k⟩
end
theorem sort_2 {ns : List Int} {x y : Int} (h : ns.Perm [x, y]) (s : ns.Pairwise (· ≤ ·)) : ns = [min x y, max x y] := by
  have hl := h.length_eq
  match ns, hl with
  | [u, v], _ =>
    have m1 := h.mem_iff (a := u)
    have m2 := h.mem_iff (a := v)
    have m3 := h.mem_iff (a := x)
    have m4 := h.mem_iff (a := y)
    have huv : u ≤ v := by
      have := List.pairwise_cons.mp s
      exact this.1 v (by simp)
    simp at m1 m2 m3 m4
    have e1 : u = min x y := by omega
    have e2 : v = max x y := by omega
    rw [← e1, ← e2]
theorem sort_3 {ns : List Int} {x y z lo hi : Int} (h : ns.Perm [x, y, z]) (s : ns.Pairwise (· ≤ ·)) (h1 : lo ≤ x ∧ x ≤ hi) (h2 : lo ≤ y ∧ y ≤ hi) (h3 : lo ≤ z ∧ z ≤ hi) : ∃ u v w, ns = [u, v, w] ∧ lo ≤ u ∧ u ≤ v ∧ v ≤ w ∧ w ≤ hi := by
  have hl := h.length_eq
  match ns, hl with
  | [u, v, w], _ =>
    have m1 := h.mem_iff (a := u)
    have m3 := h.mem_iff (a := w)
    have p := List.pairwise_cons.mp s
    have huv : u ≤ v := p.1 v (by simp)
    have hvw : v ≤ w := (List.pairwise_cons.mp p.2).1 w (by simp)
    simp at m1 m3
    exact ⟨u, v, w, rfl, by omega, huv, hvw, by omega⟩
/-! none, True, membership -/
def rIsNn : R2 := fun x y H Q => y = .non ∧ Q (.bl (decide (x = .non))) H
def rNotNn : R2 := fun x y H Q => y = .non ∧ Q (.bl (!decide (x = .non))) H
theorem op_isNn {X : Cx} : OpR X (compareOp .Is) rIsNn := op_isN
theorem op_notNn {X : Cx} : OpR X (compareOp .IsNot) rNotNn := op_notN
section
variable {K : PySem.W.Frag} {H : Hp} {Q : VK} {x : V}
theorem r_isNnI {i : Int} (k : Q (.bl false) H) : rIsNn (.int i) .non H Q := ⟨rfl, k⟩
theorem r_isNnN (k : Q (.bl true) H) : rIsNn .non .non H Q := ⟨rfl, k⟩
theorem r_isNnR {a : Addr} (k : Q (.bl false) H) : rIsNn (.ref a) .non H Q := ⟨rfl, k⟩
theorem r_notNnI {i : Int} (k : Q (.bl true) H) : rNotNn (.int i) .non H Q := ⟨rfl, k⟩
theorem r_notNnN (k : Q (.bl false) H) : rNotNn .non .non H Q := ⟨rfl, k⟩
theorem r_notNnR {a : Addr} (k : Q (.bl true) H) : rNotNn (.ref a) .non H Q := ⟨rfl, k⟩
theorem all_flatI : ∀ ns : List Int, (ns.map V.int).all flatV = true
  | [] => rfl
  | n :: ns => by
    show (true && (ns.map V.int).all flatV) = true
    rw [all_flatI ns]
    rfl
theorem inV_ints (i : Int) : ∀ ns : List Int, inV (.int i) (ns.map V.int) = decide (i ∈ ns)
  | [] => rfl
  | n :: ns => by
    show (eqV (.int n) (.int i) || inV (.int i) (ns.map V.int)) = _
    rw [inV_ints i ns]
    show ((decide (n = i)) || _) = _
    by_cases h : n = i
    · subst h
      rw [decide_eq_true rfl, decide_eq_true (List.mem_cons_self ..)]
      rfl
    · rw [decide_eq_false h, Bool.false_or]
      by_cases h2 : i ∈ ns
      · rw [decide_eq_true h2, decide_eq_true (List.mem_cons_of_mem _ h2)]
      · rw [decide_eq_false h2, decide_eq_false]
        intro z
        rcases List.mem_cons.mp z with z | z
        · exact h z.symm
        · exact h2 z
theorem r_inI {i : Int} {ns : List Int} {p : Addr} (h : SqL K H p (ns.map V.int)) (k : Q (.bl (decide (i ∈ ns))) H) : rIn K false (.int i) (.ref p) H Q :=
  ⟨p, _, rfl, .inl h, rfl, all_flatI ns, by rw [inV_ints]; exact k⟩
end
/-! lists of rows of whole numbers -/
theorem Kp.tupL {H H' : Hp} {d p : Addr} {xs ys : List V} (k : Kp d H H') (D : H d = some (.lst ys)) (h : H p = some (.tup xs)) : H' p = some (.tup xs) :=
  k _ _ (ne_of h D (by intro z; cases z)) h
/-- each value a tuple of whole numbers -/
def RowsA (H : Hp) : List V → List (List Int) → Prop
  | [], [] => True
  | v :: vs, r :: rs => (∃ p, v = .ref p ∧ H p = some (.tup (r.map V.int))) ∧ RowsA H vs rs
  | _, _ => False
theorem RowsA.imp {H H' : Hp} (f : ∀ (p : Addr) (xs : List V), H p = some (.tup xs) → H' p = some (.tup xs)) : ∀ {vs : List V} {rs : List (List Int)}, RowsA H vs rs → RowsA H' vs rs
  | [], [], _ => trivial
  | _ :: _, _ :: _, ⟨⟨p, e, h⟩, r⟩ => ⟨⟨p, e, f _ _ h⟩, RowsA.imp f r⟩
  | [], _ :: _, h => h.elim
  | _ :: _, [], h => h.elim
theorem RowsA.ex {H H' : Hp} {vs : List V} {rs : List (List Int)} (h : RowsA H vs rs) (e : Ex H H') : RowsA H' vs rs := h.imp fun p xs q => e p _ q
theorem RowsA.kp {H H' : Hp} {d : Addr} {vs : List V} {rs : List (List Int)} (h : RowsA H vs rs) (k : Kp d H H') (D : Dr H d) : RowsA H' vs rs := h.imp fun _ _ q => k.tup D q
theorem RowsA.kpL {H H' : Hp} {d : Addr} {ys vs : List V} {rs : List (List Int)} (h : RowsA H vs rs) (k : Kp d H H') (D : H d = some (.lst ys)) : RowsA H' vs rs := h.imp fun _ _ q => k.tupL D q
theorem RowsA.len {H : Hp} : ∀ {vs : List V} {rs : List (List Int)}, RowsA H vs rs → vs.length = rs.length
  | [], [], _ => rfl
  | _ :: _, _ :: _, ⟨_, r⟩ => by
    rw [List.length_cons, List.length_cons, RowsA.len r]
  | [], _ :: _, h => h.elim
  | _ :: _, [], h => h.elim
theorem RowsA.app {H : Hp} {p : Addr} {r : List Int} (hp : H p = some (.tup (r.map V.int))) : ∀ {vs : List V} {rs : List (List Int)}, RowsA H vs rs → RowsA H (vs ++ [.ref p]) (rs ++ [r])
  | [], [], _ => ⟨⟨p, rfl, hp⟩, trivial⟩
  | _ :: _, _ :: _, ⟨h, r⟩ => ⟨h, RowsA.app hp r⟩
  | [], _ :: _, h => h.elim
  | _ :: _, [], h => h.elim
theorem RowsA.get {H : Hp} : ∀ {vs : List V} {rs : List (List Int)} {i : Nat} {v : V}, RowsA H vs rs → vs[i]? = some v → ∃ p r, v = .ref p ∧ rs[i]? = some r ∧ H p = some (.tup (r.map V.int))
  | _ :: _, r :: _, 0, _, ⟨⟨p, e, h⟩, _⟩, g => ⟨p, r, (Option.some.inj g).symm.trans e, rfl, h⟩
  | _ :: _, _ :: _, i + 1, _, ⟨_, h⟩, g => RowsA.get (i := i) h g
  | [], _, _, _, _, g => by simp at g
  | _ :: _, [], _, _, h, _ => h.elim
/-- a list of rows stands at l -/
def RwL (H : Hp) (l : Addr) (rs : List (List Int)) : Prop := ∃ vs, H l = some (.lst vs) ∧ RowsA H vs rs
theorem RwL.ex {H H' : Hp} {l : Addr} {rs : List (List Int)} (h : RwL H l rs) (e : Ex H H') : RwL H' l rs := by
  obtain ⟨vs, h1, h2⟩ := h
  exact ⟨vs, e _ _ h1, h2.ex e⟩
theorem RwL.kp {H H' : Hp} {d l : Addr} {rs : List (List Int)} (h : RwL H l rs) (k : Kp d H H') (D : Dr H d) (n : l ≠ d) : RwL H' l rs := by
  obtain ⟨vs, h1, h2⟩ := h
  exact ⟨vs, k _ _ n h1, h2.kp k D⟩
theorem RwL.app {H H' : Hp} {l p : Addr} {vs : List V} {rs : List (List Int)} {r : List Int} (h0 : H l = some (.lst vs)) (h : RowsA H vs rs) (hp : H p = some (.tup (r.map V.int))) (k : Kp l H H') (h1 : H' l = some (.lst (vs ++ [.ref p]))) : RwL H' l (rs ++ [r]) :=
  ⟨_, h1, RowsA.app (k.tupL h0 hp) (h.kpL k h0)⟩
theorem cutV_whole {xs : List V} {lo hi : Option Int} (w : HT.sIx xs.length 0 lo = 0 ∧ HT.sIx xs.length xs.length hi = xs.length) : cutV xs lo hi = xs := by
  unfold cutV
  rw [w.1, w.2, List.drop_zero, Nat.sub_zero, List.take_length]
theorem mem_cutV {xs : List V} {lo hi : Option Int} {v : V} (h : v ∈ cutV xs lo hi) : v ∈ xs := List.mem_of_mem_drop (List.mem_of_mem_take h)
def rListOf (K : PySem.W.Frag) : List V → Hp → VK → Prop := fun xs H Q => ∃ p ys, xs = [.ref p] ∧ (SqL K H p ys ∨ SqT K H p ys) ∧ ∀ l, H l = none → Q (.ref l) (upd H l (.lst ys))
theorem cl_listOf {X : Cx} : CallR X (.type "list") (rListOf X.K) := call_list_of
section
variable {K : PySem.W.Frag} {σ : L2.St} {H : Hp} {Q : VK} {ta te : TE} {t : TA} {p q l : Addr} {xs ys : List V} {tl th : TO}
theorem r_listL (h : SqL K H p ys) (k : ∀ l H1, H l = none → Ex H H1 → H1 l = some (.lst ys) → Q (.ref l) H1) : rListOf K [.ref p] H Q :=
  ⟨p, ys, rfl, .inl h, fun l n => k l _ n (Ex.new n) upd_same⟩
theorem r_listT (h : SqT K H p ys) (k : ∀ l H1, H l = none → Ex H H1 → H1 l = some (.lst ys) → Q (.ref l) H1) : rListOf K [.ref p] H Q :=
  ⟨p, ys, rfl, .inr h, fun l n => k l _ n (Ex.new n) upd_same⟩
theorem r_bm {T : String} {r : V → List V → Hp → VK → Prop} (k : ta σ H fun x H1 => tyV K T x H1 ∧ t σ H1 fun xs H2 => r x xs H2 Q) : tBM K T r ta t σ H Q := k
theorem r_tyL {R : Prop} (h : SqL K H p xs) (k : R) : tyV K "list" (.ref p) H ∧ R := ⟨.inl ⟨rfl, _, h⟩, k⟩
theorem r_app {y : V} (h : H l = some (.lst xs)) (n : xs.length ≤ 100000) (k : ∀ H1, Kp l H H1 → H1 l = some (.lst (xs ++ [y])) → Q .non H1) : rAppend (.ref l) [y] H Q :=
  ⟨l, xs, y, rfl, rfl, h, len_lt n, k _ Kp.upd upd_same⟩
theorem r_sl {r : V → Option Int → Option Int → Hp → VK → Prop} (k : te σ H fun x H1 => tl σ H1 fun l H2 => th σ H2 fun u H3 => r x l u H3 Q) : tSl r te tl th σ H Q := k
theorem r_noP {R : Option Int → Hp → Prop} (k : R none H) : tNoPart σ H R := k
theorem r_part {R : Option Int → Hp → Prop} (k : te σ H fun x H1 => ∃ i, x = .int i ∧ R (some i) H1) : tPart te σ H R := k
theorem r_partI {i : Int} {R : Int → Prop} (k : R i) : ∃ j, V.int i = .int j ∧ R j := ⟨i, rfl, k⟩
theorem r_slA {lo hi : Option Int} (h : H p = some (.tup xs)) (k : ∀ q H1, Ex H H1 → H1 q = some (.tup (cutV xs lo hi)) → Q (.ref q) H1) : rSlA K (.ref p) lo hi H Q :=
  ⟨p, xs, rfl, SqT.of h, fun w => k p H Ex.refl (by rw [cutV_whole w]; exact h), fun _ q hq => k q _ (Ex.new hq) upd_same⟩
theorem r_sl4 {a b c d e : V} (h : SqT K H p [a, b, c, d, e]) (k : ∀ q H1, H q = none → Ex H H1 → H1 q = some (.tup [a, b, c, d]) → Q (.ref q) H1) : rSlA K (.ref p) none (some 4) H Q :=
  ⟨p, _, rfl, h, fun w => absurd (show (4 : Nat) = 5 from w.2) (by decide), fun _ q hq => k q _ hq (Ex.new hq) upd_same⟩
theorem r_catA (h : H p = some (.tup xs)) (h2 : H q = some (.tup ys)) (n : xs.length + ys.length ≤ sizeLine) (k : ∀ l H1, Ex H H1 → H1 l = some (.tup (xs ++ ys)) → Q (.ref l) H1) : rCatA K (.ref p) (.ref q) H Q :=
  ⟨p, q, xs, ys, rfl, rfl, SqT.of h, SqT.of h2, n, fun e => k q H Ex.refl (by subst e; exact h2), fun _ e => k p H Ex.refl (by subst e; rw [List.append_nil]; exact h), fun _ _ l hl => k l _ (Ex.new hl) upd_same⟩
theorem r_catT {x y : V} {xs ys : List V} (h : SqT K H p (x :: xs)) (h2 : SqT K H q (y :: ys)) (n : (x :: xs).length + (y :: ys).length ≤ sizeLine) (k : ∀ l H1, H l = none → Ex H H1 → H1 l = some (.tup (x :: xs ++ y :: ys)) → Q (.ref l) H1) : rCatA K (.ref p) (.ref q) H Q :=
  ⟨p, q, x :: xs, y :: ys, rfl, rfl, h, h2, n, fun z => absurd z (List.cons_ne_nil _ _), fun _ z => absurd z (List.cons_ne_nil _ _), fun _ _ l hl => k l _ hl (Ex.new hl) upd_same⟩
theorem r_cat13 {x a b c : V} (h : SqT K H p [x]) (h2 : SqT K H q [a, b, c]) (k : ∀ l H1, H l = none → Ex H H1 → H1 l = some (.tup [x, a, b, c]) → Q (.ref l) H1) : rCatA K (.ref p) (.ref q) H Q :=
  r_catT h h2 (show 4 ≤ sizeLine by decide) k
theorem r_cat41 {x a b c y : V} (h : SqT K H p [x, a, b, c]) (h2 : SqT K H q [y]) (k : ∀ l H1, H l = none → Ex H H1 → H1 l = some (.tup [x, a, b, c, y]) → Q (.ref l) H1) : rCatA K (.ref p) (.ref q) H Q :=
  r_catT h h2 (show 5 ≤ sizeLine by decide) k
theorem r_slL {lo hi : Option Int} (h : H p = some (.lst xs)) (k : ∀ q H1, H q = none → Ex H H1 → H1 q = some (.lst (cutV xs lo hi)) → Q (.ref q) H1) : rSlL K (.ref p) lo hi H Q :=
  ⟨p, xs, rfl, SqL.of h, fun q hq => k q _ hq (Ex.new hq) upd_same⟩
theorem r_catL (h : H p = some (.lst xs)) (h2 : H q = some (.lst ys)) (n : xs.length + ys.length ≤ 100000) (k : ∀ l H1, H l = none → Ex H H1 → H1 l = some (.lst (xs ++ ys)) → Q (.ref l) H1) : rCat (.ref p) (.ref q) H Q :=
  ⟨p, q, xs, ys, rfl, rfl, h, h2, Nat.le_of_lt (len_lt n), fun l hl => k l _ hl (Ex.new hl) upd_same⟩
def rRev (K : PySem.W.Frag) (x : V) (H : Hp) (Q : VK) : Prop := ∃ a xs, x = .ref a ∧ SqL K H a xs ∧ ∀ p, H p = none → Q (.ref p) (upd H p (.lst xs.reverse))
theorem r_rev (k : te σ H fun x H1 => rRev K x H1 Q) : tRevL K te σ H Q := k
theorem r_revL (h : H p = some (.lst xs)) (k : ∀ q H1, H q = none → Ex H H1 → H1 q = some (.lst xs.reverse) → Q (.ref q) H1) : rRev K (.ref p) H Q :=
  ⟨p, xs, rfl, SqL.of h, fun q hq => k q _ hq (Ex.new hq) upd_same⟩
theorem ixN_in {n : Nat} {i : Int} (h0 : 0 ≤ i) (h1 : i < n) : ixN n i = some i.toNat := by
  unfold ixN
  rw [if_pos h0, if_pos h1]
theorem r_neT4 {a b c d a' b' c' d' : Int} (h : SqT K H p [.int a, .int b, .int c, .int d]) (h' : SqT K H q [.int a', .int b', .int c', .int d']) (k : Q (.bl (!decide ([a, b, c, d] = [a', b', c', d']))) H) : rNeD K (.ref p) (.ref q) H Q :=
  r_neD (.tup h (dp_ints [a, b, c, d])) (.tup h' (dp_ints [a', b', c', d'])) (shp_tup _) (shp_tup _) (by rw [eqvT]; exact k)
theorem r_notB {a b : Bool} (k : Q (.bl (!decide (a = b))) H) : rNotB (.bl a) (.bl b) H Q := ⟨a, b, rfl, rfl, k⟩
theorem r_isB {a b : Bool} (k : Q (.bl (decide (a = b))) H) : rIsB (.bl a) (.bl b) H Q := ⟨a, b, rfl, rfl, k⟩
end
/-! lists of rows compared -/
def rowD (r : List Int) : PyData := .tuple (r.map PyData.int)
theorem dp_rows {K : PySem.W.Frag} {H : Hp} : ∀ {vs : List V} {rs : List (List Int)}, RowsA H vs rs → DpAll K H vs (rs.map rowD)
  | [], [], _ => .nil
  | _ :: _, r :: _, ⟨⟨p, e, h⟩, g⟩ => by
    subst e
    exact .cons (.tup (SqT.of h) (dp_ints r)) (dp_rows g)
  | [], _ :: _, h => h.elim
  | _ :: _, [], h => h.elim
theorem lay_rows : ∀ rs : List (List Int), PyData.canLayAll0 (rs.map rowD) = true
  | [] => rfl
  | r :: rs => by
    show (PyData.canLay0 (rowD r) && PyData.canLayAll0 (rs.map rowD)) = true
    rw [lay_rows rs]
    show (PyData.canLay0 (.tuple (r.map PyData.int)) && true) = true
    unfold PyData.canLay0
    rw [lay_ints]
    rfl
theorem dep_rows : ∀ rs : List (List Int), PyData.depthAll (rs.map rowD) ≤ 2
  | [] => Nat.zero_le _
  | r :: rs => by
    show max (PyData.depth (rowD r)) (PyData.depthAll (rs.map rowD)) ≤ 2
    have h1 : PyData.depth (rowD r) ≤ 2 := by
      unfold rowD PyData.depth
      have := dep_ints r
      omega
    have := dep_rows rs
    omega
theorem shp_rows (rs : List (List Int)) : SeqAt.shaped (.list (rs.map rowD)) = true := by
  unfold SeqAt.shaped
  rw [Bool.and_eq_true]
  refine ⟨?_, decide_eq_true ?_⟩
  · unfold PyData.canLay0
    exact lay_rows rs
  · unfold PyData.depth
    have := dep_rows rs
    omega
theorem eqv_rows : ∀ xs ys : List (List Int), PyData.eqvAll (xs.map rowD) (ys.map rowD) = decide (xs = ys)
  | [], [] => by rw [decide_eq_true rfl]; rfl
  | [], y :: ys => by rw [decide_eq_false (by intro h; cases h)]; rfl
  | x :: xs, [] => by rw [decide_eq_false (by intro h; cases h)]; rfl
  | x :: xs, y :: ys => by
    show (PyData.eqv (rowD x) (rowD y) && PyData.eqvAll (xs.map rowD) (ys.map rowD)) = _
    rw [eqv_rows xs ys, show PyData.eqv (rowD x) (rowD y) = decide (x = y) from eqvT x y]
    by_cases h : x = y
    · subst h
      by_cases h2 : xs = ys
      · subst h2
        rw [decide_eq_true rfl, decide_eq_true rfl, decide_eq_true rfl]
        rfl
      · rw [decide_eq_false h2, decide_eq_false (fun z => h2 (List.cons.inj z).2), Bool.and_false]
    · rw [decide_eq_false h, decide_eq_false (fun z => h (List.cons.inj z).1), Bool.false_and]
theorem eqvR (xs ys : List (List Int)) : PyData.eqv (.list (xs.map rowD)) (.list (ys.map rowD)) = decide (xs = ys) := by
  unfold PyData.eqv
  exact eqv_rows xs ys
theorem r_neR {K : PySem.W.Frag} {H : Hp} {Q : VK} {p q : Addr} {xs ys : List (List Int)} (h : RwL H p xs) (h' : RwL H q ys) (k : Q (.bl (!decide (xs = ys))) H) : rNeD K (.ref p) (.ref q) H Q := by
  obtain ⟨vs, h1, h2⟩ := h
  obtain ⟨us, g1, g2⟩ := h'
  exact r_neD (.lst (SqL.of h1) (dp_rows h2)) (.lst (SqL.of g1) (dp_rows g2)) (shp_rows _) (shp_rows _) (by rw [eqvR]; exact k)
theorem r_eqR {K : PySem.W.Frag} {H : Hp} {Q : VK} {p q : Addr} {xs ys : List (List Int)} (h : RwL H p xs) (h' : RwL H q ys) (k : Q (.bl (decide (xs = ys))) H) : rEqD K (.ref p) (.ref q) H Q := by
  obtain ⟨vs, h1, h2⟩ := h
  obtain ⟨us, g1, g2⟩ := h'
  exact r_eqD (.lst (SqL.of h1) (dp_rows h2)) (.lst (SqL.of g1) (dp_rows g2)) (shp_rows _) (shp_rows _) (by rw [eqvR]; exact k)
/-- [e for v in a list], e pure, by places -/
theorem lc_lstI {K : PySem.W.Frag} {σ : L2.St} {H : Hp} {Q : VK} {te : TE} {a : Addr} {xs : List V} {j : Nat} {vs : List Nat} (f : Nat → V) (hx : SqL K H a xs) (hn : xs.length ≤ 100000) (hw : ∀ x, wipe ((wipe σ vs).set j (some x)) vs = wipe σ vs)
    (he : ∀ (i : Nat) x, xs[i]? = some x → PureE te ((wipe σ vs).set j (some x)) H (f i)) (k : ∀ p H1, H p = none → Ex H H1 → H1 p = some (.lst ((List.range xs.length).map f)) → Q (.ref p) H1) : LcB (Itl K a) (gName j) tYes te vs σ H Q := fun Dl hD => by
  refine lc_list (xs := xs) (fun i H' => Ex H H' ∧ H' Dl = some (.lst ((List.range i).map f))) ⟨Ex.new hD, upd_same⟩ (fun i H' _ p => sql_up p.1 hx) (fun i x H' hi p => ?_) (fun H' p => k Dl H' hD p.1 p.2)
  refine ⟨hw _, ?_⟩
  refine tYes_k ?_
  rw [if_pos rfl]
  have hl : i < xs.length := (List.getElem?_eq_some_iff.mp hi).1
  refine he i x hi H' p.1 _ fun H2 e2 => ⟨_, e2 _ _ p.2, ?_, ?_⟩
  · rw [List.length_map, List.length_range]
    exact len_lt (by omega)
  · refine ⟨fun a o ha => ?_, ?_⟩
    · rw [upd_ne (ne_of_none ha hD)]
      exact e2 _ _ (p.1 _ _ ha)
    · rw [upd_same, List.range_succ, List.map_append]
      rfl
def RowsZ (rs : List (List Int)) : Prop := ∀ r ∈ rs, ∃ n a b m s : Int, r = [n, a, b, m, s] ∧ 0 < m ∧ Sz 3300 n ∧ Sz 3300 a ∧ Sz 3300 b ∧ Sz 3300 m ∧ Sz 3300 s
theorem RowsZ.at {rs : List (List Int)} {i : Nat} {r : List Int} (h : RowsZ rs) (g : rs[i]? = some r) : ∃ n a b m s : Int, r = [n, a, b, m, s] ∧ 0 < m ∧ Sz 3300 n ∧ Sz 3300 a ∧ Sz 3300 b ∧ Sz 3300 m ∧ Sz 3300 s :=
  h r (List.mem_of_getElem? g)
def RowsY (rs : List (List Int)) : Prop := ∀ r ∈ rs, ∃ n a b m s : Int, r = [n, a, b, m, s] ∧ Sz 6900 n ∧ Sz 6900 a ∧ Sz 6900 b ∧ Sz 6900 m ∧ Sz 6900 s
theorem RowsY.at {rs : List (List Int)} {i : Nat} {r : List Int} (h : RowsY rs) (g : rs[i]? = some r) : ∃ n a b m s : Int, r = [n, a, b, m, s] ∧ Sz 6900 n ∧ Sz 6900 a ∧ Sz 6900 b ∧ Sz 6900 m ∧ Sz 6900 s :=
  h r (List.mem_of_getElem? g)
theorem RowsZ.y {rs : List (List Int)} (h : RowsZ rs) : RowsY rs := fun r hr => by
  obtain ⟨n, a, b, m, s, e, _, z1, z2, z3, z4, z5⟩ := h r hr
  exact ⟨n, a, b, m, s, e, z1.mono (by decide), z2.mono (by decide), z3.mono (by decide), z4.mono (by decide), z5.mono (by decide)⟩
theorem RowsZ.app {rs : List (List Int)} {n a b m s : Int} (h : RowsZ rs) (hm : 0 < m) (zn : Sz 3300 n) (za : Sz 3300 a) (zb : Sz 3300 b) (zm : Sz 3300 m) (zs : Sz 3300 s) : RowsZ (rs ++ [[n, a, b, m, s]]) := fun r hr => by
  rcases List.mem_append.mp hr with hr | hr
  · exact h r hr
  · rw [List.mem_singleton.mp hr]
    exact ⟨n, a, b, m, s, rfl, hm, zn, za, zb, zm, zs⟩
theorem Dr.lst {H : Hp} {d : Addr} (D : Dr H d) : ∃ xs, H d = some (.lst xs) := by
  obtain ⟨x, y, h, _⟩ := D
  exact ⟨_, h⟩
theorem Dr.kp {H H' : Hp} {d l : Addr} (D : Dr H d) (n : d ≠ l) (k : Kp l H H') : Dr H' d := by
  obtain ⟨x, y, h, r⟩ := D
  exact ⟨x, y, k _ _ n h, r⟩
/-- l fresh, then changed: all but d kept -/
theorem Kp.via {H H1 H2 : Hp} {d l : Addr} (k : Kp d H H1) (n : H l = none) (k2 : Kp l H1 H2) : Kp d H H2 := fun x o hx h => k2 x o (ne_of_none h n) (k x o hx h)
/-! the same within a comprehension -/
section
variable {X : Cx} {K : PySem.W.Frag}
theorem pg_tupK {es : List Expr} {k : Nat} {t : TGs} {n : Nat} {pos : Pos} (hc : X.calm = true) (h : PGs X es t) (hK : X.K = K := by rfl)
    (hn : (assignEach es X.env).length = n := by rfl) (hst : (assignEach es X.env).findIdx? (·.1) = none := by rfl) : PG X (.Tuple es k pos) (gTup K n t) := hK ▸ pg_tup hc h hn hst
theorem ix_listK (h : X.K = K := by rfl) : IxR X (rIxL K) := h ▸ ix_list
theorem ix_tupK (h : X.K = K := by rfl) : IxR X (rIxT K) := h ▸ ix_tup
theorem sl_tupAK (h : X.K = K := by rfl) : SlR X (rSlA K) := h ▸ sl_tupA
theorem sl_listK (h : X.K = K := by rfl) : SlR X (rSlL K) := h ▸ sl_list
theorem op_eqDK (hu : X.A.units + 64 < cLine) (h : X.K = K := by rfl) : OpR X (compareOp .Eq) (rEqD K) := h ▸ op_eqD hu
theorem op_neDK (hu : X.A.units + 64 < cLine) (h : X.K = K := by rfl) : OpR X (compareOp .NotEq) (rNeD K) := h ▸ op_neD hu
theorem op_in_seqK (h : X.K = K := by rfl) : OpR X (compareOp .In) (rIn K false) := h ▸ op_in_seq
theorem op_notIn_seqK (h : X.K = K := by rfl) : OpR X (compareOp .NotIn) (rIn K true) := h ▸ op_notIn_seq
theorem pi_listK {tg l : Expr} {tl : TE} (hl : PE X l tl) (h : X.K = K := by rfl) : PI X tg l (iList K tl) := h ▸ pi_list hl
theorem pi_tupK {tg l : Expr} {tl : TE} (hl : PE X l tl) (h : X.K = K := by rfl) : PI X tg l (iTup K tl) := h ▸ pi_tup hl
theorem cl_lenK (h : X.K = K := by rfl) : CallR X (.builtin "len") (rLen K) := h ▸ cl_len
theorem pe_bmK {o e : Expr} {es : List Expr} {to : TE} {t : TA} {name : Str} {apos cpos : Pos} {T id : String} {r : V → List V → Hp → VK → Prop} (pa : PlainAttrs T) (slot : Slot T name id) (hty : typeOf (.builtin id) = pure (.type "method_descriptor")) (hm : MtR X id r) (ho : PE X o to) (ha : PA X (e :: es) t)
    (h : X.K = K := by rfl)
    (hbase : attributeBase o name X.env (eval o X.env) = eval o X.env := by rfl)
    (hfew : ((backTo cpos (starEach (e :: es) X.env)).all (fun x => !x.1) && (backToKw cpos (keywordEach [] X.env)).all (fun x => x.1.isSome)
      && decide ((e :: es).length + ([] : List Keyword).length + (if ([] : List Keyword).isEmpty then 0 else 1) < 30)) = true := by rfl)
    (hline : (apos.endLine == cpos.line) = true := by rfl) (hs : starEach (e :: es) X.env = (false, eval e X.env) :: starEach es X.env := by rfl) (hplain : (backTo cpos (starEach es X.env)).any (·.1) = false := by rfl) :
    PE X (.Call (.Attribute o name apos) (e :: es) [] cpos) (tBM K T r to t) := h ▸ pe_bm pa slot hty hm ho ha hbase hfew hline hs hplain
end
/-- [.. for v in a tuple if t], t never -/
theorem lc_tupN {K : PySem.W.Frag} {σ : L2.St} {H : Hp} {Q : VK} {te : TE} {tt : TT} {a : Addr} {xs : List V} {j : Nat} {vs : List Nat} (hx : SqT K H a xs) (hw : ∀ x, wipe ((wipe σ vs).set j (some x)) vs = wipe σ vs)
    (ht : ∀ (i : Nat) x, xs[i]? = some x → PureT tt ((wipe σ vs).set j (some x)) H false) (k : ∀ p H1, H p = none → Ex H H1 → H1 p = some (.lst []) → Q (.ref p) H1) : LcB (Itt K a) (gName j) tt te vs σ H Q := fun Dl hD => by
  refine lc_tup (xs := xs) (fun i H' => Ex H H' ∧ H' Dl = some (.lst [])) ⟨Ex.new hD, upd_same⟩ (fun i H' _ p => sqt_up p.1 hx) (fun i x H' hi p => ?_) (fun H' p => k Dl H' hD p.1 p.2)
  refine ⟨hw _, ht i x hi H' p.1 _ fun H2 e2 => ?_⟩
  rw [if_neg Bool.false_ne_true]
  exact ⟨p.1.trans e2, e2 _ _ p.2⟩
theorem sz_n {n : Int} (h0 : 0 ≤ n) (h1 : n < 1000000000000000000000000000000) : Sz 110 n := by
  show n.natAbs < 2 ^ 110
  omega
/-- values that are rows of five numbers -/
def RY (k : Nat) (H : Hp) (vs : List V) : Prop := ∀ v ∈ vs, ∃ (p : Addr) (n a b m s : Int), v = .ref p ∧ H p = some (.tup [.int n, .int a, .int b, .int m, .int s]) ∧ Sz k n ∧ Sz k a ∧ Sz k b ∧ Sz k m ∧ Sz k s
theorem RY.imp {k : Nat} {H H' : Hp} {vs : List V} (h : RY k H vs) (f : ∀ (p : Addr) (xs : List V), H p = some (.tup xs) → H' p = some (.tup xs)) : RY k H' vs := fun v hv => by
  obtain ⟨p, n, a, b, m, s, e, hp, z⟩ := h v hv
  exact ⟨p, n, a, b, m, s, e, f _ _ hp, z⟩
theorem RY.ex {k : Nat} {H H' : Hp} {vs : List V} (h : RY k H vs) (e : Ex H H') : RY k H' vs := h.imp fun p _ q => e p _ q
theorem RY.kp {k : Nat} {H H' : Hp} {d : Addr} {vs : List V} (h : RY k H vs) (kp : Kp d H H') (D : Dr H d) : RY k H' vs := h.imp fun _ _ q => kp.tup D q
theorem RY.kpL {k : Nat} {H H' : Hp} {d : Addr} {vs ys : List V} (h : RY k H vs) (kp : Kp d H H') (D : H d = some (.lst ys)) : RY k H' vs := h.imp fun _ _ q => kp.tupL D q
theorem RY.sub {k : Nat} {H : Hp} {vs us : List V} (h : RY k H vs) (f : ∀ v ∈ us, v ∈ vs) : RY k H us := fun v hv => h v (f v hv)
theorem RY.app {k : Nat} {H : Hp} {vs us : List V} (h : RY k H vs) (h' : RY k H us) : RY k H (vs ++ us) := fun v hv => (List.mem_append.mp hv).elim (h v) (h' v)
theorem RY.rows {H : Hp} : ∀ {vs : List V}, RY 6900 H vs → ∃ rs, RowsA H vs rs ∧ RowsY rs
  | [], _ => ⟨[], trivial, fun _ h => by cases h⟩
  | v :: vs, h => by
    obtain ⟨rs, h1, h2⟩ := RY.rows (H := H) (vs := vs) fun u hu => h u (List.mem_cons_of_mem _ hu)
    obtain ⟨p, n, a, b, m, s, e, hp, z⟩ := h v (List.mem_cons_self ..)
    refine ⟨[n, a, b, m, s] :: rs, ⟨⟨p, e, hp⟩, h1⟩, fun r hr => ?_⟩
    rcases List.mem_cons.mp hr with hr | hr
    · exact ⟨n, a, b, m, s, hr, z⟩
    · exact h2 r hr
theorem RowsA.ry {H : Hp} : ∀ {vs : List V} {rs : List (List Int)}, RowsA H vs rs → RowsZ rs → RY 3300 H vs
  | [], [], _, _ => fun _ h => by cases h
  | v :: vs, r :: rs, ⟨⟨p, e, hp⟩, h⟩, z => fun u hu => by
    rcases List.mem_cons.mp hu with hu | hu
    · obtain ⟨n, a, b, m, s, er, _, z'⟩ := z r (List.mem_cons_self ..)
      subst er
      exact ⟨p, n, a, b, m, s, hu.trans e, hp, z'⟩
    · exact RowsA.ry h (fun r hr => z r (List.mem_cons_of_mem _ hr)) u hu
  | [], _ :: _, h, _ => h.elim
  | _ :: _, [], h, _ => h.elim
theorem RY.mono {k j : Nat} {H : Hp} {vs : List V} (h : RY k H vs) (l : k ≤ j) : RY j H vs := fun v hv => by
  obtain ⟨p, n, a, b, m, s, e, hp, z1, z2, z3, z4, z5⟩ := h v hv
  exact ⟨p, n, a, b, m, s, e, hp, z1.mono l, z2.mono l, z3.mono l, z4.mono l, z5.mono l⟩
/-- a paper by a value -/
def PpV (H : Hp) (d : Addr) (v : V) : Prop := ∃ (l : Addr) (vs : List V), v = .ref l ∧ l ≠ d ∧ H l = some (.lst vs) ∧ RY 6900 H vs ∧ vs.length ≤ 6000
theorem PpV.ex {H H' : Hp} {d : Addr} {v : V} (h : PpV H d v) (e : Ex H H') : PpV H' d v := by
  obtain ⟨l, vs, e1, n, h1, h2, h3⟩ := h
  exact ⟨l, vs, e1, n, e _ _ h1, h2.ex e, h3⟩
theorem PpV.kp {H H' : Hp} {d : Addr} {v : V} (h : PpV H d v) (k : Kp d H H') (D : Dr H d) : PpV H' d v := by
  obtain ⟨l, vs, e1, n, h1, h2, h3⟩ := h
  exact ⟨l, vs, e1, n, k _ _ n h1, h2.kp k D, h3⟩
theorem PpV.kpL {H H' : Hp} {d q : Addr} {v : V} {ys : List V} (h : PpV H d v) (k : Kp q H H') (D : H q = some (.lst ys)) (n : v ≠ .ref q) : PpV H' d v := by
  obtain ⟨l, vs, e1, nd, h1, h2, h3⟩ := h
  exact ⟨l, vs, e1, nd, k _ _ (fun z => n (by rw [e1, z])) h1, h2.kpL k D, h3⟩
theorem r_sum {K : PySem.W.Frag} {H : Hp} {Q : VK} {p : Addr} {ns : List Int} (h : SqL K H p (ns.map V.int)) (k : Q (.int ns.sum) H) : rSum K [.ref p] H Q := ⟨p, ns, rfl, h, k⟩
theorem r_tyS {K : PySem.W.Frag} {H : Hp} {z : Str} {R : Prop} (k : R) : tyV K "str" (.str z) H ∧ R := ⟨rfl, k⟩
/-- sep.join(a list of texts) -/
def rJoin (K : PySem.W.Frag) : V → List V → Hp → VK → Prop := fun x xs H Q => ∃ a p, ∃ ys : List Str, x = .str a ∧ xs = [.ref p] ∧ (SqL K H p (ys.map V.str) ∨ SqT K H p (ys.map V.str)) ∧ (ys.map (·.length)).sum + ys.length * a.length ≤ 16777216 ∧ Q (.str (Txt.join a ys)) H
theorem mt_joinR {X : Cx} : MtR X "str.join" (rJoin X.K) := mt_join
theorem mt_joinRK {X : Cx} {K : PySem.W.Frag} (h : X.K = K := by rfl) : MtR X "str.join" (rJoin K) := h ▸ mt_joinR
theorem r_join {K : PySem.W.Frag} {H : Hp} {Q : VK} {a : Str} {p : Addr} {ys : List Str} (h : SqL K H p (ys.map V.str)) (n : (ys.map (·.length)).sum + ys.length * a.length ≤ 16777216) (k : Q (.str (Txt.join a ys)) H) : rJoin K (.str a) [.ref p] H Q := ⟨a, p, ys, rfl, rfl, .inl h, n, k⟩
theorem r_iZip {K : PySem.W.Frag} {ta : TA} {σ : L2.St} {H : Hp} {R : It → Hp → Prop} (k : ta σ H fun vs H1 => ∃ a b xs ys, vs = [.ref a, .ref b] ∧ SqL K H1 a xs ∧ SqL K H1 b ys ∧ R (Itz K a b) H1) : iZip K ta σ H R := k
/-- [e for x, y in zip(two lists of whole numbers)] -/
theorem lc_zipI {K : PySem.W.Frag} {σ : L2.St} {H : Hp} {Q : VK} {te : TE} {a b : Addr} {xs ys : List Int} {j1 j2 : Nat} {vs : List Nat} (f : Int → Int → V) (ha : SqL K H a (xs.map V.int)) (hb : SqL K H b (ys.map V.int)) (hn : xs.length ≤ 100000)
    (hw : ∀ x y, wipe (((wipe σ vs).set j1 (some x)).set j2 (some y)) vs = wipe σ vs)
    (he : ∀ (i : Nat) x y, xs[i]? = some x → ys[i]? = some y → PureE te (((wipe σ vs).set j1 (some (.int x))).set j2 (some (.int y))) H (f x y))
    (k : ∀ p H1, H p = none → Ex H H1 → H1 p = some (.lst ((xs.zip ys).map fun q => f q.1 q.2)) → Q (.ref p) H1) : LcB (Itz K a b) (gTup K 2 (gCons (gName j1) (gCons (gName j2) gNil))) tYes te vs σ H Q := fun Dl hD => by
  have lz : (xs.zip ys).length = min xs.length ys.length := List.length_zip
  refine ⟨fun i m H' => m = (xs.zip ys).length - i ∧ i ≤ (xs.zip ys).length ∧ Ex H H' ∧ H' Dl = some (.lst (((xs.zip ys).take i).map fun q => f q.1 q.2)), ⟨_, rfl, Nat.zero_le _, Ex.new hD, by rw [upd_same]; rfl⟩, ?_⟩
  rintro i m H' ⟨rfl, hi, e, hd⟩
  by_cases hx : i = (xs.zip ys).length
  · subst hx
    refine .inl ⟨⟨_, _, sql_up e ha, sql_up e hb, by rw [List.length_map, List.length_map]; omega⟩, ?_⟩
    rw [List.take_length] at hd
    exact k Dl H' hD e hd
  · have h1 : i < xs.length := by omega
    have h2 : i < ys.length := by omega
    have g1 : (xs.map V.int)[i]? = some (.int xs[i]) := by rw [List.getElem?_map, List.getElem?_eq_getElem h1]; rfl
    have g2 : (ys.map V.int)[i]? = some (.int ys[i]) := by rw [List.getElem?_map, List.getElem?_eq_getElem h2]; rfl
    have gz : (xs.zip ys)[i]? = some (xs[i], ys[i]) := by
      rw [List.getElem?_eq_getElem (by omega), List.getElem_zip]
    refine .inr ⟨⟨_, _, _, _, sql_up e ha, sql_up e hb, g1, g2⟩, fun H3 => Ex H H3 ∧ H3 Dl = some (.lst (((xs.zip ys).take (i + 1)).map fun q => f q.1 q.2)), fun H3 p => ⟨(xs.zip ys).length - (i + 1), by omega, rfl, by omega, p⟩, ?_⟩
    rintro x H2 ⟨T, x1, y1, rfl, hT, rfl, q1, q2⟩
    have e1 : x1 = .int xs[i] := Option.some.inj ((q1 _ (sql_up e ha)).symm.trans g1)
    have e2 : y1 = .int ys[i] := Option.some.inj ((q2 _ (sql_up e hb)).symm.trans g2)
    subst e1 e2
    refine ⟨T, _, rfl, SqT.of upd_same, rfl, _, _, rfl, _, _, rfl, rfl, hw _ _, ?_⟩
    have eT : Ex H' (upd H' T (.tup [.int xs[i], .int ys[i]])) := Ex.new hT
    refine tYes_k ?_
    rw [if_pos rfl]
    refine he i xs[i] ys[i] (List.getElem?_eq_getElem h1) (List.getElem?_eq_getElem h2) _ (e.trans eT) _ fun H4 e4 => ⟨_, e4 _ _ (eT _ _ hd), ?_, ?_⟩
    · rw [List.length_map, List.length_take]
      exact len_lt (by omega)
    · refine ⟨fun a o ho => ?_, ?_⟩
      · rw [upd_ne (ne_of_none ho hD)]
        exact e4 _ _ (eT _ _ (e _ _ ho))
      · rw [upd_same, List.take_add_one, gz, List.map_append]
        rfl
theorem cut_1 (xs : List V) (h : 1 ≤ xs.length) : cutV xs (some 1) none = xs.drop 1 := by
  have e1 : HT.sIx xs.length 0 (some 1) = 1 := by
    unfold HT.sIx
    simp
    omega
  have e2 : HT.sIx xs.length xs.length none = xs.length := rfl
  unfold cutV
  rw [e1, e2, List.take_of_length_le (by rw [List.length_drop]; omega)]
/-- [e for x in a list of whole numbers if t] -/
theorem lc_lstFI {K : PySem.W.Frag} {σ : L2.St} {H : Hp} {Q : VK} {te : TE} {tt : TT} {a : Addr} {ns : List Int} {j : Nat} {vs : List Nat} (c : Int → Bool) (f : Int → V) (hx : SqL K H a (ns.map V.int)) (hn : ns.length ≤ 100000) (hw : ∀ x, wipe ((wipe σ vs).set j (some x)) vs = wipe σ vs)
    (ht : ∀ x ∈ ns, PureT tt ((wipe σ vs).set j (some (.int x))) H (c x)) (he : ∀ x ∈ ns, c x = true → PureE te ((wipe σ vs).set j (some (.int x))) H (f x))
    (k : ∀ p H1, H p = none → Ex H H1 → H1 p = some (.lst ((ns.filter c).map f)) → Q (.ref p) H1) : LcB (Itl K a) (gName j) tt te vs σ H Q := fun Dl hD => by
  refine lc_list (xs := ns.map V.int) (fun i H' => Ex H H' ∧ H' Dl = some (.lst (((ns.take i).filter c).map f))) ⟨Ex.new hD, upd_same⟩ (fun i H' _ p => sql_up p.1 hx) (fun i x H' hi p => ?_) (fun H' p => k Dl H' hD p.1 (by rw [p.2, List.length_map, List.take_length]))
  rw [List.getElem?_map] at hi
  obtain ⟨z, hz, rfl⟩ := Option.map_eq_some_iff.mp hi
  have mem := List.mem_of_getElem? hz
  have tk : ns.take (i + 1) = ns.take i ++ [z] := by rw [List.take_add_one, hz]; rfl
  refine ⟨hw _, ht z mem H' p.1 _ fun H2 e2 => ?_⟩
  cases hc : c z with
  | true =>
    rw [if_pos rfl]
    refine he z mem hc H2 (p.1.trans e2) _ fun H3 e3 => ⟨_, e3 _ _ (e2 _ _ p.2), ?_, ?_⟩
    · rw [List.length_map]
      have := List.length_filter_le c (ns.take i)
      rw [List.length_take] at this
      exact len_lt (by omega)
    · refine ⟨fun b o hb => ?_, ?_⟩
      · rw [upd_ne (ne_of_none hb hD)]
        exact e3 _ _ (e2 _ _ (p.1 _ _ hb))
      · rw [upd_same, tk, List.filter_append, List.map_append]
        simp [hc]
  | false =>
    rw [if_neg Bool.false_ne_true]
    refine ⟨p.1.trans e2, ?_⟩
    rw [tk, List.filter_append, List.map_append]
    simp [hc, e2 _ _ p.2]
/-! ### a def that calls itself: one frame a turn -/
structure RmD (j : Nat) (A : Around) : Prop where
  hd : A.handled = none
  dp : A.depth + j + 20 < recursionLimit
  un : A.units + 3 * j + 300 < cLine
theorem RmD.room {j : Nat} {A : Around} (r : RmD j A) : Room 5 A := ⟨r.hd, by have := r.dp; omega, by have := r.un; omega⟩
theorem RmD.deeper {j : Nat} {A : Around} (r : RmD (j + 1) A) (env : Env) : RmD j (A.deeper env) :=
  ⟨r.hd, by have := r.dp; show A.depth + 1 + j + 20 < _; omega, by have := r.un; show A.units + 3 + 3 * j + 300 < _; omega⟩
theorem RmD.of {k j : Nat} {A : Around} (r : Room k A) (h : j + 40 ≤ 3 * k) : RmD j A := ⟨r.hd, by have := r.dp; omega, by have := r.un; omega⟩
/-- the def named x keeps the promise sp where there is room for j turns -/
def HasD (P : Program) (w : World) (K : PySem.W.Frag) (mg : Str → Option Value) (base : Heap) (j : Nat) (x : Str) (ps : List Str) (sp : Sp) : Prop :=
  ∃ f fd, mg x = some (.ref f) ∧ PySem.W.keepIn K (.ref f) = true ∧ Binds K fd ps [] ∧ (∀ vs H Q E, sp vs H Q E → vs.length = ps.length) ∧
    ∀ (A : Around) (outer : List Env) (s : Shared) (H : Hp) (args : Args) (us : List Value) (vs : List V) (Q : VK) (E : XK), RmD j A → Env0 P w K mg base A outer s H → BindsTo s fd args (ps.zip us) → Vals vs us → sp vs H Q E →
      codeAny (model P w) A (.call (.ref f) args) (CR CX0 outer P w H s Q E) s
section
variable {P : Program} {w : World} {K : PySem.W.Frag} {mg : Str → Option Value} {base : Heap}
theorem DefAt.okD {x : Str} {st : Stmt} {N ps : List Str} {j : Nat} {sp : Sp} (D : DefAt K mg x st ps) (S : FnScope N ps (defScope st)) (len : ∀ vs H Q E, sp vs H Q E → vs.length = ps.length)
    (hbody : ∀ (f : Addr) (cdv : Value) (A : Around) (outer : List Env) (s : Shared) (H : Hp) (vs : List V) (Q : VK) (E : XK), RmD j (A.deeper (envOfC x (defScope st) s.heap.objs.size f cdv)) → sp vs H Q E →
      ∃ t, PSs (cxOf CX0 P w K mg base N x (defScope st) f cdv A outer s H E).nox (defBody st) t ∧ t { nx := fun _ H' => Q .non H', rt := Q } (start N vs) H) : HasD P w K mg base (j + 1) x ps sp := by
  obtain ⟨f, fd, F, m, b⟩ := D
  refine ⟨f, fd, m, F.kp, b, len, fun A outer s H args us vs Q E rm e0 hb rv hs => ?_⟩
  obtain ⟨_, _, _, _, _, _, cdv, _, _, rfl, lk, cd⟩ := F.ex
  have grown : ∀ (a : Addr) (o : Obj), base.get? a = some o → s.heap.get? a = some o := fun a o h => (e0.bs a o h).1
  have locals : ∀ y ∈ ps.zip us, (defScope st).names.lookup y.1 = some .local ∨ ((defScope st).names.lookup y.1 = some .cell ∧ ((cellsFrom (s.heap.objs.size + 1) (defScope st).names []).lookup y.1).isSome = true) := by
    rintro ⟨y, u⟩ hy
    exact (S.par y (List.of_mem_zip hy).1).imp id fun c => ⟨c, PySem.W.cellsFrom_some _ _ _ (.inl c)⟩
  refine codeAny_call_function (by have := rm.dp; omega) (e0.mod.kin.keeps grown _ _ lk) rfl S.co S.gen rfl (PySem.W.codeRec_of (e0.mod.kin.keeps grown) cd) (hb _ _ _ _ ?_)
  refine wpAny_newFunctionEnv_cells S.kind locals ?_
  rintro env rfl s1 ic
  refine ⟨(e0.mod.nolimit.keeps grown).keeps ic.toInCall.keep, codeAny_func ?_⟩
  obtain ⟨t, ht, hq⟩ := hbody f cdv A outer s H vs Q E (rm.deeper _) hs
  refine wpAny_mono (ht.nox.run [] s1 (start N vs) H _ (inv_start S rm.hd e0 (len _ _ _ _ hs) rv ic) hq) (fun fl s' h => ?_) fun _ _ h => h
  cases fl with
  | ret u =>
    obtain ⟨v, _, H', J, r, q⟩ := h
    exact ⟨v, H', J.os, J.bare, J.base, J.hok, r, q⟩
  | next =>
    obtain ⟨_, H', J, q⟩ := h
    exact ⟨.non, H', J.os, J.bare, J.base, J.hok, rfl, q⟩
  | brk =>
    obtain ⟨_, _, _, q⟩ := h
    exact q.elim
  | cont =>
    obtain ⟨_, _, _, q⟩ := h
    exact q.elim
/-- nothing is promised of what never is -/
theorem DefAt.none {x : Str} {st : Stmt} {ps : List Str} {j : Nat} {sp : Sp} (D : DefAt K mg x st ps) (no : ∀ vs H Q E, ¬ sp vs H Q E) : HasD P w K mg base j x ps sp := by
  obtain ⟨f, fd, F, m, b⟩ := D
  exact ⟨f, fd, m, F.kp, b, fun _ _ _ _ h => (no _ _ _ _ h).elim, fun _ _ _ _ _ _ _ _ _ _ _ _ _ h => (no _ _ _ _ h).elim⟩
theorem HasD.has {x : Str} {ps : List Str} {j k : Nat} {sp : Sp} (G : HasD P w K mg base j x ps sp) (h : j + 40 ≤ 3 * k) : Has P w K mg base CX0 k x ps sp := by
  obtain ⟨f, fd, m, kp, b, len, r⟩ := G
  exact ⟨f, fd, m, kp, b, len, fun A outer s H args us vs Q E hr => r A outer s H args us vs Q E (.of hr h)⟩
end
section
variable {X : Cx} {x : Str} {p pos : Pos} {e : Expr} {es : List Expr} {t : TA} {j : Nat} {ps : List Str} {sp : Sp}
/-- f(e, ..), f itself -/
theorem pcallD (G : HasD X.prog X.w X.K X.mg X.base j x ps sp) (rm : RmD j X.A) (ha : PA X (e :: es) t) (hg : Gl X x := by rfl)
    (hdb : (x == ("__debug__" : Str)) = false := by decide) (he : starEach (e :: es) X.env = (false, eval e X.env) :: starEach es X.env := by rfl) (hpl : (backTo pos (starEach es X.env)).any (·.1) = false := by rfl) :
    PE X (.Call (.Name x p) (e :: es) [] pos) (tCal sp E0 t) := by
  obtain ⟨f, fd, m, kp, b, len, run⟩ := G
  refine ⟨fun pins s σ H Q I h => wpAny_Call_Name_kw (ld_glob I hg m ?_ hdb)⟩
  have h' : t σ H fun vs H1 => sp vs H1 Q E0 := h
  refine PySem.W.callWith_K (h₀ := X.base) I.ok.mod.kin kp (thn (ha.run pos pins s σ H _ I h') fun us s1 ⟨vs, H1, I1, rv, q⟩ => ⟨I1.kIn, ?_⟩) he hpl
  have hu : us.length = ps.length := by rw [← rv.length]; exact len _ _ _ _ q
  have hb := b s1 us I1.kIn (by rw [List.append_nil]; exact hu)
  rw [List.append_nil] at hb
  refine wpAny_call (codeAny_mono (run X.A X.stack s1 H1 ⟨us, []⟩ us vs Q E0 rm I1.env0 hb rv q) fun r s2 hr => ?_)
  match r, hr with
  | .error err, hr => exact pass0 pins σ H1 s1 err s2 I1 hr
  | .ok (.ret u), hr => exact I1.after hr
  | .ok .next, hr => exact hr.elim
  | .ok .brk, hr => exact hr.elim
  | .ok .cont, hr => exact hr.elim
end
/-- a tuple of the module -/
def TupC (K : PySem.W.Frag) (mg : Str → Option Value) (x : Str) (a : Addr) (xs : List V) : Prop := mg x = some (.ref a) ∧ ∀ H, SqT K H a xs
theorem sqt_k {K : PySem.W.Frag} {H : Hp} {a : Addr} {xs : List V} {od : Option Addr} {it : Array Value} {n : Nat} {sl : Array (Option Value)} (L : K.lookup a = some ⟨.type "tuple", od, .seq it n, sl⟩) (v : Vals xs it.toList) (z : it.size ≤ sizeLine) : SqT K H a xs := .inr ⟨_, it, n, L, rfl, rfl, z, v⟩
def rTupOf (K : PySem.W.Frag) : List V → Hp → VK → Prop := fun xs H Q => ∃ p ys, xs = [.ref p] ∧ ((SqL K H p ys ∧ ∀ l, H l = none → Q (.ref l) (upd H l (.tup ys))) ∨ (SqT K H p ys ∧ Q (.ref p) H))
theorem cl_tupOf {X : Cx} : CallR X (.type "tuple") (rTupOf X.K) := call_tuple_of
theorem cl_tupOfK {X : Cx} {K : PySem.W.Frag} (h : X.K = K := by rfl) : CallR X (.type "tuple") (rTupOf K) := h ▸ cl_tupOf
theorem r_tupL {K : PySem.W.Frag} {H : Hp} {Q : VK} {p : Addr} {ys : List V} (h : SqL K H p ys) (k : ∀ l H1, H l = none → Ex H H1 → H1 l = some (.tup ys) → Q (.ref l) H1) : rTupOf K [.ref p] H Q :=
  ⟨p, ys, rfl, .inl ⟨h, fun l n => k l _ n (Ex.new n) upd_same⟩⟩
def ZipAs (K : PySem.W.Frag) (R : It → Hp → Prop) (vs : List V) (H1 : Hp) : Prop := ∃ a b xs ys, vs = [.ref a, .ref b] ∧ ((SqL K H1 a xs ∧ SqL K H1 b ys ∧ R (Itz K a b) H1) ∨ (SqT K H1 a xs ∧ SqT K H1 b ys ∧ R (RZ.ItzT K a b) H1))
theorem r_zipT {K : PySem.W.Frag} {H : Hp} {R : It → Hp → Prop} {a b : Addr} {xs ys : List V} (ha : SqT K H a xs) (hb : SqT K H b ys) (k : R (RZ.ItzT K a b) H) : ZipAs K R [.ref a, .ref b] H := ⟨a, b, xs, ys, rfl, .inr ⟨ha, hb, k⟩⟩
theorem r_iZipA {K : PySem.W.Frag} {ta : TA} {σ : L2.St} {H : Hp} {R : It → Hp → Prop} (k : ta σ H fun vs H1 => ZipAs K R vs H1) : RZ.iZipA K ta σ H R := k
/-- [e for x, y in zip(two tuples of whole numbers)] -/
theorem lc_zipT {K : PySem.W.Frag} {σ : L2.St} {H : Hp} {Q : VK} {te : TE} {a b : Addr} {xs ys : List Int} {j1 j2 : Nat} {vs : List Nat} (f : Int → Int → V) (ha : SqT K H a (xs.map V.int)) (hb : SqT K H b (ys.map V.int)) (hn : xs.length ≤ 100000)
    (hw : ∀ x y, wipe (((wipe σ vs).set j1 (some x)).set j2 (some y)) vs = wipe σ vs)
    (he : ∀ (i : Nat) x y, xs[i]? = some x → ys[i]? = some y → PureE te (((wipe σ vs).set j1 (some (.int x))).set j2 (some (.int y))) H (f x y))
    (k : ∀ p H1, H p = none → Ex H H1 → H1 p = some (.lst ((xs.zip ys).map fun q => f q.1 q.2)) → Q (.ref p) H1) : LcB (RZ.ItzT K a b) (gTup K 2 (gCons (gName j1) (gCons (gName j2) gNil))) tYes te vs σ H Q := fun Dl hD => by
  have lz : (xs.zip ys).length = min xs.length ys.length := List.length_zip
  refine ⟨fun i m H' => m = (xs.zip ys).length - i ∧ i ≤ (xs.zip ys).length ∧ Ex H H' ∧ H' Dl = some (.lst (((xs.zip ys).take i).map fun q => f q.1 q.2)), ⟨_, rfl, Nat.zero_le _, Ex.new hD, by rw [upd_same]; rfl⟩, ?_⟩
  rintro i m H' ⟨rfl, hi, e, hd⟩
  by_cases hx : i = (xs.zip ys).length
  · subst hx
    refine .inl ⟨⟨_, _, sqt_up e ha, sqt_up e hb, by rw [List.length_map, List.length_map]; omega⟩, ?_⟩
    rw [List.take_length] at hd
    exact k Dl H' hD e hd
  · have h1 : i < xs.length := by omega
    have h2 : i < ys.length := by omega
    have g1 : (xs.map V.int)[i]? = some (.int xs[i]) := by rw [List.getElem?_map, List.getElem?_eq_getElem h1]; rfl
    have g2 : (ys.map V.int)[i]? = some (.int ys[i]) := by rw [List.getElem?_map, List.getElem?_eq_getElem h2]; rfl
    have gz : (xs.zip ys)[i]? = some (xs[i], ys[i]) := by
      rw [List.getElem?_eq_getElem (by omega), List.getElem_zip]
    refine .inr ⟨⟨_, _, _, _, sqt_up e ha, sqt_up e hb, g1, g2⟩, fun H3 => Ex H H3 ∧ H3 Dl = some (.lst (((xs.zip ys).take (i + 1)).map fun q => f q.1 q.2)), fun H3 p => ⟨(xs.zip ys).length - (i + 1), by omega, rfl, by omega, p⟩, ?_⟩
    rintro x H2 ⟨T, x1, y1, rfl, hT, rfl, q1, q2⟩
    have e1 : x1 = .int xs[i] := Option.some.inj ((q1 _ (sqt_up e ha)).symm.trans g1)
    have e2 : y1 = .int ys[i] := Option.some.inj ((q2 _ (sqt_up e hb)).symm.trans g2)
    subst e1 e2
    refine ⟨T, _, rfl, SqT.of upd_same, rfl, _, _, rfl, _, _, rfl, rfl, hw _ _, ?_⟩
    have eT : Ex H' (upd H' T (.tup [.int xs[i], .int ys[i]])) := Ex.new hT
    refine tYes_k ?_
    rw [if_pos rfl]
    refine he i xs[i] ys[i] (List.getElem?_eq_getElem h1) (List.getElem?_eq_getElem h2) _ (e.trans eT) _ fun H4 e4 => ⟨_, e4 _ _ (eT _ _ hd), ?_, ?_⟩
    · rw [List.length_map, List.length_take]
      exact len_lt (by omega)
    · refine ⟨fun a o ho => ?_, ?_⟩
      · rw [upd_ne (ne_of_none ho hD)]
        exact e4 _ _ (eT _ _ (e _ _ ho))
      · rw [upd_same, List.take_add_one, gz, List.map_append]
        rfl
theorem r_neT2 {K : PySem.W.Frag} {H : Hp} {Q : VK} {p q : Addr} {a b a' b' : Int} (h : H p = some (.tup [.int a, .int b])) (h' : H q = some (.tup [.int a', .int b'])) (k : Q (.bl (!decide ([a, b] = [a', b']))) H) : rNeD K (.ref p) (.ref q) H Q :=
  r_neD (.tup (SqT.of h) (dp_ints [a, b])) (.tup (SqT.of h') (dp_ints [a', b'])) (shp_tup _) (shp_tup _) (by rw [eqvT]; exact k)
theorem r_eqT2 {K : PySem.W.Frag} {H : Hp} {Q : VK} {p q : Addr} {a b a' b' : Int} (h : H p = some (.tup [.int a, .int b])) (h' : H q = some (.tup [.int a', .int b'])) (k : Q (.bl (decide ([a, b] = [a', b']))) H) : rEqD K (.ref p) (.ref q) H Q :=
  r_eqD (.tup (SqT.of h) (dp_ints [a, b])) (.tup (SqT.of h') (dp_ints [a', b'])) (shp_tup _) (shp_tup _) (by rw [eqvT]; exact k)
/-- a comprehension within a comprehension -/
theorem blkN {N : List Str} {q : Str} {sc scope0 scope : Scope} {n f : Addr} {cd : Value} {own : List (Str × Nat)} (h : blkC N (relabel scope0 (envOfC "" sc 0 0 .none)) scope own = true) : BlkOk N (relabel scope0 (envOfC q sc n f cd)) scope own := blkOk_by (sc := relabel scope0 (envOfC "" sc 0 0 .none)) h
/-! ### classes -/
def NAs (K : PySem.W.Frag) (C : Addr) : List Str → Prop
  | [] => True
  | f :: fs => NoAttr K C f ∧ NAs K C fs
/-- the class x of the module, objects of it with the attributes fs -/
structure TxC (K : PySem.W.Frag) (mg : Str → Option Value) (x : Str) (C : Addr) (fs : List Str) : Prop where
  cl : Cls K C
  g : mg x = some (.ref C)
  na : NAs K C fs
def MetAt (K : PySem.W.Frag) (C : Addr) (m q : Str) (st : Stmt) (ps : List Str) : Prop := ∃ f fd, Fun K m q st f fd ∧ Meth K C m f ∧ Binds K fd ps []
def IniAt (K : PySem.W.Frag) (C : Addr) (q : Str) (st : Stmt) (ps : List Str) : Prop := ∃ f fd, Fun K "__init__" q st f fd ∧ Mk K C f ∧ Binds K fd ps []
def HasM (P : Program) (w : World) (K : PySem.W.Frag) (mg : Str → Option Value) (base : Heap) (CX : CXT) (k : Nat) (C : Addr) (m : Str) (ps : List Str) (sp : Sp) : Prop := ∃ f fd, Meth K C m f ∧ Binds K fd ps [] ∧ FnOk P w K mg base CX k f fd ps sp
def HasI (P : Program) (w : World) (K : PySem.W.Frag) (mg : Str → Option Value) (base : Heap) (CX : CXT) (k : Nat) (C : Addr) (ps : List Str) (sp : Sp) : Prop := ∃ f fd, Mk K C f ∧ Binds K fd ps [] ∧ FnOk P w K mg base CX k f fd ps sp
section
variable {P : Program} {w : World} {K : PySem.W.Frag} {mg : Str → Option Value} {base : Heap}
theorem met_mk {C : Addr} {m q : Str} {st : Stmt} {ps : List Str} {f : Addr} {oc : Value} {od an : Option Addr} {osl : Array (Option Value)} {kV doc pm cdv ct : Value}
    (a : PySem.W.findIn K (.ref C) m = some (some (.ref f))) (i : PySem.W.isFn K (.ref f) = true) (l : K.lookup f = some ⟨oc, od, .func (PySem.W.fnOf m q (defArgs st) (defBody st) (defScope st) .none kV doc pm an cdv ct), osl⟩)
    (c : PySem.W.codeIn K cdv q = true) (k : PySem.W.keepIn K (.ref f) = true)
    (b : ∀ (kV doc pm : Value) (an : Option Addr) (cdv ct : Value) (us : List Value), us.length = ps.length → bindArgs (PySem.W.fnOf m q (defArgs st) (defBody st) (defScope st) .none kV doc pm an cdv ct) ⟨us, []⟩ = pure (ps.zip us)) : MetAt K C m q st ps :=
  ⟨f, _, fun_mk l c k, ⟨a, i, k⟩, (fun_mk l c k).binds b⟩
theorem ini_mk {C : Addr} {q : Str} {st : Stmt} {ps : List Str} {f : Addr} {oc : Value} {od an : Option Addr} {osl : Array (Option Value)} {kV doc pm cdv ct : Value} (mk : PySem.W.makesIn K C = true) (kc : PySem.W.keepIn K (.ref C) = true)
    (a : PySem.W.findIn K (.ref C) "__init__" = some (some (.ref f))) (i : PySem.W.isFn K (.ref f) = true) (l : K.lookup f = some ⟨oc, od, .func (PySem.W.fnOf "__init__" q (defArgs st) (defBody st) (defScope st) .none kV doc pm an cdv ct), osl⟩)
    (c : PySem.W.codeIn K cdv q = true) (k : PySem.W.keepIn K (.ref f) = true)
    (b : ∀ (kV doc pm : Value) (an : Option Addr) (cdv ct : Value) (us : List Value), us.length = ps.length → bindArgs (PySem.W.fnOf "__init__" q (defArgs st) (defBody st) (defScope st) .none kV doc pm an cdv ct) ⟨us, []⟩ = pure (ps.zip us)) : IniAt K C q st ps :=
  ⟨f, _, fun_mk l c k, ⟨mk, a, i, kc⟩, (fun_mk l c k).binds b⟩
theorem MetAt.ok {C : Addr} {m q : Str} {st : Stmt} {N ps : List Str} {k : Nat} {sp : Sp} (D : MetAt K C m q st ps) (S : FnScope N ps (defScope st)) (len : ∀ vs H Q E, sp vs H Q E → vs.length = ps.length)
    (hbody : ∀ (f : Addr) (cdv : Value) (A : Around) (outer : List Env) (s : Shared) (H : Hp) (vs : List V) (Q : VK) (E : XK), Room k (A.deeper (envOfC q (defScope st) s.heap.objs.size f cdv)) → sp vs H Q E →
      ∃ t, PSs (cxOf CX0 P w K mg base N q (defScope st) f cdv A outer s H E).nox (defBody st) t ∧ t { nx := fun _ H' => Q .non H', rt := Q } (start N vs) H) : HasM P w K mg base CX0 (k + 1) C m ps sp := by
  obtain ⟨f, fd, F, m, b⟩ := D
  exact ⟨f, fd, m, b, F.ok S len fun cdv A outer s H vs Q E hr h => hbody f cdv A outer s H vs Q E hr h⟩
theorem IniAt.ok {C : Addr} {q : Str} {st : Stmt} {N ps : List Str} {k : Nat} {sp : Sp} (D : IniAt K C q st ps) (S : FnScope N ps (defScope st)) (len : ∀ vs H Q E, sp vs H Q E → vs.length = ps.length)
    (hbody : ∀ (f : Addr) (cdv : Value) (A : Around) (outer : List Env) (s : Shared) (H : Hp) (vs : List V) (Q : VK) (E : XK), Room k (A.deeper (envOfC q (defScope st) s.heap.objs.size f cdv)) → sp vs H Q E →
      ∃ t, PSs (cxOf CX0 P w K mg base N q (defScope st) f cdv A outer s H E).nox (defBody st) t ∧ t { nx := fun _ H' => Q .non H', rt := Q } (start N vs) H) : HasI P w K mg base CX0 (k + 1) C ps sp := by
  obtain ⟨f, fd, F, m, b⟩ := D
  exact ⟨f, fd, m, b, F.ok S len fun cdv A outer s H vs Q E hr h => hbody f cdv A outer s H vs Q E hr h⟩
end
/-- x is an object of the class at C without an attribute m -/
def MObj (C : Addr) (m : Str) (x : V) (H : Hp) (R : Prop) : Prop := ∃ a dx fs, x = .ref a ∧ H a = some (.ins C dx fs) ∧ fs.lookup m = none ∧ R
def tMC (C : Addr) (m : Str) (sp : Sp) (E : XK) (ta : TE) (t : TA) : TE := fun σ H Q => ta σ H fun x H1 => MObj C m x H1 (t σ H1 fun vs H2 => sp (x :: vs) H2 Q E)
/-- a new object of the class at C -/
def NewO (C : Addr) (R : Addr → Hp → Prop) (H : Hp) : Prop := ∀ x dx, H x = none → H dx = none → dx ≠ x → R x (upd (upd H dx (.own x)) x (.ins C dx []))
def tMkC (C : Addr) (sp : Sp) (E : XK) (t : TA) : TE := fun σ H Q => t σ H fun vs H1 => NewO C (fun x H2 => sp (.ref x :: vs) H2 (fun v H3 => v = .non ∧ Q (.ref x) H3) E) H1
theorem tMC_of {K : PySem.W.Frag} {C : Addr} {m : Str} {sp : Sp} {E : XK} {ta : TE} {t : TA} {σ : L2.St} {H : Hp} {Q : VK} (h : tMC C m sp E ta t σ H Q) : tMeth C m sp [] E ta t σ H Q := by
  have h' : ta σ H fun x H1 => ∃ a dx fs, x = .ref a ∧ H1 a = some (.ins C dx fs) ∧ fs.lookup m = none ∧ t σ H1 fun vs H2 => sp (x :: vs) H2 Q E := h
  show ta σ H fun x H1 => ∃ a dx fs, x = .ref a ∧ H1 a = some (.ins C dx fs) ∧ fs.lookup m = none ∧ t σ H1 fun vs H2 => sp (x :: (vs ++ [])) H2 Q E
  simp only [List.append_nil]
  exact h'
theorem tMkC_of {C : Addr} {sp : Sp} {E : XK} {t : TA} {σ : L2.St} {H : Hp} {Q : VK} (h : tMkC C sp E t σ H Q) : tMake C sp [] E t σ H Q := by
  have h' : t σ H fun vs H1 => ∀ x dx, H1 x = none → H1 dx = none → dx ≠ x → sp (.ref x :: vs) (upd (upd H1 dx (.own x)) x (.ins C dx [])) (fun v H2 => v = .non ∧ Q (.ref x) H2) E := h
  show t σ H fun vs H1 => ∀ x dx, H1 x = none → H1 dx = none → dx ≠ x → sp (.ref x :: (vs ++ [])) (upd (upd H1 dx (.own x)) x (.ins C dx [])) (fun v H2 => v = .non ∧ Q (.ref x) H2) E
  simp only [List.append_nil]
  exact h'
section
variable {X : Cx} {x m : Str} {C : Addr} {p pos apos : Pos} {o e : Expr} {es : List Expr} {ta : TE} {t : TA} {k : Nat} {ps : List Str} {sp : Sp} {pl : Sem Bool}
theorem pmeth (c : Cls X.K C) (G : HasM X.prog X.w X.K X.mg X.base CX0 k C m ps sp) (hr : Room k X.A) (ho : PE X o ta) (ha : PA X (e :: es) t)
    (hst : starEach (e :: es) X.env = (false, eval e X.env) :: starEach es X.env := by rfl) (hpl : (backTo pos (starEach es X.env)).any (·.1) = false := by rfl)
    (ht : eval (.Call (.Attribute o m apos) (e :: es) [] pos) X.env = (do
      let ov ← eval o X.env
      standAt apos.atName
      let (f, first) ← holding [ov] (getMethod ov m pl)
      callWith pos f first (backTo pos (starEach (e :: es) X.env)) (backToKw pos (keywordEach [] X.env))) := by rfl) :
    PE X (.Call (.Attribute o m apos) (e :: es) [] pos) (tMC C m sp E0 ta t) := by
  obtain ⟨f, fd, hm, b, F⟩ := G
  have q := pe_meth (pl := pl) (pos := pos) (apos := apos) ho c hm F hr b (dvs := []) .nil pass0 ha hst hpl ht
  exact ⟨fun pins s σ H Q I h => q.run pins s σ H Q I (tMC_of (K := X.K) h)⟩
theorem pmeth0 (c : Cls X.K C) (G : HasM X.prog X.w X.K X.mg X.base CX0 k C m ps sp) (hr : Room k X.A) (ho : PE X o ta)
    (ht : eval (.Call (.Attribute o m apos) [] [] pos) X.env = (do
      let ov ← eval o X.env
      standAt apos.atName
      let (f, first) ← holding [ov] (getMethod ov m pl)
      callWith pos f first (backTo pos (starEach [] X.env)) (backToKw pos (keywordEach [] X.env))) := by rfl) :
    PE X (.Call (.Attribute o m apos) [] [] pos) (tMC C m sp E0 ta tNil) := by
  obtain ⟨f, fd, hm, b, F⟩ := G
  have q := pe_meth0 (pl := pl) (pos := pos) (apos := apos) ho c hm F hr b (dvs := []) .nil pass0 ht
  exact ⟨fun pins s σ H Q I h => q.run pins s σ H Q I (tMC_of (K := X.K) h)⟩
theorem pmake (hm : X.mg x = some (.ref C)) (G : HasI X.prog X.w X.K X.mg X.base CX0 k C ps sp) (hr : Room (k + 1) X.A) (ha : PA X (e :: es) t) (hg : Gl X x := by rfl)
    (hdb : (x == ("__debug__" : Str)) = false := by decide) (he : starEach (e :: es) X.env = (false, eval e X.env) :: starEach es X.env := by rfl) (hpl : (backTo pos (starEach es X.env)).any (·.1) = false := by rfl) :
    PE X (.Call (.Name x p) (e :: es) [] pos) (tMkC C sp E0 t) := by
  obtain ⟨f, fd, M, b, F⟩ := G
  have q := pe_make (p := p) M F hr hg hm b (dvs := []) .nil pass0 ha hdb he hpl
  exact ⟨fun pins s σ H Q I h => q.run pins s σ H Q I (tMkC_of h)⟩
theorem pmake0 (hm : X.mg x = some (.ref C)) (G : HasI X.prog X.w X.K X.mg X.base CX0 k C ps sp) (hr : Room (k + 1) X.A) (hg : Gl X x := by rfl)
    (hdb : (x == ("__debug__" : Str)) = false := by decide) : PE X (.Call (.Name x p) [] [] pos) (tMkC C sp E0 tNil) := by
  obtain ⟨f, fd, M, b, F⟩ := G
  have q := pe_make0 (p := p) (pos := pos) M F hr hg hm b (dvs := []) .nil pass0 hdb
  exact ⟨fun pins s σ H Q I h => q.run pins s σ H Q I (tMkC_of h)⟩
end
def FldR (K : PySem.W.Frag) (f : Str) (x : V) (H : Hp) (Q : VK) : Prop := ∃ a C dx fs v, x = .ref a ∧ H a = some (.ins C dx fs) ∧ Cls K C ∧ NoAttr K C f ∧ fs.lookup f = some v ∧ Q v H
def FldW (K : PySem.W.Frag) (f : Str) (x y : V) (H : Hp) (R : Hp → Prop) : Prop := ∃ a C dx fs, x = .ref a ∧ H a = some (.ins C dx fs) ∧ Cls K C ∧ NoAttr K C f ∧ fs.length < 1000 ∧ R (upd H a (.ins C dx (putF f y fs)))
def FldA (K : PySem.W.Frag) (f : Str) (x : V) (H : Hp) (R : Addr → Addr → V → Prop) : Prop := ∃ a C dx fs v, x = .ref a ∧ H a = some (.ins C dx fs) ∧ Cls K C ∧ NoAttr K C f ∧ fs.lookup f = some v ∧ R a C v
def FldA2 (f : Str) (a C : Addr) (z : V) (H : Hp) (R : Hp → Prop) : Prop := ∃ dx fs, H a = some (.ins C dx fs) ∧ fs.length < 1000 ∧ R (upd H a (.ins C dx (putF f z fs)))
section
variable {K : PySem.W.Frag} {σ : L2.St} {H : Hp} {Q : VK} {ta tv : TE} {t : TA} {a C dx : Addr} {fs fs' : List (Str × V)} {f m : Str} {v y : V} {D : Ends} {sp : Sp} {E : XK} {R : Hp → Prop}
theorem r_meth (k : ta σ H fun x H1 => MObj C m x H1 (t σ H1 fun vs H2 => sp (x :: vs) H2 Q E)) : tMC C m sp E ta t σ H Q := k
theorem r_mobj {R : Prop} (h : H a = some (.ins C dx fs)) (l : fs.lookup m = none) (k : R) : MObj C m (.ref a) H R := ⟨a, dx, fs, rfl, h, l, k⟩
theorem r_make (k : t σ H fun vs H1 => NewO C (fun x H2 => sp (.ref x :: vs) H2 (fun v H3 => v = .non ∧ Q (.ref x) H3) E) H1) : tMkC C sp E t σ H Q := k
theorem r_newO {R : Addr → Hp → Prop} (k : ∀ x dx H', H x = none → Ex H H' → H' x = some (.ins C dx []) → R x H') : NewO C R H := fun x dx hx hd n => k x dx _ hx ((Ex.new hd).trans (Ex.new (by rw [upd_ne (Ne.symm n)]; exact hx))) upd_same
theorem r_fldE (k : ta σ H fun x H1 => FldR K f x H1 Q) : tFld K ta f σ H Q := k
theorem r_fld (h : H a = some (.ins C dx fs)) (c : Cls K C) (n : NoAttr K C f) (l : fs.lookup f = some v) (k : Q v H) : FldR K f (.ref a) H Q := ⟨a, C, dx, fs, v, rfl, h, c, n, l, k⟩
theorem r_fldS (k : tv σ H fun y H1 => ta σ H1 fun x H2 => FldW K f x y H2 (D.nx σ)) : sFld K ta tv f D σ H := k
theorem r_fldW (h : H a = some (.ins C dx fs)) (c : Cls K C) (n : NoAttr K C f) (l : fs.length < 1000) (e : putF f y fs = fs') (k : ∀ H', Kp a H H' → H' a = some (.ins C dx fs') → R H') : FldW K f (.ref a) y H R :=
  ⟨a, C, dx, fs, rfl, h, c, n, l, k _ Kp.upd (by rw [e]; exact upd_same)⟩
theorem r_fldAug {rd : V → V → Hp → VK → Prop} (k : ta σ H fun x H1 => FldA K f x H1 fun a C v => tv σ H1 fun y H2 => rd v y H2 fun z H3 => FldA2 f a C z H3 (D.nx σ)) : sFldAug K ta tv rd f D σ H := k
theorem r_fldA {R : Addr → Addr → V → Prop} (h : H a = some (.ins C dx fs)) (c : Cls K C) (n : NoAttr K C f) (l : fs.lookup f = some v) (k : R a C v) : FldA K f (.ref a) H R := ⟨a, C, dx, fs, v, rfl, h, c, n, l, k⟩
theorem r_fldA2 (h : H a = some (.ins C dx fs)) (l : fs.length < 1000) (e : putF f y fs = fs') (k : ∀ H', Kp a H H' → H' a = some (.ins C dx fs') → R H') : FldA2 f a C y H R := ⟨dx, fs, h, l, k _ Kp.upd (by rw [e]; exact upd_same)⟩
theorem r_rAdd {i j : Int} (k : Q (.int (i + j)) H) : rAdd (.int i) (.int j) H Q := ⟨i, j, rfl, rfl, k⟩
theorem r_rSub {i j : Int} (k : Q (.int (i - j)) H) : rSub (.int i) (.int j) H Q := ⟨i, j, rfl, rfl, k⟩
end
/-- all but what stands at some addresses is kept -/
def Kq (ds : List Addr) (H H' : Hp) : Prop := ∀ a o, a ∉ ds → H a = some o → H' a = some o
theorem Kq.trans {ds : List Addr} {H H1 H2 : Hp} (a : Kq ds H H1) (b : Kq ds H1 H2) : Kq ds H H2 := fun x o n h => b x o n (a x o n h)
theorem Ex.kq {ds : List Addr} {H H' : Hp} (e : Ex H H') : Kq ds H H' := fun a o _ h => e a o h
theorem Kp.kq {d : Addr} {ds : List Addr} {H H' : Hp} (k : Kp d H H') (h : d ∈ ds) : Kq ds H H' := fun a o n e => k a o (fun z => n (by rw [z]; exact h)) e
theorem Kq.refl {ds : List Addr} {H : Hp} : Kq ds H H := fun _ _ _ h => h
theorem rPop_is {l : Addr} {xs : List V} {y : V} {H : Hp} {Q : VK} (h : H l = some (.lst xs)) (e : xs[xs.length - 1]? = some y) (k : ∀ H', Kp l H H' → H' l = some (.lst xs.dropLast) → Q y H') : rPop (.ref l) [] H Q := ⟨l, xs, y, rfl, rfl, h, e, k _ Kp.upd upd_same⟩
theorem r_bm0 {K : PySem.W.Frag} {σ : L2.St} {H : Hp} {Q : VK} {ta : TE} {T : String} {r : V → List V → Hp → VK → Prop} (k : ta σ H fun x H1 => tyV K T x H1 ∧ r x [] H1 Q) : tBM0 K T r ta σ H Q := k
/-! flat data compared: whole numbers, texts, none -/
inductive Fd where
  | i (x : Int)
  | s (x : Str)
  | n
  deriving DecidableEq
def Fd.v : Fd → V
  | .i x => .int x
  | .s x => .str x
  | .n => .non
def Fd.d : Fd → PyData
  | .i x => .int x
  | .s x => .str x
  | .n => .none
theorem eqv_fd : ∀ x y : Fd, PyData.eqv x.d y.d = decide (x = y)
  | .i x, .i y => by
    show (x == y) = _
    by_cases h : x = y
    · subst h
      rw [beq_self_eq_true, decide_eq_true rfl]
    · rw [beq_eq_false_iff_ne.mpr h, decide_eq_false (fun z => h (Fd.i.inj z))]
  | .s x, .s y => by
    show (x == y) = _
    by_cases h : x = y
    · subst h
      rw [beq_self_eq_true, decide_eq_true rfl]
    · rw [beq_eq_false_iff_ne.mpr h, decide_eq_false (fun z => h (Fd.s.inj z))]
  | .n, .n => rfl
  | .i _, .s _ => rfl
  | .i _, .n => rfl
  | .s _, .i _ => rfl
  | .s _, .n => rfl
  | .n, .i _ => rfl
  | .n, .s _ => rfl
theorem eqv_fds : ∀ xs ys : List Fd, PyData.eqvAll (xs.map Fd.d) (ys.map Fd.d) = decide (xs = ys)
  | [], [] => by rw [decide_eq_true rfl]; rfl
  | [], y :: ys => by rw [decide_eq_false (by intro h; cases h)]; rfl
  | x :: xs, [] => by rw [decide_eq_false (by intro h; cases h)]; rfl
  | x :: xs, y :: ys => by
    show (PyData.eqv x.d y.d && PyData.eqvAll (xs.map Fd.d) (ys.map Fd.d)) = _
    rw [eqv_fds xs ys, eqv_fd x y]
    by_cases h : x = y
    · subst h
      by_cases h2 : xs = ys
      · subst h2
        rw [decide_eq_true rfl, decide_eq_true rfl, decide_eq_true rfl]
        rfl
      · rw [decide_eq_false h2, decide_eq_false (fun z => h2 (List.cons.inj z).2), Bool.and_false]
    · rw [decide_eq_false h, decide_eq_false (fun z => h (List.cons.inj z).1), Bool.false_and]
def Fd.ok : Fd → Bool
  | .s x => PyData.canLay0 (.str x)
  | _ => true
theorem lay_fds : ∀ xs : List Fd, xs.all Fd.ok = true → PyData.canLayAll0 (xs.map Fd.d) = true
  | [], _ => rfl
  | x :: xs, h => by
    rw [List.all_cons, Bool.and_eq_true] at h
    show (PyData.canLay0 x.d && PyData.canLayAll0 (xs.map Fd.d)) = true
    rw [lay_fds xs h.2, Bool.and_true]
    have h1 := h.1
    cases x with
    | i _ => rfl
    | s _ => exact h1
    | n => rfl
theorem dep_fds : ∀ xs : List Fd, PyData.depthAll (xs.map Fd.d) ≤ 1
  | [] => Nat.zero_le _
  | x :: xs => by
    show max (PyData.depth x.d) (PyData.depthAll (xs.map Fd.d)) ≤ 1
    have h1 : PyData.depth x.d ≤ 1 := by
      cases x <;> (unfold Fd.d PyData.depth; omega)
    have := dep_fds xs
    omega
theorem shp_fdT (xs : List Fd) (ok : xs.all Fd.ok = true) : SeqAt.shaped (.tuple (xs.map Fd.d)) = true := by
  unfold SeqAt.shaped
  rw [Bool.and_eq_true]
  refine ⟨?_, decide_eq_true ?_⟩
  · unfold PyData.canLay0
    exact lay_fds xs ok
  · unfold PyData.depth
    have := dep_fds xs
    omega
theorem dp_fds {K : PySem.W.Frag} {H : Hp} : ∀ xs : List Fd, DpAll K H (xs.map Fd.v) (xs.map Fd.d)
  | [] => .nil
  | .i x :: xs => .cons (.int x) (dp_fds xs)
  | .s x :: xs => .cons (.str x) (dp_fds xs)
  | .n :: xs => .cons .non (dp_fds xs)
theorem eqv_fdT (xs ys : List Fd) : PyData.eqv (.tuple (xs.map Fd.d)) (.tuple (ys.map Fd.d)) = decide (xs = ys) := by
  unfold PyData.eqv
  exact eqv_fds xs ys
theorem r_neF {K : PySem.W.Frag} {H : Hp} {Q : VK} {p q : Addr} {xs ys : List Fd} (h : SqT K H p (xs.map Fd.v)) (h' : SqT K H q (ys.map Fd.v)) (ok : xs.all Fd.ok = true) (ok' : ys.all Fd.ok = true) (k : Q (.bl (!decide (xs = ys))) H) : rNeD K (.ref p) (.ref q) H Q :=
  r_neD (.tup h (dp_fds xs)) (.tup h' (dp_fds ys)) (shp_fdT _ ok) (shp_fdT _ ok') (by rw [eqv_fdT]; exact k)
theorem r_eqF {K : PySem.W.Frag} {H : Hp} {Q : VK} {p q : Addr} {xs ys : List Fd} (h : SqT K H p (xs.map Fd.v)) (h' : SqT K H q (ys.map Fd.v)) (ok : xs.all Fd.ok = true) (ok' : ys.all Fd.ok = true) (k : Q (.bl (decide (xs = ys))) H) : rEqD K (.ref p) (.ref q) H Q :=
  r_eqD (.tup h (dp_fds xs)) (.tup h' (dp_fds ys)) (shp_fdT _ ok) (shp_fdT _ ok') (by rw [eqv_fdT]; exact k)
theorem at_lastI (fo : List Int) (k : Int) : atI ((fo ++ [k]).map V.int) (-1) = some (.int k) := by
  have hl : ((fo ++ [k]).map V.int).length = fo.length + 1 := by simp
  unfold atI ixN
  rw [if_neg (by decide), if_pos (by omega), hl]
  show ((fo ++ [k]).map V.int)[((-1 : Int) + ((fo.length + 1 : Nat) : Int)).toNat]? = some (.int k)
  rw [show ((-1 : Int) + ((fo.length + 1 : Nat) : Int)).toNat = fo.length by omega]
  simp
theorem ok_iS {x : Int} {z : Str} (h : PyData.canLay0 (.str z) = true := by decide +kernel) : [Fd.i x, Fd.s z].all Fd.ok = true := by
  show (true && (PyData.canLay0 (.str z) && true)) = true
  rw [h]
  rfl
theorem ok_nS {z : Str} (h : PyData.canLay0 (.str z) = true := by decide +kernel) : [Fd.n, Fd.s z].all Fd.ok = true := by
  show (true && (PyData.canLay0 (.str z) && true)) = true
  rw [h]
  rfl
theorem ok_SS {y z : Str} (h : PyData.canLay0 (.str y) = true := by decide +kernel) (h' : PyData.canLay0 (.str z) = true := by decide +kernel) : [Fd.s y, Fd.s z].all Fd.ok = true := by
  show (PyData.canLay0 (.str y) && (PyData.canLay0 (.str z) && true)) = true
  rw [h, h']
  rfl
theorem rPop_I {l : Addr} {fo : List Int} {k : Int} {H : Hp} {Q : VK} (h : H l = some (.lst ((fo ++ [k]).map V.int))) (q : ∀ H', Kp l H H' → H' l = some (.lst (fo.map V.int)) → Q (.int k) H') : rPop (.ref l) [] H Q :=
  rPop_is h (by simp) fun H' kp h' => q H' kp (by rw [h']; simp)
theorem at_last2 (fo : List Int) (k k' : Int) : atI ((fo ++ [k] ++ [k']).map V.int) (-2) = some (.int k) := by
  have hl : ((fo ++ [k] ++ [k']).map V.int).length = fo.length + 2 := by simp
  unfold atI ixN
  rw [if_neg (by decide), if_pos (by omega), hl]
  show ((fo ++ [k] ++ [k']).map V.int)[((-2 : Int) + ((fo.length + 2 : Nat) : Int)).toNat]? = some (.int k)
  rw [show ((-2 : Int) + ((fo.length + 2 : Nat) : Int)).toNat = fo.length by omega]
  simp
theorem at_0 {v : V} {vs : List V} : atI (v :: vs) 0 = some v := at_of (j := 0) rfl rfl
/-- o.f as a target -/
def gFld (K : PySem.W.Frag) (to : TE) (f : Str) : TG := fun v σ H Q => to σ H fun x H1 => FldW K f x v H1 (Q σ)
theorem pg_fld {X : Cx} {o : Expr} {f : Str} {pos : Pos} {to : TE} (ho : PE X o to) : PG X (.Attribute o f pos) (gFld X.K to f) := by
  refine ⟨fun pins s σ H v u Q I r h => ?_⟩
  rw [PySem.assign_Attribute]
  refine wpAny_bind (wpAny_holding (thn (ho.run pins s σ H _ I h) fun ov s1 ⟨x, H1, I1, r1, q1⟩ => ?_))
  obtain ⟨a, C, dx, fs, ex, ea, c, n, l, q⟩ := q1
  subst ex
  obtain rfl : ov = Value.ref a := r1
  refine wpAny_bind (wpAny_standAt (wpAny_bind (wpAny_holding (setattr_ok I1 ea c n l r fun s2 I2 => ?_))))
  exact wpAny_release ⟨σ, _, I2, q⟩
theorem r_gFld {K : PySem.W.Frag} {σ : L2.St} {H : Hp} {to : TE} {f : Str} {v : V} {Q : L2.St → Hp → Prop} (k : to σ H fun x H1 => FldW K f x v H1 (Q σ)) : gFld K to f v σ H Q := k
end Sd

namespace Sd
open PySem PySem.Spec PyProof.Rows L2
def topS (i : Nat) : Stmt := PySem.Challenge.pw_stairsum_k25_whole_stairs_of_texts.main.body.getD i (.Pass ⟨0, 0, 0, 0⟩)
local macro_rules | `(tactic| walk_at "pos") => `(tactic| first | assumption | decide | omega | fail "no step")
local macro_rules | `(tactic| walk_at "sz") => `(tactic| first
  | assumption
  | (with_reducible refine Sz.lit ?_; decide)
  | with_reducible exact Sz.b2
  | (with_reducible refine Sz.mul (n := ?n) (m := ?m) ?a ?b; (case a => walk_at "sz"); (case b => walk_at "sz"))
  | (with_reducible refine Sz.add (n := ?n) (m := ?m) ?a ?b; (case a => walk_at "sz"); (case b => walk_at "sz"))
  | (with_reducible refine Sz.sub (n := ?n) (m := ?m) ?a ?b; (case a => walk_at "sz"); (case b => walk_at "sz"))
  | (with_reducible refine Sz.neg (n := ?n) ?a; (case a => walk_at "sz"))
  | (with_reducible refine Sz.abs (n := ?n) ?a; (case a => walk_at "sz"))
  | (with_reducible refine Sz.div (n := ?n) ?a ?b; (case a => walk_at "sz"); (case b => walk_at "pos"))
  | (with_reducible refine Sz.mod (n := ?n) ?a ?b; (case a => walk_at "sz"); (case b => walk_at "pos"))
  | fail "no step")
local macro_rules | `(tactic| walk_at "mulW") => `(tactic| first
  | exact mulR ⟨by decide, by decide⟩
  | exact mulL ⟨by decide, by decide⟩
  | (refine mulX (n := ?n) (m := ?m) ?a ?b ?h; (case a => walk_at "sz"); (case b => walk_at "sz"); (case h => decide))
  | fail "no step")
local macro_rules | `(tactic| walk_at "divW") => `(tactic| (refine divW (n := ?n) ?p ?a ?h; (case p => walk_at "pos"); (case a => walk_at "sz"); (case h => decide)))
/- H a = some _ at the heap at hand -/
local macro_rules | `(tactic| walk_at "at") => `(tactic| first
  | assumption
  | (with_reducible refine Kp.tup (H := ?H) (d := ?d) ?k ?D ?_; (case k => assumption); (case D => assumption); walk_at "at")
  | (with_reducible refine Ex.at (H := ?H) ?k ?_; (case k => assumption); walk_at "at")
  | fail "no step")
local macro_rules | `(tactic| walk_at "sqt") => `(tactic| first
  | assumption
  | exact SqT.of (by walk_at "at")
  | (with_reducible refine sqt_kp (H := ?H) (d := ?d) ?k ?D ?_; (case k => assumption); (case D => assumption); walk_at "sqt")
  | (with_reducible refine sqt_up (H := ?H) ?k ?_; (case k => assumption); walk_at "sqt")
  | fail "no step")
local macro_rules | `(tactic| walk_at "sql") => `(tactic| first
  | assumption
  | exact SqL.of (by walk_at "at")
  | (with_reducible refine sql_up (H := ?H) ?k ?_; (case k => assumption); walk_at "sql")
  | fail "no step")
local macro_rules | `(tactic| walk_at "dec_f") => `(tactic| first
  | with_reducible rfl | with_reducible assumption
  | (with_reducible refine not_f ?_; walk_at "dec_t")
  | (with_reducible refine decide_eq_false ?_; first | with_reducible assumption | omega | (simp only [List.length_cons, List.length_nil]; omega))
  | fail "no step")
local macro_rules | `(tactic| walk_at "dec_t") => `(tactic| first
  | with_reducible rfl | with_reducible assumption
  | (with_reducible refine not_t ?_; walk_at "dec_f")
  | (with_reducible refine decide_eq_true ?_; first | with_reducible assumption | with_reducible rfl | omega | (simp only [List.length_cons, List.length_nil]; omega))
  | fail "no step")
local macro_rules | `(tactic| walk_at "sets") => `(tactic| first
  | with_reducible exact set_z
  | ((with_reducible refine set_s (l' := ?l) ?a); (case a => walk_at "sets"))
  | ((with_reducible refine set_in (e' := ?e) ?a ?b); (case a => walk_at "sets"); (case b => walk_at "sets"))
  | fail "no step")
local macro_rules | `(tactic| walk_at "lk") => `(tactic| fail "no step")
local macro_rules | `(tactic| walk_at "go1") => `(tactic| first
  | ((with_reducible refine r_nxS (l' := ?l) ?h ?_); (case h => walk_at "sets"))
  | with_reducible refine r_seq ?_
  | with_reducible refine r_asg ?_
  | ((with_reducible refine r_var (v := ?v) ?h ?_); (case h => exact rfl))
  | with_reducible refine r_c ?_
  | with_reducible refine r_nx ?_
  | with_reducible refine r_rt ?_
  | with_reducible refine r_op ?_
  | with_reducible refine r_cons ?_
  | with_reducible refine r_nil ?_
  | with_reducible refine r_cal ?_
  | with_reducible refine r_I0 ?_
  | ((with_reducible refine r_mul ?c ?_); (case c => walk_at "mulW"))
  | ((with_reducible refine r_div ?c ?_); (case c => walk_at "divW"))
  | ((with_reducible refine r_mod ?c ?_); (case c => walk_at "pos"))
  | with_reducible refine r_p6 ?_
  | with_reducible refine r_p18 ?_
  | with_reducible refine r_p29 ?_
  | with_reducible refine r_p30 ?_
  | with_reducible refine r_p60 ?_
  | with_reducible refine r_p15 ?_
  | with_reducible refine r_p24 ?_
  | ((with_reducible refine r_pow ?c ?_); (case c => exact ⟨by decide, by decide, by decide⟩))
  | with_reducible refine r_ifS ?_
  | with_reducible refine r_test ?_
  | with_reducible refine r_tB ?_
  | with_reducible refine r_bl ?_
  | with_reducible refine r_eqI ?_
  | with_reducible refine r_neI ?_
  | with_reducible refine r_not ?_
  | with_reducible refine r_and ?_
  | with_reducible refine r_or ?_
  | with_reducible refine r_notV ?_
  | with_reducible refine r_andV ?_
  | with_reducible refine r_orV ?_
  | with_reducible refine r_blV ?_
  | with_reducible refine r_chain ?_
  | with_reducible refine r_ret ?_
  | with_reducible refine r_retN ?_
  | with_reducible refine r_drop ?_
  | with_reducible refine r_next ?_
  | with_reducible refine r_un ?_
  | with_reducible refine r_U ?_
  | with_reducible refine r_tup ?_
  | with_reducible refine r_lst ?_
  | ((with_reducible refine r_newT ?l ?_); (case l => exact Nat.le_of_ble_eq_true rfl); intro _ _ _ _ _)
  | ((with_reducible refine r_newL ?l ?_); (case l => exact Nat.le_of_ble_eq_true rfl); intro _ _ _ _ _)
  | ((with_reducible refine r_ixT (xs := ?x) (v := ?v) ?h ?a ?_); (case h => walk_at "sqt"); (case a => exact rfl))
  | ((with_reducible refine r_ixL (xs := ?x) (v := ?v) ?h ?a ?_); (case h => walk_at "sql"); (case a => exact rfl))
  | with_reducible refine r_asgG ?_
  | ((with_reducible refine r_gTup (xs := ?x) ?h ?l ?_); (case h => walk_at "sqt"); (case l => exact rfl))
  | with_reducible refine r_gCons ?_
  | with_reducible refine r_gNil ?_
  | with_reducible refine r_gName ?_
  | with_reducible refine r_gSub ?_
  | with_reducible refine r_par ?_
  | with_reducible refine r_parE ?_
  | with_reducible refine r_par3 ?_
  | with_reducible refine r_parE3 ?_
  | ((with_reducible refine r_aug (i := ?i) ?h ?_); (case h => exact rfl))
  | with_reducible refine r_ipI ?_
  | with_reducible refine r_if ?_
  | with_reducible refine r_chain3 ?_
  | ((with_reducible refine r_gLst (xs := ?x) ?h ?l ?_); (case h => walk_at "sql"); (case l => exact rfl))
  | with_reducible refine r_CB ?_
  | with_reducible refine r_isII ?_
  | with_reducible refine r_isIB ?_
  | ((with_reducible refine r_isTT (xs := ?x) ?h ?_); (case h => walk_at "at"))
  | with_reducible refine r_tyS ?_
  | with_reducible refine r_isSS ?_
  | with_reducible refine r_iZip ?_
  | with_reducible refine r_iZipA ?_
  | ((with_reducible refine r_isLL (xs := ?x) ?h ?_); (case h => walk_at "at"))
  | ((with_reducible refine r_lenL (ys := ?x) ?h ?_); (case h => walk_at "sql"))
  | ((with_reducible refine r_lenT (ys := ?x) ?h ?_); (case h => walk_at "sqt"))
  | with_reducible refine r_abs ?_
  | with_reducible refine r_max2 ?_
  | with_reducible refine r_min2 ?_
  | with_reducible refine r_min3 ?_
  | with_reducible refine r_intI ?_
  | with_reducible refine r_intB ?_
  | with_reducible refine r_isBB ?_
  | with_reducible refine r_for ?_
  | ((with_reducible refine r_eqT3 (a := ?a) (b := ?b) (c := ?c) (a' := ?a') (b' := ?b') (c' := ?c') ?h ?h' ?_); (case h => walk_at "sqt"); (case h' => walk_at "sqt"))
  | ((with_reducible refine r_neT3 (a := ?a) (b := ?b) (c := ?c) (a' := ?a') (b' := ?b') (c' := ?c') ?h ?h' ?_); (case h => walk_at "sqt"); (case h' => walk_at "sqt"))
  | with_reducible refine r_notB ?_
  | with_reducible refine r_isB ?_
  | with_reducible refine r_bm ?_
  | ((with_reducible refine r_tyL (xs := ?x) ?h ?_); (case h => walk_at "sql"))
  | with_reducible refine r_sl ?_
  | with_reducible refine r_noP ?_
  | with_reducible refine r_part ?_
  | with_reducible refine r_partI ?_
  | ((with_reducible refine r_sl4 (a := ?a) (b := ?b) (c := ?c) (d := ?d) (e := ?e) ?h ?_); (case h => walk_at "sqt"); intro _ _ _ _ _)
  | ((with_reducible refine r_cat13 (x := ?x) (a := ?a) (b := ?b) (c := ?c) ?h ?h2 ?_); (case h => walk_at "sqt"); (case h2 => walk_at "sqt"); intro _ _ _ _ _)
  | ((with_reducible refine r_cat41 (x := ?x) (a := ?a) (b := ?b) (c := ?c) (y := ?y) ?h ?h2 ?_); (case h => walk_at "sqt"); (case h2 => walk_at "sqt"); intro _ _ _ _ _)
  | ((with_reducible refine r_neT4 (a := ?a) (b := ?b) (c := ?c) (d := ?d) (a' := ?a') (b' := ?b') (c' := ?c') (d' := ?d') ?h ?h' ?_); (case h => walk_at "sqt"); (case h' => walk_at "sqt"))
  | ((with_reducible refine r_listL (ys := ?y) ?h ?_); (case h => walk_at "sql"); intro _ _ _ _ _)
  | with_reducible refine r_rev ?_
  | with_reducible refine r_isNnI ?_
  | with_reducible refine r_isNnR ?_
  | with_reducible refine r_isNnN ?_
  | with_reducible refine r_notNnI ?_
  | with_reducible refine r_notNnR ?_
  | with_reducible refine r_notNnN ?_
  | with_reducible refine r_iRng1 ?_
  | with_reducible refine r_iRng2 ?_
  | with_reducible refine r_iList ?_
  | with_reducible refine r_iTup ?_
  | with_reducible refine r_lc ?_
  | ((with_reducible refine r_ItL (xs := ?x) ?h ?_); (case h => walk_at "sql"))
  | ((with_reducible refine r_ItT (xs := ?x) ?h ?_); (case h => walk_at "sqt"))
  | with_reducible refine r_fldE ?_
  | ((with_reducible refine r_fld (C := ?C) (dx := ?dx) (fs := ?fs) (v := ?v) ?h ?c ?n ?l ?_); (case h => walk_at "at"); (case c => assumption); (case n => assumption); (case l => walk_at "lk"))
  | with_reducible refine r_fldS ?_
  | with_reducible refine r_gFld ?_
  | with_reducible refine r_fldAug ?_
  | ((with_reducible refine r_fldA (C := ?C) (dx := ?dx) (fs := ?fs) (v := ?v) ?h ?c ?n ?l ?_); (case h => walk_at "at"); (case c => assumption); (case n => assumption); (case l => walk_at "lk"))
  | with_reducible refine r_rAdd ?_
  | with_reducible refine r_rSub ?_
  | with_reducible refine r_meth ?_
  | ((with_reducible refine r_mobj (dx := ?dx) (fs := ?fs) ?h ?l ?_); (case h => walk_at "at"); (case l => walk_at "lk"))
  | with_reducible refine r_make ?_
  | with_reducible refine r_bm0 ?_
  | ((with_reducible refine if_T ?h ?_); (case h => walk_at "dec_t"))
  | ((with_reducible refine if_F ?h ?_); (case h => walk_at "dec_f"))
  | fail "no step")
local macro_rules | `(tactic| walk_at "go") => `(tactic| repeat walk_at "go1")
local macro_rules | `(tactic| walk_at "szm") => `(tactic| (refine Sz.mono (n := ?n) ?a ?h; (case a => walk_at "sz"); (case h => decide)))
def sp_law_draws (K : PySem.W.Frag) : Sp := fun vs H Q _ => ∃ (a : Addr) (ns : List Int) (k : Int), vs = [.ref a, .int k] ∧ SqL K H a (ns.map V.int) ∧ 0 ≤ k ∧ k ≤ 1000 ∧ ∀ d H', H d = none → Ex H H' → Dr H' d → Q (.ref d) H'
theorem use_law_draws {K : PySem.W.Frag} {H : Hp} {Q : VK} {E : XK} {a : Addr} {ns : List Int} {k : Int} (h : SqL K H a (ns.map V.int)) (h0 : 0 ≤ k) (h1 : k ≤ 1000) (q : ∀ d H', H d = none → Ex H H' → Dr H' d → Q (.ref d) H') : sp_law_draws K [.ref a, .int k] H Q E := ⟨a, ns, k, rfl, h, h0, h1, q⟩
abbrev s_law_draws : Stmt := topS 12
abbrev nm_law_draws : List Str := ["script", "k", "cell"]
theorem sc_law_draws : FnScope nm_law_draws ["script", "k"] (defScope s_law_draws) := ⟨rfl, rfl, rfl, by decide +kernel, rfl, by decide +kernel, by decide +kernel⟩
theorem st_law_draws {v0 v1 : V} : start nm_law_draws [v0, v1] = [some v0, some v1, none] := rfl
section
variable {P : Program} {w : World} {K : PySem.W.Frag} {mg : Str → Option Value} {base : Heap}
theorem ok_law_draws (D : DefAt K mg "_law_draws" s_law_draws ["script", "k"]) (B_len : mg "len" = none) (B_int : mg "int" = none) : Has P w K mg base CX0 2 "_law_draws" ["script", "k"] (sp_law_draws K) := by
  refine D.ok sc_law_draws (by rintro _ _ _ _ ⟨_, _, _, rfl, _⟩; rfl) (fun f cdv A outer s H vs Q E hr h => ?_)
  obtain ⟨a, ns, k, rfl, hS, h0, h1, q⟩ := h
  have zk : Sz 200 k := Sz.small (by omega)
  refine ⟨_, (pss_cons (ps_set (i := 2) sc_law_draws.nd rfl (Or.inl rfl) (pe_op op_mulX pe_int (pv 1)))
      (pcut (ps_if (pt_cmpR op_lt (pv 1) (pe_callB cl_len (by rfl) B_len (by decide +kernel) (pa_cons (pv 0) pa_nil)) (nomark _)) (pss_one (ps_set (i := 2) sc_law_draws.nd rfl (Or.inl rfl) (pe_op op_mod (pe_ix ix_list (pv 0) (pv 1) (fun _ _ => rfl)) (pe_op op_mulX (pe_op op_pow pe_int pe_int) (pe_op op_pow pe_int pe_int))))) (pss_one (ps_if (pt_cmpR op_gt (pe_callB cl_len (by rfl) B_len (by decide +kernel) (pa_cons (pv 0) pa_nil)) pe_int (nomark _)) (pss_one (ps_set (i := 2) sc_law_draws.nd rfl (Or.inl rfl) (pe_op op_add (pe_op op_mod (pe_ix ix_list (pv 0) (pe_op op_mod (pv 1) (pe_callB cl_len (by rfl) B_len (by decide +kernel) (pa_cons (pv 0) pa_nil))) (fun _ _ => rfl)) (pe_op op_pow pe_int pe_int)) (pe_op op_mulX pe_int (pv 1))))) pss_nil)))
      (pss_one (ps_ret (pe_lst (pa_cons (pe_op op_mulX (pv 2) (pe_callTy cl_int1 (by rfl) B_int (by decide +kernel) (pa_cons (pe_cmpR op_ge (pv 2) (pe_op op_pow pe_int pe_int) (nomark _)) pa_nil))) (pa_cons (pe_op op_add pe_int (pe_op op_mod (pe_op op_add (pe_op op_mulX (pv 2) pe_int) (pe_op op_mulX pe_int (pe_op op_add (pv 1) pe_int))) pe_int)) pa_nil))))))), ?_⟩
  rw [st_law_draws]
  try dsimp only [Cx.nox, Cx.wish, Cx.blk, cx_K]
  walk_at "go"
  refine r_cut (fun σ H' => H' = H ∧ ∃ c : Int, σ = [some (.ref a), some (.int k), some (.int c)] ∧ Sz 500 c) ?_ ?_
  · walk_at "go"
    refine if_2 (fun hx => ?_) (fun hx => ?_)
    · have hx := of_decide_eq_true hx
      rw [List.length_map] at hx
      obtain ⟨z, hz, _⟩ := at_ints h0 hx
      walk_at "go"
      refine r_ixL hS hz ?_
      walk_at "go"
      exact ⟨rfl, _, rfl, by walk_at "szm"⟩
    · have hx := of_decide_eq_false hx
      rw [List.length_map] at hx
      walk_at "go"
      refine if_2 (fun hy => ?_) (fun hy => ?_)
      · have hy := of_decide_eq_true hy
        obtain ⟨z, hz, _⟩ := at_ints (ns := ns) (i := k % ((ns.map V.int).length : Nat)) (Int.emod_nonneg _ (by omega)) (by
          have := Int.emod_lt_of_pos k hy
          rw [List.length_map] at this ⊢
          exact this)
        walk_at "go"
        refine r_ixL hS hz ?_
        walk_at "go"
        refine ⟨rfl, _, rfl, (Sz.small ?_).mono (by decide)⟩
        omega
      · walk_at "go"
        refine ⟨rfl, _, rfl, (Sz.small ?_).mono (by decide)⟩
        omega
  rintro σ H' ⟨rfl, c, rfl, zc⟩
  walk_at "go"
  rename_i d H1 nd e1 hd
  exact q _ _ nd e1 ⟨_, _, hd, by omega, by omega⟩

end
/-- a digit below n is drawn -/
def sp_law_draw (_ : PySem.W.Frag) : Sp := fun vs H Q _ => ∃ (d : Addr) (n : Int), vs = [.ref d, .int n] ∧ Dr H d ∧ 0 < n ∧ Sz 4000 n ∧ ∀ v H', 0 ≤ v → v < n → Kp d H H' → Dr H' d → Q (.int v) H'
theorem use_law_draw {K : PySem.W.Frag} {H : Hp} {Q : VK} {E : XK} {d : Addr} {n : Int} (D : Dr H d) (p : 0 < n) (z : Sz 4000 n) (k : ∀ v H', 0 ≤ v → v < n → Kp d H H' → Dr H' d → Q (.int v) H') : sp_law_draw K [.ref d, .int n] H Q E := ⟨d, n, rfl, D, p, z, k⟩
abbrev s_law_draw : Stmt := topS 13
abbrev nm_law_draw : List Str := ["draws", "many", "found"]
theorem sc_law_draw : FnScope nm_law_draw ["draws", "many"] (defScope s_law_draw) := ⟨rfl, rfl, rfl, by decide +kernel, rfl, by decide +kernel, by decide +kernel⟩
theorem st_law_draw {v0 v1 : V} : start nm_law_draw [v0, v1] = [some v0, some v1, none] := rfl
section
variable {P : Program} {w : World} {K : PySem.W.Frag} {mg : Str → Option Value} {base : Heap}
theorem ok_law_draw (D : DefAt K mg "_law_draw" s_law_draw ["draws", "many"]) : Has P w K mg base CX0 2 "_law_draw" ["draws", "many"] (sp_law_draw K) := by
  refine D.ok sc_law_draw (by rintro _ _ _ _ ⟨_, _, rfl, _⟩; rfl) (fun f cdv A outer s H vs Q E hr h => ?_)
  obtain ⟨d, n, rfl, ⟨x, y, hd, y0, y1⟩, hn, zn, k⟩ := h
  have zy : Sz 200 y := by
    show y.natAbs < 2 ^ 200
    omega
  refine ⟨_, (pss_cons (ps_if (pt_cmpR op_gt (pe_ix ix_list (pv 0) pe_int (fun _ _ => rfl)) pe_int (nomark _)) (pss_cons (ps_set (i := 2) sc_law_draw.nd rfl (Or.inl rfl) (pe_op op_mod (pe_ix ix_list (pv 0) pe_int (fun _ _ => rfl)) (pv 1)))
        (pss_cons (ps_asg (pe_op op_fdivW (pe_ix ix_list (pv 0) pe_int (fun _ _ => rfl)) (pv 1)) (pg_sub (pv 0) pe_int set_list))
        (pss_one (ps_ret (pv 2))))) pss_nil)
      (pss_cons (ps_asg (pe_op op_mod (pe_op op_mulX (pe_ix ix_list (pv 0) pe_int (fun _ _ => rfl)) pe_int) pe_int) (pg_sub (pv 0) pe_int set_list))
      (pss_one (ps_ret (pe_op op_mod (pe_op op_fdivW (pe_op op_mod (pe_op op_mulX (pe_ix ix_list (pv 0) pe_int (fun _ _ => rfl)) (pe_op op_add (pe_op op_fdivW (pe_ix ix_list (pv 0) pe_int (fun _ _ => rfl)) pe_int) pe_int)) pe_int) pe_int) (pv 1)))))), ?_⟩
  rw [st_law_draw]
  try dsimp only [Cx.nox, Cx.wish, Cx.blk, cx_K]
  walk_at "go"
  refine if_2 (fun hx => ?_) (fun hx => ?_)
  · walk_at "go"
    refine r_setL (k0 := 0) hd (by rfl) ?_
    walk_at "go"
    exact k _ _ (Int.emod_nonneg _ (by omega)) (Int.emod_lt_of_pos _ hn) Kp.upd ⟨_, _, upd_same, y0, y1⟩
  · walk_at "go"
    refine r_setL (k0 := 1) hd (by rfl) ?_
    have hd2 : (upd H d (.lst [.int x, .int (y * 69621 % 2147483647)])) d = some (.lst [.int x, .int (y * 69621 % 2147483647)]) := upd_same
    walk_at "go"
    exact k _ _ (Int.emod_nonneg _ (by omega)) (Int.emod_lt_of_pos _ hn) Kp.upd ⟨_, _, upd_same, Int.emod_nonneg _ (by decide), Int.emod_lt_of_pos _ (by decide)⟩

end
def sp_law_figures (_ : PySem.W.Frag) : Sp := fun vs H Q _ => ∃ (d : Addr) (n : Int), vs = [.ref d, .int n] ∧ Dr H d ∧ 0 < n ∧ n ≤ 20 ∧ ∀ v H', Sz 600 v → v.natAbs < 1000000 ^ n.toNat → Kp d H H' → Dr H' d → Q (.int v) H'
theorem use_law_figuresB {K : PySem.W.Frag} {H : Hp} {Q : VK} {E : XK} {d : Addr} {n : Int} (D : Dr H d) (p : 0 < n) (z : n ≤ 20) (k : ∀ v H', Sz 600 v → v.natAbs < 1000000 ^ n.toNat → Kp d H H' → Dr H' d → Q (.int v) H') : sp_law_figures K [.ref d, .int n] H Q E := ⟨d, n, rfl, D, p, z, k⟩
theorem use_law_figures {K : PySem.W.Frag} {H : Hp} {Q : VK} {E : XK} {d : Addr} {n : Int} (D : Dr H d) (p : 0 < n) (z : n ≤ 20) (k : ∀ v H', Sz 600 v → Kp d H H' → Dr H' d → Q (.int v) H') : sp_law_figures K [.ref d, .int n] H Q E := ⟨d, n, rfl, D, p, z, fun v H' z _ => k v H' z⟩
abbrev s_law_figures : Stmt := topS 14
abbrev nm_law_figures : List Str := ["draws", "most", "number", "k"]
theorem sc_law_figures : FnScope nm_law_figures ["draws", "most"] (defScope s_law_figures) := ⟨rfl, rfl, rfl, by decide +kernel, rfl, by decide +kernel, by decide +kernel⟩
theorem st_law_figures {v0 v1 : V} : start nm_law_figures [v0, v1] = [some v0, some v1, none, none] := rfl
section
variable {P : Program} {w : World} {K : PySem.W.Frag} {mg : Str → Option Value} {base : Heap}
theorem ok_law_figures (D : DefAt K mg "_law_figures" s_law_figures ["draws", "most"]) (B_range : mg "range" = none) (G__law_draw : Has P w K mg base CX0 2 "_law_draw" ["draws", "many"] (sp_law_draw K)) : Has P w K mg base CX0 3 "_law_figures" ["draws", "most"] (sp_law_figures K) := by
  refine D.ok sc_law_figures (by rintro _ _ _ _ ⟨_, _, rfl, _⟩; rfl) (fun f cdv A outer s H vs Q E hr h => ?_)
  obtain ⟨d, n, rfl, D, hn, h20, k⟩ := h
  refine ⟨_, (pss_cons (ps_set (i := 2) sc_law_figures.nd rfl (Or.inl rfl) (pcall G__law_draw (hr.mono (by decide)) (pa_cons (pv 0) (pa_cons (pe_op op_pow pe_int pe_int) pa_nil))))
      (pss_cons (ps_for PassesOwn.never rfl (pi_range1 rfl B_range (pa_cons (pcall G__law_draw (hr.mono (by decide)) (pa_cons (pv 0) (pa_cons (pv 1) pa_nil))) pa_nil)) (pg_name (i := 3) sc_law_figures.nd rfl (Or.inl rfl))
        (pss_one (ps_set (i := 2) sc_law_figures.nd rfl (Or.inl rfl) (pe_op op_add (pe_op op_mulX (pv 2) (pe_op op_pow pe_int pe_int)) (pcall G__law_draw (hr.mono (by decide)) (pa_cons (pv 0) (pa_cons (pe_op op_pow pe_int pe_int) pa_nil)))))))
      (pss_one (ps_ret (pe_ix ix_list (pe_lst (pa_cons (pv 2) (pa_cons (pe_op op_sub pe_int (pv 2)) (pa_cons (pe_op op_sub (pe_op op_mod (pv 2) pe_int) pe_int) pa_nil)))) (pcall G__law_draw (hr.mono (by decide)) (pa_cons (pv 0) (pa_cons pe_int pa_nil))) (fun _ _ => rfl)))))), ?_⟩
  rw [st_law_figures]
  try dsimp only [Cx.nox, Cx.wish, Cx.blk, cx_K]
  walk_at "go"
  refine use_law_draw D (by decide) (Sz.mono (n := 200) Sz.lit (by decide)) fun v1 H1 a1 b1 k1 D1 => ?_
  walk_at "go"
  refine use_law_draw D1 hn (Sz.mono (n := 200) (Sz.small (by omega)) (by decide)) fun v2 H2 a2 b2 k2 D2 => ?_
  walk_at "go"
  refine r_rng1 (by omega) (by omega) ?_
  refine for_rng (fun i σ H' => ∃ (w : Int) (o : Option V), σ = [some (.ref d), some (.int n), some (.int w), o] ∧ Kp d H H' ∧ Dr H' d ∧ 0 ≤ w ∧ w < ((1000000 ^ (i + 1) : Nat) : Int)) ⟨v1, none, rfl, k1.trans k2, D2, a1, b1⟩ ?_ ?_
  · rintro i σ H' hi ⟨w', o, rfl, kk, DD, w0, w1⟩
    have zw : Sz 600 w' := by
      refine Sz.lt (y := ((1000000 ^ 22 : Nat) : Int)) ?_ w0 (Int.lt_of_lt_of_le w1 (Int.ofNat_le.mpr (Nat.pow_le_pow_right (by decide) (by omega))))
      show ((1000000 ^ 22 : Nat) : Int).natAbs < 2 ^ 600
      decide +kernel
    walk_at "go"
    refine use_law_draw DD (by decide) (Sz.mono (n := 200) Sz.lit (by decide)) fun v3 H3 a3 b3 k3 D3 => ?_
    walk_at "go"
    refine ⟨_, _, rfl, kk.trans k3, D3, ?_, ?_⟩
    · omega
    · rw [Nat.pow_succ]
      generalize 1000000 ^ (i + 1) = z at w1 ⊢
      omega
  · rintro σ H' ⟨w', o, rfl, kk, DD, w0, w1⟩
    have zw : Sz 598 w' := by
      refine Sz.lt (y := ((1000000 ^ 22 : Nat) : Int)) ?_ w0 (Int.lt_of_lt_of_le w1 (Int.ofNat_le.mpr (Nat.pow_le_pow_right (by decide) (by omega))))
      show ((1000000 ^ 22 : Nat) : Int).natAbs < 2 ^ 598
      decide +kernel
    walk_at "go"
    rename_i l H3 nl e3 hl
    refine use_law_draw (DD.up e3) (by decide) (Sz.mono (n := 200) Sz.lit (by decide)) fun v3 H4 a3 b3 k3 D3 => ?_
    walk_at "go"
    obtain ⟨v, hv, hv'⟩ := at_3 (x := .int w') (y := .int (0 - w')) (z := .int (w' % 7 - 3)) a3 b3
    have ndl : l ≠ d := DD.free nl
    refine r_ixL (SqL.of (k3 _ _ ndl hl)) hv ?_
    walk_at "go"
    have w2 : w'.natAbs < 1000000 ^ n.toNat := by
      have l1 : (1000000 : Nat) ^ (v2.toNat + 1) ≤ 1000000 ^ n.toNat := Nat.pow_le_pow_right (by decide) (by omega)
      generalize (1000000 : Nat) ^ (v2.toNat + 1) = z1 at w1 l1
      generalize (1000000 : Nat) ^ n.toNat = z2 at l1 ⊢
      omega
    have l2 : (1000000 : Nat) ^ 1 ≤ 1000000 ^ n.toNat := Nat.pow_le_pow_right (by decide) (by omega)
    obtain ⟨u, rfl, zu, bu⟩ : ∃ u, v = .int u ∧ Sz 600 u ∧ u.natAbs < 1000000 ^ n.toNat := by
      generalize (1000000 : Nat) ^ n.toNat = z2 at w2 l2 ⊢
      rcases hv' with rfl | rfl | rfl
      · exact ⟨_, rfl, zw.mono (by decide), w2⟩
      · refine ⟨_, rfl, ?_, by omega⟩
        rw [Int.zero_sub]
        exact zw.neg.mono (by decide)
      · exact ⟨_, rfl, (Sz.small (by omega)).mono (by decide), by omega⟩
    exact k _ _ zu bu (kk.trans (e3.kp.trans k3)) D3

end
def sp_law_bottom (_ : PySem.W.Frag) : Sp := fun vs H Q _ => ∃ (d : Addr), vs = [.ref d] ∧ Dr H d ∧ ∀ m H', 1 ≤ m → m ≤ 100000000000000000000000000000 → Kp d H H' → Dr H' d → Q (.int m) H'
theorem use_law_bottom {K : PySem.W.Frag} {H : Hp} {Q : VK} {E : XK} {d : Addr} (D : Dr H d) (k : ∀ m H', 1 ≤ m → m ≤ 100000000000000000000000000000 → Kp d H H' → Dr H' d → Q (.int m) H') : sp_law_bottom K [.ref d] H Q E := ⟨d, rfl, D, k⟩
abbrev s_law_bottom : Stmt := topS 15
abbrev nm_law_bottom : List Str := ["draws", "way"]
theorem sc_law_bottom : FnScope nm_law_bottom ["draws"] (defScope s_law_bottom) := ⟨rfl, rfl, rfl, by decide +kernel, rfl, by decide +kernel, by decide +kernel⟩
theorem st_law_bottom {v0 : V} : start nm_law_bottom [v0] = [some v0, none] := rfl
section
variable {P : Program} {w : World} {K : PySem.W.Frag} {mg : Str → Option Value} {base : Heap}
theorem ok_law_bottom (D : DefAt K mg "_law_bottom" s_law_bottom ["draws"]) (B_abs : mg "abs" = none) (G__law_draw : Has P w K mg base CX0 2 "_law_draw" ["draws", "many"] (sp_law_draw K)) (G__law_figures : Has P w K mg base CX0 3 "_law_figures" ["draws", "most"] (sp_law_figures K)) : Has P w K mg base CX0 4 "_law_bottom" ["draws"] (sp_law_bottom K) := by
  refine D.ok sc_law_bottom (by rintro _ _ _ _ ⟨_, rfl, _⟩; rfl) (fun f cdv A outer s H vs Q E hr h => ?_)
  obtain ⟨d, rfl, D0, k⟩ := h
  refine ⟨_, (pss_cons (ps_set (i := 1) sc_law_bottom.nd rfl (Or.inl rfl) (pcall G__law_draw (hr.mono (by decide)) (pa_cons (pv 0) (pa_cons pe_int pa_nil))))
      (pss_cons (ps_if (pt_cmpR op_eq (pv 1) pe_int (nomark _)) (pss_one (ps_ret (pe_op op_add pe_int (pe_op op_mod (pe_callB cl_abs (by rfl) B_abs (by decide +kernel) (pa_cons (pcall G__law_figures (hr.mono (by decide)) (pa_cons (pv 0) (pa_cons pe_int pa_nil))) pa_nil)) (pe_op op_pow pe_int pe_int))))) pss_nil)
      (pss_one (ps_ret (pe_op op_add pe_int (pcall G__law_draw (hr.mono (by decide)) (pa_cons (pv 0) (pa_cons (pe_ix ix_list (pe_lst (pa_cons pe_int (pa_cons pe_int (pa_cons (pe_op op_pow pe_int pe_int) pa_nil)))) (pv 1) (fun _ _ => rfl)) pa_nil)))))))), ?_⟩
  rw [st_law_bottom]
  try dsimp only [Cx.nox, Cx.wish, Cx.blk, cx_K]
  walk_at "go"
  refine use_law_draw D0 (by decide) (Sz.mono (n := 200) Sz.lit (by decide)) fun v1 H1 a1 b1 k1 D1 => ?_
  walk_at "go"
  refine if_2 (fun hx => ?_) (fun hx => ?_)
  · walk_at "go"
    refine use_law_figures D1 (by decide) (by decide) fun v2 H2 z2 k2 D2 => ?_
    walk_at "go"
    exact k _ _ (by omega) (by omega) (k1.trans k2) D2
  · have hx := of_decide_eq_false hx
    walk_at "go"
    rename_i l H2 nl e2 hl
    obtain ⟨v, hv, hv'⟩ := at_3 (x := .int 9) (y := .int 60) (z := .int 1000000) a1 (show v1 < 3 by omega)
    refine r_ixL (SqL.of hl) hv ?_
    walk_at "go"
    obtain ⟨u, rfl, u0, u1⟩ : ∃ u : Int, v = .int u ∧ 0 < u ∧ u ≤ 1000000 := by
      rcases hv' with rfl | rfl | rfl
      · exact ⟨_, rfl, by decide, by decide⟩
      · exact ⟨_, rfl, by decide, by decide⟩
      · exact ⟨_, rfl, by decide, by decide⟩
    refine use_law_draw (D1.up e2) u0 (Sz.mono (n := 200) (Sz.small (by omega)) (by decide)) fun v3 H3 a3 b3 k3 D3 => ?_
    walk_at "go"
    exact k _ _ (by omega) (by omega) (k1.trans (e2.kp.trans k3)) D3

end
/-! whole parts -/
theorem div_split (a b k : Int) {m : Int} (hm : 0 < m) : (a * k + b) / m = a / m * k + b / m + (a % m * k + b % m) / m := by
  have ea := Int.emod_add_mul_ediv a m
  have eb := Int.emod_add_mul_ediv b m
  have e : a * k + b = (a % m * k + b % m) + m * (a / m * k + b / m) := by
    have h1 : a * k = a % m * k + m * (a / m) * k := by
      rw [← Int.add_mul, ea]
    rw [h1, Int.mul_add, Int.mul_assoc]
    omega
  rw [e, Int.add_mul_ediv_left _ _ (by omega : m ≠ 0)]
  omega
theorem mod_split (a b k : Int) {m : Int} : (a * k + b) % m = (a % m * k + b % m) % m := by
  have ea := Int.emod_add_mul_ediv a m
  have eb := Int.emod_add_mul_ediv b m
  have e : a * k + b = (a % m * k + b % m) + m * (a / m * k + b / m) := by
    have h1 : a * k = a % m * k + m * (a / m) * k := by
      rw [← Int.add_mul, ea]
    rw [h1, Int.mul_add, Int.mul_assoc]
    omega
  rw [e, Int.add_mul_emod_self_left]

--@ needs Div
/-! sums, whole parts of many fractions -/
def sm (f : Nat → Int) : Nat → Int
  | 0 => 0
  | n + 1 => sm f n + f n
theorem sm_congr {f g : Nat → Int} : ∀ {n : Nat}, (∀ i, i < n → f i = g i) → sm f n = sm g n
  | 0, _ => rfl
  | n + 1, h => by
    show sm f n + f n = sm g n + g n
    rw [sm_congr (fun i hi => h i (by omega)), h n (by omega)]
theorem sm_add {f : Nat → Int} (n : Nat) : ∀ k : Nat, sm f (n + k) = sm f n + sm (fun i => f (n + i)) k
  | 0 => by
    show sm f n = sm f n + 0
    omega
  | k + 1 => by
    show sm f (n + k) + f (n + k) = sm f n + (sm (fun i => f (n + i)) k + f (n + k))
    rw [sm_add n k]
    omega
theorem sm_plus {f g : Nat → Int} : ∀ n : Nat, sm (fun i => f i + g i) n = sm f n + sm g n
  | 0 => rfl
  | n + 1 => by
    show sm (fun i => f i + g i) n + (f n + g n) = sm f n + f n + (sm g n + g n)
    rw [sm_plus n]
    omega
theorem sm_mul {f : Nat → Int} (c : Int) : ∀ n : Nat, sm (fun i => c * f i) n = c * sm f n
  | 0 => by show (0 : Int) = c * 0; rw [Int.mul_zero]
  | n + 1 => by
    show sm (fun i => c * f i) n + c * f n = c * (sm f n + f n)
    rw [sm_mul c n, Int.mul_add]
theorem sm_const (c : Int) : ∀ n : Nat, sm (fun _ => c) n = c * n
  | 0 => by show (0 : Int) = c * 0; rw [Int.mul_zero]
  | n + 1 => by
    show sm (fun _ => c) n + c = c * ((n : Int) + 1)
    rw [sm_const c n, Int.mul_add, Int.mul_one]
theorem sm_first {f : Nat → Int} : ∀ n : Nat, sm f (n + 1) = f 0 + sm (fun i => f (i + 1)) n
  | 0 => by
    show 0 + f 0 = f 0 + 0
    omega
  | n + 1 => by
    show sm f (n + 1) + f (n + 1) = f 0 + (sm (fun i => f (i + 1)) n + f (n + 1))
    rw [sm_first n]
    omega
theorem sm_rev {f : Nat → Int} : ∀ n : Nat, sm f n = sm (fun i => f (n - 1 - i)) n
  | 0 => rfl
  | n + 1 => by
    rw [sm_first (f := fun i => f (n + 1 - 1 - i))]
    show sm f n + f n = f (n + 1 - 1 - 0) + sm (fun i => f (n + 1 - 1 - (i + 1))) n
    rw [sm_rev n, sm_congr (g := fun i => f (n + 1 - 1 - (i + 1))) (fun i hi => by
      show f (n - 1 - i) = f (n + 1 - 1 - (i + 1))
      congr 1
      omega)]
    show _ + f n = f n + _
    omega
theorem sm_tri : ∀ n : Nat, 2 * sm (fun i => (i : Int)) n = (n : Int) * (n - 1)
  | 0 => rfl
  | n + 1 => by
    show 2 * (sm (fun i => (i : Int)) n + n) = ((n : Int) + 1) * ((n : Int) + 1 - 1)
    rw [Int.mul_add, sm_tri n, show (n : Int) + 1 - 1 = n by omega, Int.add_mul, Int.mul_sub]
    omega
theorem sm_tri2 (n : Nat) : (n : Int) * (n - 1) / 2 = sm (fun i => (i : Int)) n := by
  rw [← sm_tri n]
  omega
/-- the sum of the whole parts of (a k + b) / m over the first n places -/
@[irreducible] def fs (n : Nat) (a b m : Int) : Int := sm (fun k => (a * k + b) / m) n
theorem fs_zero (a b m : Int) : fs 0 a b m = 0 := by unfold fs; rfl
theorem fs_succ (n : Nat) (a b m : Int) : fs (n + 1) a b m = fs n a b m + (a * n + b) / m := by unfold fs; rfl
theorem fs_split (n : Nat) (a b : Int) {m : Int} (hm : 0 < m) : fs n a b m = a / m * ((n : Int) * (n - 1) / 2) + b / m * n + fs n (a % m) (b % m) m := by
  rw [sm_tri2]
  unfold fs
  rw [sm_congr (g := fun k : Nat => (a / m * (k : Int) + b / m) + (a % m * k + b % m) / m) (fun i _ => div_split a b i hm)]
  rw [sm_plus, sm_plus, sm_mul, sm_const]
theorem ediv_is {x m q : Int} (hm : 0 < m) (h0 : q * m ≤ x) (h1 : x < (q + 1) * m) : x / m = q := by
  have e1 : q ≤ x / m := (Int.le_ediv_iff_mul_le hm).mpr h0
  have e2 : x / m < q + 1 := (Int.ediv_lt_iff_lt_mul hm).mpr h1
  omega
/-- the places below a height -/
@[irreducible] def fsH (n : Int) (s m r : Int) (c : Nat) : Int := sm (fun i => n + (s - m * ((i : Int) + 1)) / r) c
theorem fsH_step (n s m r : Int) (c : Nat) : fsH (n + 1) s m r c = fsH n s m r c + c := by
  unfold fsH
  rw [sm_congr (g := fun i : Nat => (n + (s - m * ((i : Int) + 1)) / r) + 1) (fun i _ => by omega), sm_plus, sm_const]
  omega
/-- the turn: (r k + s) / m over n places, by m and r exchanged -/
theorem fs_turnH (s : Int) {m r : Int} (hr : 0 < r) (s0 : 0 ≤ s) (s1 : s < m) : ∀ n : Nat, fs n r s m = fsH n s m r ((r * n + s) / m).toNat := by
  have hm : 0 < m := by omega
  intro n
  induction n with
  | zero =>
    rw [show r * ((0 : Nat) : Int) + s = s by rw [show ((0 : Nat) : Int) = 0 from rfl, Int.mul_zero]; omega, Int.ediv_eq_zero_of_lt s0 s1]
    unfold fs fsH
    rfl
  | succ n ih =>
    rw [fs_succ, ih]
    generalize hy : (r * (n : Int) + s) / m = y
    generalize hz : (r * ((n + 1 : Nat) : Int) + s) / m = z
    have hn1 : r * ((n + 1 : Nat) : Int) + s = r * n + s + r := by
      rw [show ((n + 1 : Nat) : Int) = (n : Int) + 1 from rfl, Int.mul_add, Int.mul_one]
      omega
    have rn : 0 ≤ r * (n : Int) := Int.mul_nonneg (by omega) (by omega)
    have y0 : 0 ≤ y := by
      rw [← hy]
      exact Int.ediv_nonneg (by omega) (by omega)
    have yz : y ≤ z := by
      rw [← hy, ← hz, hn1]
      exact Int.ediv_le_ediv hm (by omega)
    obtain ⟨Y, hY⟩ : ∃ Y : Nat, y = Y := ⟨y.toNat, by omega⟩
    obtain ⟨D, hD⟩ : ∃ D : Nat, z = Y + D := ⟨(z - y).toNat, by omega⟩
    have eY : y.toNat = Y := by omega
    have eZ : z.toNat = Y + D := by omega
    rw [eY, eZ]
    show fsH n s m r Y + y = fsH (((n : Nat) : Int) + 1) s m r (Y + D)
    have e3 : fsH (((n : Nat) : Int) + 1) s m r (Y + D) = fsH (((n : Nat) : Int) + 1) s m r Y + sm (fun i => ((n : Nat) : Int) + 1 + (s - m * (((Y + i : Nat) : Int) + 1)) / r) D := by
      unfold fsH
      exact sm_add Y D
    rw [e3, fsH_step, sm_congr (g := fun _ => 0) (fun i hi => ?_), sm_const]
    · omega
    · have b1 : m * (((Y + i : Nat) : Int) + 1) ≤ r * n + s + r := by
        have h1 : z * m ≤ r * n + s + r := by
          rw [← hz, hn1]
          exact Int.ediv_mul_le _ (by omega)
        have h2 : (((Y + i : Nat) : Int) + 1) * m ≤ z * m := Int.mul_le_mul_of_nonneg_right (by omega) (by omega)
        rw [Int.mul_comm]
        omega
      have b2 : r * n + s < m * (((Y + i : Nat) : Int) + 1) := by
        have h1 : r * n + s < (y + 1) * m := by
          rw [← hy]
          exact Int.lt_ediv_add_one_mul_self _ hm
        have h2 : (y + 1) * m ≤ (((Y + i : Nat) : Int) + 1) * m := Int.mul_le_mul_of_nonneg_right (by omega) (by omega)
        rw [Int.mul_comm m]
        omega
      have q : (s - m * (((Y + i : Nat) : Int) + 1)) / r = -((n : Int) + 1) := by
        refine ediv_is hr ?_ ?_
        · rw [Int.neg_mul, Int.add_mul, Int.one_mul, Int.mul_comm (n : Int) r]
          omega
        · rw [show -((n : Int) + 1) + 1 = -(n : Int) by omega, Int.neg_mul, Int.mul_comm (n : Int) r]
          omega
      show ((n : Nat) : Int) + 1 + (s - m * (((Y + i : Nat) : Int) + 1)) / r = 0
      rw [q]
      omega
theorem fs_turn (n : Nat) (s : Int) {m r : Int} (hr : 0 ≤ r) (s0 : 0 ≤ s) (s1 : s < m) : fs n r s m = fs ((r * n + s) / m).toNat m ((r * n + s) % m) r := by
  have hm : 0 < m := by omega
  by_cases h : r = 0
  · subst h
    rw [Int.zero_mul, Int.zero_add, Int.ediv_eq_zero_of_lt s0 s1]
    rw [show Int.toNat 0 = 0 from rfl, fs_zero]
    unfold fs
    rw [sm_congr (g := fun _ => 0) (fun i _ => by rw [Int.zero_mul, Int.zero_add, Int.ediv_eq_zero_of_lt s0 s1]), sm_const]
    omega
  · rw [fs_turnH s (by omega) s0 s1 n]
    generalize hy : (r * (n : Int) + s) / m = y
    have rn : 0 ≤ r * (n : Int) := Int.mul_nonneg hr (by omega)
    have y0 : 0 ≤ y := by
      rw [← hy]
      exact Int.ediv_nonneg (by omega) (by omega)
    unfold fsH fs
    rw [sm_rev]
    refine sm_congr fun i hi => ?_
    have e := Int.emod_add_mul_ediv (r * n + s) m
    rw [hy] at e
    have c : (((y.toNat - 1 - i : Nat) : Int) + 1) = y - i := by omega
    show (n : Int) + (s - m * (((y.toNat - 1 - i : Nat) : Int) + 1)) / r = (m * (i : Int) + (r * n + s) % m) / r
    rw [c, show m * (i : Int) + (r * n + s) % m = (s - m * (y - i)) + r * n by rw [Int.mul_sub]; omega, Int.add_mul_ediv_left _ _ h]
    omega
theorem fs_loop (n : Nat) (a b : Int) {m : Int} (hm : 0 < m) :
    fs n a b m = a / m * ((n : Int) * (n - 1) / 2) + b / m * n + fs ((a % m * n + b % m) / m).toNat m ((a % m * n + b % m) % m) (a % m) := by
  rw [fs_split n a b hm, fs_turn n (b % m) (Int.emod_nonneg _ (by omega)) (Int.emod_nonneg _ (by omega)) (Int.emod_lt_of_pos _ hm)]
/-- the law's own turn, from the last place -/
theorem fs_quick (b : Int) {m a : Int} (a0 : 0 ≤ a) (b0 : 0 ≤ b) (b1 : b < m) : ∀ L : Nat, fs (L + 1) a b m = (L : Int) * ((a * L + b) / m) - fs ((a * L + b) / m).toNat m (m - b - 1) a := by
  have hm : 0 < m := by omega
  intro L
  induction L with
  | zero =>
    rw [show a * ((0 : Nat) : Int) + b = b by rw [show ((0 : Nat) : Int) = 0 from rfl, Int.mul_zero]; omega, Int.ediv_eq_zero_of_lt b0 b1, fs_succ]
    rw [show a * ((0 : Nat) : Int) + b = b by rw [show ((0 : Nat) : Int) = 0 from rfl, Int.mul_zero]; omega, Int.ediv_eq_zero_of_lt b0 b1, fs_zero, show Int.toNat 0 = 0 from rfl, fs_zero]
    rfl
  | succ n ih =>
    rw [fs_succ, ih]
    generalize hy : (a * (n : Int) + b) / m = y
    generalize hz : (a * ((n + 1 : Nat) : Int) + b) / m = z
    have hn1 : a * ((n + 1 : Nat) : Int) + b = a * n + b + a := by
      rw [show ((n + 1 : Nat) : Int) = (n : Int) + 1 from rfl, Int.mul_add, Int.mul_one]
      omega
    have rn : 0 ≤ a * (n : Int) := Int.mul_nonneg a0 (by omega)
    have y0 : 0 ≤ y := by
      rw [← hy]
      exact Int.ediv_nonneg (by omega) (by omega)
    have yz : y ≤ z := by
      rw [← hy, ← hz, hn1]
      exact Int.ediv_le_ediv hm (by omega)
    obtain ⟨Y, hY⟩ : ∃ Y : Nat, y = Y := ⟨y.toNat, by omega⟩
    obtain ⟨D, hD⟩ : ∃ D : Nat, z = Y + D := ⟨(z - y).toNat, by omega⟩
    have eY : y.toNat = Y := by omega
    have eZ : z.toNat = Y + D := by omega
    rw [eY, eZ]
    have e3 : fs (Y + D) m (m - b - 1) a = fs Y m (m - b - 1) a + sm (fun i => (m * ((Y + i : Nat) : Int) + (m - b - 1)) / a) D := by
      unfold fs
      exact sm_add Y D
    rw [e3, sm_congr (g := fun _ => (n : Int)) (fun i hi => ?_), sm_const, hD, hY]
    · rw [show ((n + 1 : Nat) : Int) = (n : Int) + 1 from rfl, Int.add_mul, Int.one_mul, Int.mul_add]
      omega
    · have b1' : (((Y + i : Nat) : Int) + 1) * m ≤ a * n + b + a := by
        have h1 : z * m ≤ a * n + b + a := by
          rw [← hz, hn1]
          exact Int.ediv_mul_le _ (by omega)
        have h2 : (((Y + i : Nat) : Int) + 1) * m ≤ z * m := Int.mul_le_mul_of_nonneg_right (by omega) (by omega)
        omega
      have b2 : a * n + b < (((Y + i : Nat) : Int) + 1) * m := by
        have h1 : a * n + b < (y + 1) * m := by
          rw [← hy]
          exact Int.lt_ediv_add_one_mul_self _ hm
        have h2 : (y + 1) * m ≤ (((Y + i : Nat) : Int) + 1) * m := Int.mul_le_mul_of_nonneg_right (by omega) (by omega)
        omega
      have ap : 0 < a := by omega
      show (m * ((Y + i : Nat) : Int) + (m - b - 1)) / a = (n : Int)
      have h3 : (((Y + i : Nat) : Int) + 1) * m = m * ((Y + i : Nat) : Int) + m := by rw [Int.add_mul, Int.one_mul, Int.mul_comm m]
      rw [h3] at b1' b2
      refine ediv_is ap ?_ ?_
      · rw [Int.mul_comm (n : Int) a]
        omega
      · rw [Int.add_mul, Int.one_mul, Int.mul_comm (n : Int) a]
        omega
theorem fs_add (n k : Nat) (a b m : Int) : fs (n + k) a b m = fs n a b m + fs k a (a * n + b) m := by
  unfold fs
  rw [sm_add]
  congr 1
  refine sm_congr fun i _ => ?_
  show (a * ((n + i : Nat) : Int) + b) / m = (a * (i : Int) + (a * (n : Int) + b)) / m
  rw [show ((n + i : Nat) : Int) = (n : Int) + i from rfl, Int.mul_add]
  congr 1
  omega
theorem fs_a (n : Nat) (a b y : Int) {m : Int} (hm : 0 < m) : fs n (a + y * m) b m = fs n a b m + y * ((n : Int) * (n - 1) / 2) := by
  rw [sm_tri2, ← sm_mul]
  unfold fs
  rw [← sm_plus]
  refine sm_congr fun i _ => ?_
  show ((a + y * m) * (i : Int) + b) / m = (a * (i : Int) + b) / m + y * (i : Int)
  rw [show (a + y * m) * (i : Int) + b = (a * i + b) + m * (y * i) by
    rw [Int.add_mul, Int.mul_comm y m, Int.mul_assoc]
    omega, Int.add_mul_ediv_left _ _ (by omega : m ≠ 0)]
theorem fs_b (n : Nat) (a b y : Int) {m : Int} (hm : 0 < m) : fs n a (b + y * m) m = fs n a b m + y * n := by
  rw [← sm_const]
  unfold fs
  rw [← sm_plus]
  refine sm_congr fun i _ => ?_
  show (a * (i : Int) + (b + y * m)) / m = (a * (i : Int) + b) / m + y
  rw [show a * (i : Int) + (b + y * m) = (a * i + b) + m * y by
    rw [Int.mul_comm y m]
    omega, Int.add_mul_ediv_left _ _ (by omega : m ≠ 0)]
theorem fs_rev (n : Nat) (a b m : Int) : fs n (0 - a) (a * (n - 1) + b) m = fs n a b m := by
  unfold fs
  rw [sm_rev]
  refine sm_congr fun i hi => ?_
  show ((0 - a) * ((n - 1 - i : Nat) : Int) + (a * ((n : Int) - 1) + b)) / m = (a * (i : Int) + b) / m
  rw [show ((n - 1 - i : Nat) : Int) = (n : Int) - 1 - i by omega, Int.sub_mul, Int.zero_mul, Int.mul_sub a _ (i : Int)]
  congr 1
  omega

--@ needs Sum
/-- so many heights from a place on -/
def hts (a b m k : Int) (n : Nat) : List Int := (List.range n).map fun (i : Nat) => (a * (k + (i : Int)) + b) / m
theorem hts_sum (a b m : Int) : ∀ n : Nat, (hts a b m 0 n).sum = fs n a b m
  | 0 => by rw [fs_zero]; rfl
  | n + 1 => by
    have h := hts_sum a b m n
    unfold hts at h ⊢
    rw [List.range_succ, List.map_append, List.sum_append, h, fs_succ]
    simp
theorem hts_len (a b m k : Int) (n : Nat) : (hts a b m k n).length = n := by
  unfold hts
  rw [List.length_map, List.length_range]

def sp_law_heights (_ : PySem.W.Frag) : Sp := fun vs H Q _ => ∃ (p : Addr) (a b m k n : Int), vs = [.ref p, .int k, .int n] ∧ H p = some (.tup [.int a, .int b, .int m]) ∧ 0 < m ∧ Sz 2000 a ∧ Sz 2000 m ∧ Sz 2000 k ∧ 0 ≤ n ∧ n ≤ 50000 ∧ ∀ l H', H l = none → Ex H H' → H' l = some (.lst ((hts a b m k n.toNat).map V.int)) → Q (.ref l) H'
theorem use_law_heightsB {K : PySem.W.Frag} {H : Hp} {Q : VK} {E : XK} {p : Addr} {a b m k n : Int} (h : H p = some (.tup [.int a, .int b, .int m])) (hm : 0 < m) (za : Sz 2000 a) (zm : Sz 2000 m) (zk : Sz 2000 k) (n0 : 0 ≤ n) (n1 : n ≤ 50000)
    (q : ∀ l H', H l = none → Ex H H' → H' l = some (.lst ((hts a b m k n.toNat).map V.int)) → Q (.ref l) H') : sp_law_heights K [.ref p, .int k, .int n] H Q E := ⟨p, a, b, m, k, n, rfl, h, hm, za, zm, zk, n0, n1, q⟩
theorem use_law_heights {K : PySem.W.Frag} {H : Hp} {Q : VK} {E : XK} {p : Addr} {a b m k n : Int} (h : H p = some (.tup [.int a, .int b, .int m])) (hm : 0 < m) (za : Sz 2000 a) (zm : Sz 2000 m) (k0 : -(2 ^ 60) ≤ k) (k1 : k < 2 ^ 60) (n0 : 0 ≤ n) (n1 : n ≤ 50000)
    (q : ∀ l H', H l = none → Ex H H' → H' l = some (.lst ((hts a b m k n.toNat).map V.int)) → Q (.ref l) H') : sp_law_heights K [.ref p, .int k, .int n] H Q E := use_law_heightsB h hm za zm (show k.natAbs < 2 ^ 2000 from Nat.lt_of_lt_of_le (show k.natAbs < 2 ^ 61 by omega) (Nat.pow_le_pow_right (by decide) (by decide))) n0 n1 q
abbrev s_law_heights : Stmt := topS 11
abbrev nm_law_heights : List Str := ["stair", "k", "n", "a", "b", "m", "place"]
theorem sc_law_heights : FnScope nm_law_heights ["stair", "k", "n"] (defScope s_law_heights) := ⟨rfl, rfl, rfl, by decide +kernel, rfl, by decide +kernel, by decide +kernel⟩
theorem st_law_heights {v0 v1 v2 : V} : start nm_law_heights [v0, v1, v2] = [some v0, some v1, some v2, none, none, none, none] := rfl
section
variable {P : Program} {w : World} {K : PySem.W.Frag} {mg : Str → Option Value} {base : Heap}
theorem ok_law_heights (D : DefAt K mg "_law_heights" s_law_heights ["stair", "k", "n"]) (B_range : mg "range" = none) : Has P w K mg base CX0 2 "_law_heights" ["stair", "k", "n"] (sp_law_heights K) := by
  refine D.ok sc_law_heights (by rintro _ _ _ _ ⟨_, _, _, _, _, _, rfl, _⟩; rfl) (fun f cdv A outer s H vs Q E hr h => ?_)
  obtain ⟨p, a, b, m, k, n, rfl, hp, hm, za, zm, zk, n0, n1, q⟩ := h
  refine ⟨_, (pss_cons (ps_asg (pv 0) (pg_tup (by rfl) (pgs_cons (pg_name (i := 3) sc_law_heights.nd rfl (Or.inr rfl)) (pgs_cons (pg_name (i := 4) sc_law_heights.nd rfl (Or.inr rfl)) (pgs_cons (pg_name (i := 5) sc_law_heights.nd rfl (Or.inr rfl)) pgs_nil)))))
      (pss_one (ps_ret (pe_lc rfl sc_law_heights.nd (pi_rng2 rfl B_range (pa_cons (pv 1) (pa_cons (pe_op op_add (pv 1) (pv 2)) pa_nil))) (blkOk_by (own := [("place", 6)]) (N := nm_law_heights) (sc := defScope s_law_heights) (by decide +kernel)) (fun _ _ _ _ _ => (pg_name (i := 6) sc_law_heights.nd rfl (Or.inl rfl))) (fun _ _ _ _ _ => pts_nil) (fun _ _ _ _ _ => (pe_op op_fdivW (pe_op op_add (pe_op op_mulX (pv 3) (pv 6)) (pv 4)) (pv 5))))))), ?_⟩
  rw [st_law_heights]
  try dsimp only [Cx.nox, Cx.wish, Cx.blk, cx_K]
  walk_at "go"
  refine r_rngL ?_
  have en : (k + n - k).toNat = n.toNat := by omega
  rw [en]
  refine lc_rngP (fun i => .int ((a * (k + i) + b) / m)) (by omega) (fun _ => rfl) (fun i hi H1 e1 QE kE => ?_) (fun l H1 nl e1 hl => ?_)
  · have zi : Sz 200 (i : Int) := Sz.small (by omega)
    try dsimp only [wipe, List.set_cons_succ, List.set_cons_zero]
    walk_at "go"
    exact kE _ Ex.refl
  · walk_at "go"
    refine q _ _ nl e1 ?_
    rw [hl]
    unfold hts
    rw [List.map_map]
    rfl

end
/-! texts as lists of signs -/
abbrev TS1 (l : List Nat) : Str := SX.S l
def lit (s : String) : List Nat := s.toList.map Char.toNat
theorem lit_S (s : String) : Str.ofString s = SX.S (lit s) := TL.ext_tl (TL.tl_ofString s)
theorem lit_e : lit "" = [] := by decide +kernel
theorem lit_k : lit "k" = [107] := by decide +kernel
theorem lit_plus : lit "+" = [43] := by decide +kernel
theorem lit_minus : lit "-" = [45] := by decide +kernel
theorem lit_m0 : lit "-0" = [45, 48] := by decide +kernel
theorem lit_z : lit "0" = [48] := by decide +kernel
theorem lit_bar : lit "/" = [47] := by decide +kernel
theorem lit_sp : lit " " = [32] := by decide +kernel
theorem lit_nl : lit "\n" = [10] := by decide +kernel
theorem lit_dig : lit "0123456789" = [48, 49, 50, 51, 52, 53, 54, 55, 56, 57] := by decide +kernel
theorem lit_pm : lit "+-" = [43, 45] := by decide +kernel
/-! the rules, with names -/
def rInSg (neg : Bool) : R2 := fun x y H Q => ∃ (c : Nat) (z : Str), x = .str ⟨#[c]⟩ ∧ y = .str z ∧ Q (.bl (if neg then !decide (c ∈ z.cps.toList) else decide (c ∈ z.cps.toList))) H
theorem op_inS {X : Cx} : OpR X (compareOp .In) (rInSg false) := op_in_sign
theorem op_notInS {X : Cx} : OpR X (compareOp .NotIn) (rInSg true) := op_notIn_sign
def rAddS : R2 := fun x y H Q => ∃ i j, x = .str i ∧ y = .str j ∧ i.length + j.length ≤ sizeLine ∧ Q (.str (i ++ j)) H
theorem op_addS {X : Cx} : OpR X (binaryOp .Add) rAddS := op_add_str
def rSplitS : V → List V → Hp → VK → Prop := fun x xs H Q => ∃ a b, x = .str a ∧ xs = [.str b] ∧ (b.length == 0) = false ∧ a.length + 2 ≤ sizeLine ∧ rNewStrs (Txt.split a b) H Q
theorem mt_splitR {X : Cx} : MtR X "str.split" rSplitS := mt_split
def rFindS : V → List V → Hp → VK → Prop := fun x xs H Q => ∃ a b, x = .str a ∧ xs = [.str b] ∧ Q (.int (Txt.find a b)) H
theorem mt_findR {X : Cx} : MtR X "str.find" rFindS := mt_find
def rIntS : List V → Hp → VK → Prop := fun xs H Q => ∃ a n, xs = [.str a] ∧ PySem.intText? a = some n ∧ a.length ≤ 640 ∧ Q (.int n) H
theorem call_intS {X : Cx} : CallR X (.type "int") rIntS := call_int_str
def rRepS : R2 := fun x y H Q => ∃ a k, x = .str a ∧ y = .int k ∧ 0 ≤ k ∧ k ≤ 100 ∧ a.length ≤ 100000 ∧ Q (.str (Txt.mul a k)) H
theorem op_repS {X : Cx} : OpR X (binaryOp .Mult) rRepS := by
  intro pins s σ H x y v u Q I rx ry h
  obtain ⟨a, k, rfl, rfl, k0, k1, hl, q⟩ := h
  obtain ⟨t, rfl⟩ := rx
  obtain ⟨t', rfl⟩ := ry
  refine SB.mul ⟨?_, fun h1 h2 => ?_, fun h1 h2 => ?_⟩ fun t2 tk => ⟨.str (Txt.mul a k), H, I.tok _, ⟨_, rfl⟩, q⟩
  · rw [decide_eq_false (show ¬ k < -(2 ^ 63 : Int) by omega), decide_eq_false (show ¬ k ≥ 2 ^ 63 by omega)]; rfl
  · have k2 : 1 ≤ k := by omega
    have h3 : (a.length : Int) ≤ (2 ^ 63 - 1) / k := by
      refine (Int.le_ediv_iff_mul_le (by omega)).mpr ?_
      have h4 : (a.length : Int) * k ≤ 100000 * 100 := Int.mul_le_mul (by omega) k1 k0 (by decide)
      exact Int.le_trans h4 (by decide)
    omega
  · have : a.length * k.toNat ≤ 100000 * 100 := Nat.mul_le_mul hl (by omega)
    have h5 : 100000 * 100 ≤ sizeLine := by decide
    exact decide_eq_false (by omega)
theorem tcut_to {l : List Nat} {i : Int} (h : 0 ≤ i) : cutS (SX.S l) none (some i) = SX.S (l.take i.toNat) := (C8.cutS_slice _ _ _).trans (SX.slice_to h)
theorem tcut_from {l : List Nat} {i : Int} (h : 0 ≤ i) : cutS (SX.S l) (some i) none = SX.S (l.drop i.toNat) := (C8.cutS_slice _ _ _).trans (SX.slice_from h)
theorem tcut_mid {l : List Nat} {i j : Int} (h : 0 ≤ i) (h' : 0 ≤ j) : cutS (SX.S l) (some i) (some j) = SX.S ((l.take j.toNat).drop i.toNat) := by
  have e1 : HT.sIx (SX.S l).length 0 (some i) = min i.toNat l.length := by
    rw [SX.S_len]
    unfold HT.sIx
    simp
    omega
  have e2 : HT.sIx (SX.S l).length (SX.S l).length (some j) = min j.toNat l.length := by
    rw [SX.S_len]
    unfold HT.sIx
    simp
    omega
  unfold cutS
  rw [e1, e2]
  show SX.S ((l.drop (min i.toNat l.length)).take (min j.toNat l.length - min i.toNat l.length)) = _
  congr 1
  rw [List.drop_take]
  by_cases c : i.toNat ≤ l.length
  · rw [Nat.min_eq_left c]
    by_cases c2 : j.toNat ≤ l.length
    · rw [Nat.min_eq_left c2]
    · rw [Nat.min_eq_right (a := j.toNat) (b := l.length) (by omega), List.take_of_length_le (by rw [List.length_drop]; omega), List.take_of_length_le (by rw [List.length_drop]; omega)]
  · rw [Nat.min_eq_right (a := i.toNat) (b := l.length) (by omega), List.drop_eq_nil_of_le (Nat.le_refl _), List.drop_eq_nil_of_le (by omega), List.take_nil, List.take_nil]
theorem len_S {l : List Nat} (h : l.length ≤ 1000000) : (SX.S l).length ≤ sizeLine := by
  rw [SX.S_len]
  exact Nat.le_trans h (by decide)
/-- a whole number, written -/
def numI (i : Int) : List Nat := if i < 0 then 45 :: TL.numL i.natAbs else TL.numL i.natAbs
theorem strI_S (i : Int) : Str.ofString (toString i) = SX.S (numI i) := by
  unfold numI
  cases i with
  | ofNat n =>
    rw [if_neg (by show ¬ ((n : Int) < 0); omega)]
    exact SX.num_S n
  | negSucc n =>
    rw [if_pos (Int.negSucc_lt_zero n)]
    have e : toString (Int.negSucc n) = "-" ++ toString ((n + 1 : Nat) : Int) := rfl
    have e2 := congrArg (fun x : Str => x.cps.toList) (SX.num_S (n + 1))
    rw [e, lit_S]
    congr 1
    unfold lit
    rw [String.toList_append, List.map_append]
    have e3 : (toString ((n + 1 : Nat) : Int)).toList.map Char.toNat = TL.numL (n + 1) := by
      have := TL.tl_ofString (toString ((n + 1 : Nat) : Int))
      rw [← this]
      exact e2
    rw [e3]
    rfl
theorem find_S {l : List Nat} {c : Nat} : Txt.find (SX.S l) (SX.S [c]) = if c ∈ l then (l.idxOf c : Int) else -1 := by
  unfold Txt.find
  have at1 : ∀ i, StrLaws.At (SX.S l) (SX.S [c]) (SX.S l).length i ↔ l[i]? = some c := fun i => by
    rw [TL.at_iff (by simp) i]
    show ((l.drop i).take 1 == [c]) = true ↔ _
    rw [beq_iff_eq]
    cases hd : l.drop i with
    | nil =>
      have := List.drop_eq_nil_iff.mp hd
      rw [List.getElem?_eq_none this]
      simp
    | cons x r =>
      have : l[i]? = some x := by
        rw [← List.head?_drop, hd]
        rfl
      rw [this]
      simp
  rcases StrLaws.occ_head (SX.S l) (SX.S [c]) 1 (Nat.le_refl _) with ⟨h0, hn⟩ | ⟨i, r, h0, hi, hn⟩
  · rw [h0, if_neg]
    intro hm
    obtain ⟨j, hj⟩ := List.getElem?_of_mem hm
    exact hn j ((at1 j).mpr hj)
  · have gi := (at1 i).mp hi
    have lt := (List.getElem?_eq_some_iff.mp gi).1
    rw [h0, if_pos (List.mem_of_getElem? gi)]
    show (i : Int) = _
    have e : l.idxOf c = i := by
      have h2 : l.idxOf c ≤ i := by
        have := List.getElem?_eq_some_iff.mp gi
        refine Nat.le_of_not_lt fun hlt => ?_
        have := List.not_of_lt_findIdx (p := (· == c)) (xs := l) (i := i) hlt
        simp_all
      have h3 : ¬ l.idxOf c < i := fun hlt => hn _ hlt ((at1 _).mpr (by
        rw [List.getElem?_eq_getElem (by omega)]
        rw [List.getElem_idxOf]))
      omega
    rw [e]
section
variable {K : PySem.W.Frag} {σ : L2.St} {H : Hp} {Q : VK} {te : TE} {tt : TT} {x y : Str} {l m : List Nat} {i j k : Int} {c : Nat} {p : Addr} {xs : List V}
theorem r_slTo (hx : x = SX.S l) (h : 0 ≤ i) (n : l.length ≤ 1000000) (q : Q (.str (SX.S (l.take i.toNat))) H) : rSlS (.str x) none (some i) H Q := by
  subst hx
  exact ⟨_, rfl, len_S n, by rw [tcut_to h]; exact q⟩
theorem r_slFrom (hx : x = SX.S l) (h : 0 ≤ i) (n : l.length ≤ 1000000) (q : Q (.str (SX.S (l.drop i.toNat))) H) : rSlS (.str x) (some i) none H Q := by
  subst hx
  exact ⟨_, rfl, len_S n, by rw [tcut_from h]; exact q⟩
theorem r_slMid (hx : x = SX.S l) (h : 0 ≤ i) (h' : 0 ≤ j) (n : l.length ≤ 1000000) (q : Q (.str (SX.S ((l.take j.toNat).drop i.toNat))) H) : rSlS (.str x) (some i) (some j) H Q := by
  subst hx
  exact ⟨_, rfl, len_S n, by rw [tcut_mid h h']; exact q⟩
theorem r_addS (hx : x = SX.S l) (hy : y = SX.S m) (n : l.length ≤ 1000000) (n' : m.length ≤ 1000000) (q : Q (.str (SX.S (l ++ m))) H) : rAddS (.str x) (.str y) H Q := by
  subst hx hy
  refine ⟨_, _, rfl, rfl, ?_, by rw [SX.S_cat]; exact q⟩
  rw [SX.S_len, SX.S_len]
  exact Nat.le_trans (Nat.add_le_add n n') (by decide)
theorem r_eqSS' (hx : x = SX.S l) (hy : y = SX.S m) (q : Q (.bl (decide (l = m))) H) : rEq (.str x) (.str y) H Q := by
  subst hx hy
  refine r_eqS ?_
  rw [SX.S_beq_eq]
  exact q
theorem r_neSS' (hx : x = SX.S l) (hy : y = SX.S m) (q : Q (.bl (!decide (l = m))) H) : rNe (.str x) (.str y) H Q := by
  subst hx hy
  refine r_neS ?_
  rw [SX.S_beq_eq]
  exact q
theorem r_inS (hy : y = SX.S m) (q : Q (.bl (decide (c ∈ m))) H) : rInSg false (.str (SX.S [c])) (.str y) H Q := by
  subst hy
  exact ⟨c, _, rfl, rfl, q⟩
theorem r_ninS (hy : y = SX.S m) (q : Q (.bl (!decide (c ∈ m))) H) : rInSg true (.str (SX.S [c])) (.str y) H Q := by
  subst hy
  exact ⟨c, _, rfl, rfl, q⟩
theorem r_ixS (hx : x = SX.S l) (h : 0 ≤ i) (g : l[i.toNat]? = some c) (n : l.length ≤ 1000000) (q : Q (.str (SX.S [c])) H) : rIxS (.str x) (.int i) H Q := by
  subst hx
  refine ⟨_, _, c, rfl, rfl, len_S n, ?_, q⟩
  have lt := (List.getElem?_eq_some_iff.mp g).1
  show (ixN l.length i).bind (fun j => l[j]?) = some c
  have e : ixN l.length i = some i.toNat := by
    unfold ixN
    repeat' split
    all_goals first | rfl | omega | (congr 1; omega)
  rw [e]
  exact g
theorem r_lenSS (hx : x = SX.S l) (n : l.length ≤ 1000000) (q : Q (.int (l.length : Nat)) H) : rLenStr [.str x] H Q := by
  subst hx
  refine r_lenS (len_S n) ?_
  rw [SX.S_len]
  exact q
theorem r_strI (n : Sz 1900 i) (q : Q (.str (SX.S (numI i))) H) : rStrI [.int i] H Q := ⟨i, rfl, by
  have := n
  unfold Sz at this
  by_cases z : i.natAbs = 0
  · rw [z]; decide
  · exact Nat.lt_of_lt_of_le ((Nat.log2_lt z).mpr this) (by decide), by
  show Q (.str (Str.ofString (toString i))) H
  rw [strI_S]
  exact q⟩
theorem r_findS (hx : x = SX.S l) (hy : y = SX.S [c]) (q : Q (.int (if c ∈ l then (l.idxOf c : Int) else -1)) H) : rFindS (.str x) [.str y] H Q := by
  subst hx hy
  exact ⟨_, _, rfl, rfl, by rw [find_S]; exact q⟩
theorem r_splitS (hx : x = SX.S l) (hy : y = SX.S [c]) (hc : c < 256) (n : l.length ≤ 1000000) (q : ∀ p H1, H p = none → Ex H H1 → H1 p = some (.lst ((TL.spl [c] 0 [] l).map fun z => .str (SX.S z))) → Q (.ref p) H1) : rSplitS (.str x) [.str y] H Q := by
  subst hx hy
  refine ⟨_, _, rfl, rfl, rfl, ?_, fun p hp => q p _ hp (Ex.new hp) ?_⟩
  · rw [SX.S_len]
    exact Nat.le_trans (Nat.add_le_add_right n 2) (by decide)
  · rw [upd_same, SX.split_S (by simp) (by simp [hc]), List.map_map]
    rfl
theorem r_intS {n : Int} (hx : x = SX.S l) (g : PySem.intText? (SX.S l) = some n) (hl : l.length ≤ 640) (q : Q (.int n) H) : rIntS [.str x] H Q := by
  subst hx
  exact ⟨_, n, rfl, g, by rw [SX.S_len]; exact hl, q⟩
theorem mul_S {k : Int} (k0 : 0 ≤ k) : Txt.mul (SX.S l) k = SX.S (List.replicate k.toNat l).flatten := by
  unfold Txt.mul
  by_cases h1 : k < 1
  · rw [if_pos h1, show k.toNat = 0 by omega]
    rfl
  · rw [if_neg h1]
    have fl : ∀ (n : Nat) (acc : Array Nat), ((List.replicate n l.toArray).foldl (· ++ ·) acc).toList = acc.toList ++ (List.replicate n l).flatten := by
      intro n
      induction n with
      | zero => intro acc; simp
      | succ n ih =>
        intro acc
        rw [List.replicate_succ, List.foldl_cons, ih, List.replicate_succ, List.flatten_cons]
        simp
    by_cases h2 : (k == 1 || (SX.S l).length == 0) = true
    · rw [if_pos h2]
      rw [Bool.or_eq_true, beq_iff_eq, beq_iff_eq, SX.S_len] at h2
      rcases h2 with rfl | h2
      · simp
      · rw [List.eq_nil_of_length_eq_zero h2]
        congr 1
        simp
    · rw [if_neg h2]
      refine TL.ext_tl ?_
      show ((List.replicate k.toNat l.toArray).foldl (· ++ ·) #[]).toList = _
      rw [fl]
      rfl
theorem r_inL (h : SqL K H p xs) {v : V} (fx : flatV v = true) (fs : xs.all flatV = true) (q : Q (.bl (inV v xs)) H) : rIn K false v (.ref p) H Q := ⟨p, xs, rfl, .inl h, fx, fs, q⟩
theorem r_inT (h : SqT K H p xs) {v : V} (fx : flatV v = true) (fs : xs.all flatV = true) (q : Q (.bl (inV v xs)) H) : rIn K false v (.ref p) H Q := ⟨p, xs, rfl, .inr h, fx, fs, q⟩
theorem r_ninL (h : SqL K H p xs) {v : V} (fx : flatV v = true) (fs : xs.all flatV = true) (q : Q (.bl (!inV v xs)) H) : rIn K true v (.ref p) H Q := ⟨p, xs, rfl, .inl h, fx, fs, q⟩
theorem r_ninT (h : SqT K H p xs) {v : V} (fx : flatV v = true) (fs : xs.all flatV = true) (q : Q (.bl (!inV v xs)) H) : rIn K true v (.ref p) H Q := ⟨p, xs, rfl, .inr h, fx, fs, q⟩
theorem r_iStr {R : It → Hp → Prop} (k : te σ H fun v H1 => ∃ z, v = .str z ∧ R (Its z) H1) : iStr te σ H R := k
/-- [e for a sign in a text if t] -/
theorem lc_strF {vs : List Nat} {jj : Nat} (b : Nat → Bool) (f : Nat → V) (hn : l.length ≤ 1000000) (hw : ∀ v, wipe ((wipe σ vs).set jj (some v)) vs = wipe σ vs)
    (ht : ∀ z ∈ l, PureT tt ((wipe σ vs).set jj (some (.str (SX.S [z])))) H (b z)) (he : ∀ z ∈ l, b z = true → PureE te ((wipe σ vs).set jj (some (.str (SX.S [z])))) H (f z))
    (q : ∀ p H1, H p = none → Ex H H1 → H1 p = some (.lst ((l.filter b).map f)) → Q (.ref p) H1) : LcB (Its (SX.S l)) (gName jj) tt te vs σ H Q := fun Dl hD => by
  have sz : (SX.S l).cps.size = l.length := by simp [SX.S]
  refine lc_it walk_str (fun i H' => Ex H H' ∧ H' Dl = some (.lst (((l.take i).filter b).map f))) ⟨Ex.new hD, upd_same⟩ (fun _ _ _ _ => trivial) (fun i v G G' hi pv y => ?_) (fun H' p => q Dl H' hD p.1 (by rw [p.2, sz, List.take_length]))
  obtain ⟨rfl, c, hc, rfl⟩ := y
  have hc : l[i]? = some c := by
    have : (l.toArray)[i]? = some c := hc
    simpa using this
  have mem := List.mem_of_getElem? hc
  have tk : l.take (i + 1) = l.take i ++ [c] := by rw [List.take_add_one, hc]; rfl
  refine ⟨hw _, ht c mem _ pv.1 _ fun H2 e2 => ?_⟩
  cases hb : b c with
  | true =>
    rw [if_pos rfl]
    refine he c mem hb H2 (pv.1.trans e2) _ fun H3 e3 => ⟨_, e3 _ _ (e2 _ _ pv.2), ?_, ?_⟩
    · rw [List.length_map]
      have := List.length_filter_le b (l.take i)
      rw [List.length_take] at this
      exact Nat.lt_of_le_of_lt (show _ ≤ 1000000 by omega) (by decide)
    · refine ⟨fun a o ho => ?_, ?_⟩
      · rw [upd_ne (ne_of_none ho hD)]
        exact e3 _ _ (e2 _ _ (pv.1 _ _ ho))
      · rw [upd_same, tk, List.filter_append, List.map_append]
        simp [hb]
  | false =>
    rw [if_neg Bool.false_ne_true]
    refine ⟨pv.1.trans e2, ?_⟩
    rw [tk, List.filter_append, List.map_append]
    simp [hb, e2 _ _ pv.2]
end
theorem L_e : Str.ofString "" = SX.S [] := (lit_S _).trans (congrArg SX.S lit_e)
theorem L_k : Str.ofString "k" = SX.S [107] := (lit_S _).trans (congrArg SX.S lit_k)
theorem L_plus : Str.ofString "+" = SX.S [43] := (lit_S _).trans (congrArg SX.S lit_plus)
theorem L_minus : Str.ofString "-" = SX.S [45] := (lit_S _).trans (congrArg SX.S lit_minus)
theorem L_m0 : Str.ofString "-0" = SX.S [45, 48] := (lit_S _).trans (congrArg SX.S lit_m0)
theorem L_z : Str.ofString "0" = SX.S [48] := (lit_S _).trans (congrArg SX.S lit_z)
theorem L_bar : Str.ofString "/" = SX.S [47] := (lit_S _).trans (congrArg SX.S lit_bar)
theorem L_sp : Str.ofString " " = SX.S [32] := (lit_S _).trans (congrArg SX.S lit_sp)
theorem L_nl : Str.ofString "\n" = SX.S [10] := (lit_S _).trans (congrArg SX.S lit_nl)
theorem L_dig : Str.ofString "0123456789" = SX.S [48, 49, 50, 51, 52, 53, 54, 55, 56, 57] := (lit_S _).trans (congrArg SX.S lit_dig)
theorem L_pm : Str.ofString "+-" = SX.S [43, 45] := (lit_S _).trans (congrArg SX.S lit_pm)
theorem r_strE {F : Str → Prop} {x : Str} {l : List Nat} (hx : x = SX.S l) (k : F (SX.S l)) : ∃ z, V.str x = .str z ∧ F z := ⟨_, rfl, by rw [hx]; exact k⟩
local macro_rules | `(tactic| walk_at "str") => `(tactic| first
  | with_reducible exact L_e | with_reducible exact L_k | with_reducible exact L_plus | with_reducible exact L_minus | with_reducible exact L_m0 | with_reducible exact L_z
  | with_reducible exact L_bar | with_reducible exact L_sp | with_reducible exact L_nl | with_reducible exact L_dig | with_reducible exact L_pm | with_reducible exact lit_S _ | with_reducible exact rfl | fail "no step")
local macro_rules | `(tactic| walk_at "len") => `(tactic| first
  | assumption | (simp only [List.length_take, List.length_drop, List.length_append, List.length_cons, List.length_nil, List.length_singleton]; omega) | omega | decide | fail "no step")
local macro_rules | `(tactic| walk_at "go1") => `(tactic| first
  | ((with_reducible refine r_slTo (l := ?l) ?a ?h ?n ?_); (case a => walk_at "str"); (case h => walk_at "pos"); (case n => walk_at "len"))
  | ((with_reducible refine r_slFrom (l := ?l) ?a ?h ?n ?_); (case a => walk_at "str"); (case h => walk_at "pos"); (case n => walk_at "len"))
  | ((with_reducible refine r_slMid (l := ?l) ?a ?h ?h2 ?n ?_); (case a => walk_at "str"); (case h => walk_at "pos"); (case h2 => walk_at "pos"); (case n => walk_at "len"))
  | ((with_reducible refine r_addS (l := ?l) (m := ?m) ?a ?b ?h ?n ?_); (case a => walk_at "str"); (case b => walk_at "str"); (case h => walk_at "len"); (case n => walk_at "len"))
  | ((with_reducible refine r_eqSS' (l := ?l) (m := ?m) ?a ?b ?_); (case a => walk_at "str"); (case b => walk_at "str"))
  | ((with_reducible refine r_neSS' (l := ?l) (m := ?m) ?a ?b ?_); (case a => walk_at "str"); (case b => walk_at "str"))
  | ((with_reducible refine r_inS (m := ?m) ?b ?_); (case b => walk_at "str"))
  | ((with_reducible refine r_ninS (m := ?m) ?b ?_); (case b => walk_at "str"))
  | ((with_reducible refine r_lenSS (l := ?l) ?a ?n ?_); (case a => walk_at "str"); (case n => walk_at "len"))
  | ((with_reducible refine r_strI ?n ?_); (case n => walk_at "szm"))
  | ((with_reducible refine r_splitS (l := ?l) (c := ?c) ?a ?b ?c2 ?n ?_); (case a => walk_at "str"); (case b => walk_at "str"); (case c2 => decide); (case n => walk_at "len"); intro _ _ _ _ _)
  | ((with_reducible refine r_findS (l := ?l) (c := ?c) ?a ?b ?_); (case a => walk_at "str"); (case b => walk_at "str"))
  | with_reducible refine r_iStr ?_
  | ((with_reducible refine r_strE (l := ?l) ?a ?_); (case a => walk_at "str"))
  | fail "no step")
theorem pcall0 {X : Cx} {x : Str} {p pos : Pos} {k : Nat} {sp : Sp} (G : Has X.prog X.w X.K X.mg X.base CX0 k x [] sp) (hr : Room k X.A) (hg : Gl X x := by rfl) (hdb : (x == ("__debug__" : Str)) = false := by decide) : PE X (.Call (.Name x p) [] [] pos) (tCal sp E0 tNil) := by
  obtain ⟨f, fd, m, kp, b, F⟩ := G
  have q := pe_call0 (p := p) (pos := pos) F hr hg m kp b (dvs := []) .nil pass0 hdb
  exact ⟨fun pins s σ H Q I h => q.run pins s σ H Q I h⟩

--@ needs TxtV
/-! the numbers that words write -/
def allD (l : List Nat) : Bool := l.all fun c => decide (48 ≤ c) && decide (c ≤ 57)
theorem allD_iff {l : List Nat} : allD l = true ↔ NumText.AllDigits l := by
  unfold allD NumText.AllDigits
  rw [List.all_eq_true]
  constructor
  · intro h c hc
    have := h c hc
    rw [Bool.and_eq_true, decide_eq_true_eq, decide_eq_true_eq] at this
    exact this
  · intro h c hc
    have := h c hc
    rw [decide_eq_true this.1, decide_eq_true this.2]
    rfl
def figs (l : List Nat) : List Nat := if l.take 1 = [45] then l.drop 1 else l
def nT (l : List Nat) : Option Int :=
  if (figs l).length < 1 ∨ 30 < (figs l).length ∨ l = [45, 48] then none
  else if allD (figs l) = false ∨ ((figs l)[0]? = some 48 ∧ 1 < (figs l).length) then none
  else some (if l.take 1 = [45] then -(NumText.digitsVal (figs l) : Int) else NumText.digitsVal (figs l))
theorem dv_snoc (g : List Nat) (d : Nat) : NumText.digitsVal (g ++ [d]) = NumText.digitsVal g * 10 + (d - 48) := by
  unfold NumText.digitsVal
  rw [List.foldl_append]
  rfl
theorem snoc_ind {P : List Nat → Prop} (h0 : P []) (h1 : ∀ g d, P g → P (g ++ [d])) (l : List Nat) : P l := by
  rw [← List.reverse_reverse (as := l)]
  induction l.reverse with
  | nil => exact h0
  | cons d g ih => rw [List.reverse_cons]; exact h1 _ _ ih
theorem dv_lt (f : List Nat) : NumText.AllDigits f → NumText.digitsVal f < 10 ^ f.length := by
  refine snoc_ind (P := fun f => NumText.AllDigits f → NumText.digitsVal f < 10 ^ f.length) (fun _ => by decide) (fun g d ih h => ?_) f
  have hg := ih fun c hc => h c (List.mem_append_left _ hc)
  have hd := h d (by simp)
  rw [dv_snoc, List.length_append, List.length_singleton, Nat.pow_succ]
  omega
theorem numL_head {n : Nat} (h : 1 ≤ n) : (TL.numL n)[0]? ≠ some 48 := by
  induction n using Nat.strongRecOn with
  | _ n ih =>
    by_cases h10 : n < 10
    · rw [TL.numL_lt h10]
      simp
      omega
    · rw [TL.numL_step (by omega)]
      have := ih (n / 10) (by omega) (by omega)
      rw [List.getElem?_append_left (List.length_pos_iff.mpr (TL.numL_ne _))]
      exact this
theorem numL_back (f : List Nat) : NumText.AllDigits f → f ≠ [] → (f[0]? = some 48 → f.length ≤ 1) → TL.numL (NumText.digitsVal f) = f := by
  refine snoc_ind (P := fun f => NumText.AllDigits f → f ≠ [] → (f[0]? = some 48 → f.length ≤ 1) → TL.numL (NumText.digitsVal f) = f) (fun _ h => (h rfl).elim) (fun g d ih h _ hz => ?_) f
  have hd := h d (by simp)
  by_cases hg : g = []
  · subst hg
    have : NumText.digitsVal ([] ++ [d]) = d - 48 := by rw [dv_snoc]; show 0 * 10 + _ = _; omega
    rw [this, TL.numL_lt (by omega)]
    show [48 + (d - 48)] = [d]
    congr 1
    omega
  · have gl := List.length_pos_iff.mpr hg
    have h0 : g[0]? ≠ some 48 := fun z => by
      have := hz (by rw [List.getElem?_append_left gl]; exact z)
      rw [List.length_append, List.length_singleton] at this
      omega
    have e := ih (fun c hc => h c (List.mem_append_left _ hc)) hg (fun z => (h0 z).elim)
    have n1 : 1 ≤ NumText.digitsVal g := by
      refine Nat.one_le_iff_ne_zero.mpr fun z => h0 ?_
      rw [z, TL.numL_lt (by decide)] at e
      rw [← e]
      rfl
    rw [dv_snoc, TL.numL_step (by omega), show (NumText.digitsVal g * 10 + (d - 48)) / 10 = NumText.digitsVal g by omega, show (NumText.digitsVal g * 10 + (d - 48)) % 10 = d - 48 by omega, e]
    congr 2
    omega
theorem numI_neg {n : Int} (h : n < 0) : numI n = 45 :: TL.numL n.natAbs := by unfold numI; rw [if_pos h]
theorem numI_nn {n : Int} (h : 0 ≤ n) : numI n = TL.numL n.natAbs := by unfold numI; rw [if_neg (by omega)]
theorem numL_no45 (n : Nat) : (TL.numL n).take 1 ≠ [45] := by
  intro h
  have : 45 ∈ (TL.numL n).take 1 := by rw [h]; simp
  exact TL.numL_free (s := 45) (by omega) (List.mem_of_mem_take this)
theorem nT_iff {l : List Nat} {n : Int} : nT l = some n ↔ l = numI n ∧ n.natAbs < 10 ^ 30 := by
  constructor
  · intro h
    unfold nT at h
    split at h
    · cases h
    · rename_i h1
      split at h
      · cases h
      · rename_i h2
        have hA : NumText.AllDigits (figs l) := by
          refine allD_iff.mp ?_
          cases z : allD (figs l)
          · exact (h2 (.inl z)).elim
          · rfl
        have hne : figs l ≠ [] := fun z => h1 (.inl (by rw [z]; decide))
        have h48 : (figs l)[0]? = some 48 → (figs l).length ≤ 1 := fun z => by
          refine Nat.le_of_not_lt fun z2 => h2 (.inr ⟨z, z2⟩)
        have eb := numL_back _ hA hne h48
        have lt : NumText.digitsVal (figs l) < 10 ^ 30 := Nat.lt_of_lt_of_le (dv_lt _ hA) (Nat.pow_le_pow_right (by decide) (Nat.le_of_not_lt fun z => h1 (.inr (.inl z))))
        by_cases h45 : l.take 1 = [45]
        · rw [if_pos h45] at h
          have hf : figs l = l.drop 1 := by unfold figs; rw [if_pos h45]
          have hl : l = 45 :: figs l := by
            rw [hf]
            have := List.take_append_drop 1 l
            rw [h45] at this
            exact this.symm
          have n1 : 1 ≤ NumText.digitsVal (figs l) := by
            refine Nat.one_le_iff_ne_zero.mpr fun z => h1 (.inr (.inr ?_))
            rw [z, TL.numL_lt (by decide)] at eb
            rw [hl, ← eb]
          have e := Option.some.inj h
          refine ⟨?_, by omega⟩
          rw [numI_neg (by omega), show n.natAbs = NumText.digitsVal (figs l) by omega, eb]
          exact hl
        · rw [if_neg h45] at h
          have hf : figs l = l := by unfold figs; rw [if_neg h45]
          have e := Option.some.inj h
          refine ⟨?_, by omega⟩
          rw [numI_nn (by omega), show n.natAbs = NumText.digitsVal (figs l) by omega, eb, hf]
  · rintro ⟨rfl, hn⟩
    have len := TL.numL_len (n := n.natAbs) (k := 30) (by decide) hn
    have ne := TL.numL_ne n.natAbs
    have ll := List.length_pos_iff.mpr ne
    have ok : ¬ (allD (TL.numL n.natAbs) = false ∨ ((TL.numL n.natAbs)[0]? = some 48 ∧ 1 < (TL.numL n.natAbs).length)) := by
      rintro (h | ⟨h, h'⟩)
      · rw [allD_iff.mpr (TL.numL_digits _)] at h
        cases h
      · by_cases z : n.natAbs = 0
        · rw [z, TL.numL_lt (by decide)] at h'
          simp at h'
        · exact numL_head (by omega) h
    by_cases hs : n < 0
    · have hl := numI_neg hs
      have ht : (numI n).take 1 = [45] := by rw [hl]; rfl
      have hf : figs (numI n) = TL.numL n.natAbs := by unfold figs; rw [if_pos ht, hl]; rfl
      unfold nT
      rw [hf, if_neg, if_neg ok, if_pos ht, TL.numL_val]
      · congr 1
        omega
      · rintro (h | h | h)
        · omega
        · omega
        · rw [hl] at h
          have h := List.tail_eq_of_cons_eq h
          exact numL_head (n := n.natAbs) (by omega) (by rw [h]; rfl)
    · have hl := numI_nn (n := n) (by omega)
      have ht : (numI n).take 1 ≠ [45] := by rw [hl]; exact numL_no45 _
      have hf : figs (numI n) = TL.numL n.natAbs := by unfold figs; rw [if_neg ht, hl]
      unfold nT
      rw [hf, if_neg, if_neg ok, if_neg ht, TL.numL_val]
      · congr 1
        omega
      · rintro (h | h | h)
        · omega
        · omega
        · rw [h] at ht
          exact ht rfl
theorem nT_int {l : List Nat} {n : Int} (h : nT l = some n) : PySem.intText? (SX.S l) = some n := by
  obtain ⟨hl, hn⟩ := nT_iff.mp h
  have len := TL.numL_len (n := n.natAbs) (k := 30) (by decide) hn
  by_cases hs : n < 0
  · rw [numI_neg hs] at hl
    subst hl
    refine (PySem.intText_neg (x := SX.S (45 :: TL.numL n.natAbs)) (cs := TL.numL n.natAbs) rfl (TL.numL_digits _) (TL.numL_ne _) ?_).trans ?_
    · rw [SX.S_len, List.length_cons]
      omega
    · rw [TL.numL_val]
      congr 1
      omega
  · rw [numI_nn (by omega)] at hl
    subst hl
    refine (PySem.intText_digits (x := SX.S (TL.numL n.natAbs)) (TL.numL_digits _) (TL.numL_ne _) ?_).trans ?_
    · rw [SX.S_len]
      omega
    · show some ((NumText.digitsVal (TL.numL n.natAbs) : Nat) : Int) = _
      rw [TL.numL_val]
      congr 1
      omega
theorem nT_len {l : List Nat} {n : Int} (h : nT l = some n) : l.length ≤ 31 := by
  obtain ⟨rfl, hn⟩ := nT_iff.mp h
  have len := TL.numL_len (n := n.natAbs) (k := 30) (by decide) hn
  unfold numI
  split
  · rw [List.length_cons]; omega
  · omega
def oI : Option Int → V
  | none => .non
  | some n => .int n
theorem dig_in (z : Nat) : decide (z ∈ [48, 49, 50, 51, 52, 53, 54, 55, 56, 57]) = (decide (48 ≤ z) && decide (z ≤ 57)) := by
  rw [← Bool.decide_and]
  refine decide_eq_decide.mpr ?_
  simp only [List.mem_cons, List.not_mem_nil, or_false]
  omega
/-- plain signs -/
def okT (l : List Nat) : Prop := ∀ c ∈ l, c < 128
theorem okT.sub {l m : List Nat} (h : okT l) (s : ∀ c ∈ m, c ∈ l) : okT m := fun c hc => h c (s c hc)
theorem okT.take {l : List Nat} (h : okT l) (n : Nat) : okT (l.take n) := h.sub fun _ hc => List.mem_of_mem_take hc
theorem okT.drop {l : List Nat} (h : okT l) (n : Nat) : okT (l.drop n) := h.sub fun _ hc => List.mem_of_mem_drop hc
theorem okT.app {l m : List Nat} (h : okT l) (h' : okT m) : okT (l ++ m) := fun c hc => (List.mem_append.mp hc).elim (h c) (h' c)
theorem figs_sub (l : List Nat) : ∀ c ∈ figs l, c ∈ l := fun c hc => by
  unfold figs at hc
  split at hc
  · exact List.mem_of_mem_drop hc
  · exact hc
theorem strOk_S {l : List Nat} (h : okT l) : PyData.canLay0 (.str (SX.S l)) = true := by
  show PyData.strOk (SX.S l) = true
  unfold PyData.strOk
  show (l.toArray.all fun c => decide (c < 0x110000)) = true
  rw [Array.all_eq_true']
  intro c hc
  have := h c (by simpa using hc)
  exact decide_eq_true (by omega)
theorem eqv_nil (ds : List PyData) : PyData.eqv (.list ds) (.list []) = ds.isEmpty := by
  cases ds <;> rfl
/-- [sign for sign in figures if it is no figure] != [] -/
theorem nodig_nil (l : List Nat) : ((l.filter fun c => !(decide (48 ≤ c) && decide (c ≤ 57))).isEmpty) = allD l := by
  induction l with
  | nil => rfl
  | cons c l ih =>
    rw [List.filter_cons]
    unfold allD
    rw [List.all_cons]
    cases (decide (48 ≤ c) && decide (c ≤ 57))
    · rfl
    · exact ih
theorem dp_sgs {K : PySem.W.Frag} {H : Hp} : ∀ l : List Nat, DpAll K H (l.map fun c => .str (SX.S [c])) (l.map fun c => .str (SX.S [c]))
  | [] => .nil
  | c :: l => .cons (.str _) (dp_sgs l)
theorem shp_sgs {l : List Nat} (h : okT l) : SeqAt.shaped (.list (l.map fun c => .str (SX.S [c]))) = true := by
  have h1 : PyData.canLayAll0 (l.map fun c => .str (SX.S [c])) = true := by
    induction l with
    | nil => rfl
    | cons c l ih =>
      show (PyData.canLay0 (.str (SX.S [c])) && PyData.canLayAll0 (l.map fun c => .str (SX.S [c]))) = true
      rw [ih (fun d hd => h d (List.mem_cons_of_mem _ hd)), strOk_S (fun d hd => by rw [List.mem_singleton.mp hd]; exact h c (by simp))]
      rfl
  have h2 : PyData.depthAll (l.map fun c => .str (SX.S [c])) ≤ 1 := by
    induction l with
    | nil => exact Nat.zero_le _
    | cons c l ih =>
      have := ih (fun d hd => h d (List.mem_cons_of_mem _ hd))
      show max (PyData.depth (.str (SX.S [c]))) (PyData.depthAll (l.map fun c => .str (SX.S [c]))) ≤ 1
      have h3 : PyData.depth (.str (SX.S [c])) ≤ 1 := by unfold PyData.depth; omega
      have h4 := this (by
        have := h1
        rw [List.map_cons] at this
        have e : (PyData.canLay0 (.str (SX.S [c])) && PyData.canLayAll0 (l.map fun c => .str (SX.S [c]))) = true := this
        rw [Bool.and_eq_true] at e
        exact e.2)
      omega
  unfold SeqAt.shaped
  rw [Bool.and_eq_true]
  exact ⟨by unfold PyData.canLay0; exact h1, decide_eq_true (by unfold PyData.depth; omega)⟩

/-! things of any kind -/
def isW : V → Bool
  | .int _ => true
  | _ => false
/-- a thing by its kind -/
def Kd1 (H : Hp) (v : V) : Prop := (∃ i, v = .int i) ∨ (∃ b, v = .bl b) ∨ v = .non ∨ (∃ z, v = .str z) ∨ (∃ p xs, v = .ref p ∧ H p = some (.lst xs)) ∨ ∃ p xs, v = .ref p ∧ H p = some (.tup xs)
theorem Kd1.ex {H H' : Hp} {v : V} (h : Kd1 H v) (e : Ex H H') : Kd1 H' v := by
  rcases h with h | h | h | h | ⟨p, xs, h1, h2⟩ | ⟨p, xs, h1, h2⟩
  · exact .inl h
  · exact .inr (.inl h)
  · exact .inr (.inr (.inl h))
  · exact .inr (.inr (.inr (.inl h)))
  · exact .inr (.inr (.inr (.inr (.inl ⟨p, xs, h1, e _ _ h2⟩))))
  · exact .inr (.inr (.inr (.inr (.inr ⟨p, xs, h1, e _ _ h2⟩))))
def stB : List V → Bool
  | [.int _, .int _, .int m] => decide (1 ≤ m)
  | _ => false
section
variable {K : PySem.W.Frag} {H : Hp} {Q : VK}
theorem r_isi {x : V} {t : Value} {n : String} {b : Bool} (ty : TyOf K H x t) (e : PySem.W.kitOne K t (.type n) = some b) (k : Q (.bl b) H) : rIsi K [x, .ty n] H Q := ⟨_, _, _, _, _, rfl, .ty _, .base ty, e, k⟩
end
/-- what is no stair -/
def NoSt (H : Hp) (v : V) : Prop := (∃ p xs, v = .ref p ∧ H p = some (.tup xs) ∧ xs.length ≤ 1000 ∧ (∀ x ∈ xs, Kd1 H x) ∧ stB xs = false) ∨ (Kd1 H v ∧ ∀ p xs, v = .ref p → H p ≠ some (.tup xs))
theorem NoSt.ex {H H' : Hp} {v : V} (h : NoSt H v) (e : Ex H H') (nd : ∃ o, ∀ p, v = .ref p → H p = some o) : NoSt H' v := by
  rcases h with ⟨p, xs, h1, h2, h3, h4, h5⟩ | ⟨h1, h2⟩
  · exact .inl ⟨p, xs, h1, e _ _ h2, h3, fun x hx => (h4 x hx).ex e, h5⟩
  · refine .inr ⟨h1.ex e, fun p xs hp h' => ?_⟩
    obtain ⟨o, ho⟩ := nd
    have := ho p hp
    rw [e _ _ this] at h'
    cases h'
    exact h2 p xs hp this
theorem NoSt.up {H H' : Hp} {v : V} (h : NoSt H v) (e : Ex H H') : NoSt H' v := by
  refine h.ex e ?_
  rcases h with ⟨p, xs, h1, h2, _⟩ | ⟨h1, _⟩
  · exact ⟨_, fun q hq => by rw [h1] at hq; cases hq; exact h2⟩
  · rcases h1 with ⟨i, rfl⟩ | ⟨b, rfl⟩ | rfl | ⟨z, rfl⟩ | ⟨p, xs, h1, h2⟩ | ⟨p, xs, h1, h2⟩
    · exact ⟨.lst [], by intro p z; cases z⟩
    · exact ⟨.lst [], by intro p z; cases z⟩
    · exact ⟨.lst [], by intro p z; cases z⟩
    · exact ⟨.lst [], by intro p z; cases z⟩
    · exact ⟨_, fun q hq => by rw [h1] at hq; cases hq; exact h2⟩
    · exact ⟨_, fun q hq => by rw [h1] at hq; cases hq; exact h2⟩

--@ needs NumT ThingV
/-! texts cut at a sign; the text of a stair -/
def cutAt (c : Nat) : List Nat → List (List Nat)
  | [] => [[]]
  | x :: r => if x = c then [] :: cutAt c r else match cutAt c r with
    | p :: ps => (x :: p) :: ps
    | [] => [[x]]
theorem cutAt_hit {c : Nat} {r : List Nat} : cutAt c (c :: r) = [] :: cutAt c r := by
  show (if c = c then _ else _) = _
  rw [if_pos rfl]
theorem cutAt_miss {c x : Nat} {r p : List Nat} {ps : List (List Nat)} (h : x ≠ c) (e : cutAt c r = p :: ps) : cutAt c (x :: r) = (x :: p) :: ps := by
  show (if x = c then _ else _) = _
  rw [if_neg h, e]
theorem cutAt_ne (c : Nat) : ∀ l : List Nat, ∃ p ps, cutAt c l = p :: ps
  | [] => ⟨_, _, rfl⟩
  | x :: r => by
    obtain ⟨p, ps, e⟩ := cutAt_ne c r
    by_cases h : x = c
    · subst h
      exact ⟨_, _, cutAt_hit⟩
    · exact ⟨_, _, cutAt_miss h e⟩
theorem spl_cut (c : Nat) : ∀ (l acc : List Nat) (p : List Nat) (ps : List (List Nat)), cutAt c l = p :: ps → TL.spl [c] 0 acc l = (acc ++ p) :: ps
  | [], acc, p, ps, h => by
    cases h
    rw [TL.spl_nil, List.append_nil]
  | x :: r, acc, p, ps, h => by
    obtain ⟨p', ps', e⟩ := cutAt_ne c r
    by_cases hx : x = c
    · subst hx
      rw [cutAt_hit, e] at h
      cases h
      rw [TL.spl_hit (by show ((x :: r).take 1 == [x]) = true; simp)]
      have := spl_cut x r [] _ _ e
      rw [List.append_nil]
      show acc :: TL.spl [x] 0 [] r = _
      rw [this]
      rfl
    · rw [cutAt_miss hx e] at h
      cases h
      rw [TL.spl_miss (by show ((x :: r).take 1 == [c]) = false; simp [hx]), spl_cut c r _ _ _ e, List.append_assoc]
      rfl
theorem spl_eq (c : Nat) (l : List Nat) : TL.spl [c] 0 [] l = cutAt c l := by
  obtain ⟨p, ps, e⟩ := cutAt_ne c l
  rw [spl_cut c l [] p ps e, e]
  rfl
theorem cutAt_free {c : Nat} : ∀ {l : List Nat}, c ∉ l → cutAt c l = [l]
  | [], _ => rfl
  | x :: r, h => cutAt_miss (fun z => h (by rw [z]; exact List.mem_cons_self)) (cutAt_free fun z => h (List.mem_cons_of_mem _ z))
theorem cutAt_app {c : Nat} : ∀ {p : List Nat} (q : List Nat), c ∉ p → cutAt c (p ++ c :: q) = p :: cutAt c q
  | [], q, _ => cutAt_hit
  | x :: r, q, h => cutAt_miss (fun z => h (by rw [z]; exact List.mem_cons_self)) (cutAt_app q fun z => h (List.mem_cons_of_mem _ z))
theorem cutAt_sub {c : Nat} : ∀ {l p : List Nat}, p ∈ cutAt c l → ∀ x ∈ p, x ∈ l
  | [], p, h => by
    rw [List.mem_singleton.mp h]
    intro x hx
    cases hx
  | y :: r, p, h => by
    obtain ⟨p', ps', e⟩ := cutAt_ne c r
    intro x hx
    by_cases hy : y = c
    · subst hy
      rw [cutAt_hit] at h
      rcases List.mem_cons.mp h with rfl | h
      · cases hx
      · exact List.mem_cons_of_mem _ (cutAt_sub h x hx)
    · rw [cutAt_miss hy e] at h
      rcases List.mem_cons.mp h with rfl | h
      · rcases List.mem_cons.mp hx with rfl | hx
        · exact List.mem_cons_self
        · exact List.mem_cons_of_mem _ (cutAt_sub (c := c) (by rw [e]; exact List.mem_cons_self) x hx)
      · exact List.mem_cons_of_mem _ (cutAt_sub (c := c) (by rw [e]; exact List.mem_cons_of_mem _ h) x hx)
theorem cutAt_no {c : Nat} : ∀ {l p : List Nat}, p ∈ cutAt c l → c ∉ p
  | [], p, h => by
    rw [List.mem_singleton.mp h]
    exact List.not_mem_nil
  | y :: r, p, h => by
    obtain ⟨p', ps', e⟩ := cutAt_ne c r
    by_cases hy : y = c
    · subst hy
      rw [cutAt_hit] at h
      rcases List.mem_cons.mp h with rfl | h
      · exact List.not_mem_nil
      · exact cutAt_no h
    · rw [cutAt_miss hy e] at h
      rcases List.mem_cons.mp h with rfl | h
      · intro hx
        rcases List.mem_cons.mp hx with rfl | hx
        · exact hy rfl
        · exact cutAt_no (l := r) (by rw [e]; exact List.mem_cons_self) hx
      · exact cutAt_no (l := r) (by rw [e]; exact List.mem_cons_of_mem _ h)
theorem cutAt_join (c : Nat) : ∀ l : List Nat, TL.joinL [c] (cutAt c l) = l
  | [] => rfl
  | x :: r => by
    obtain ⟨p, ps, e⟩ := cutAt_ne c r
    have ih := cutAt_join c r
    rw [e] at ih
    by_cases h : x = c
    · subst h
      rw [cutAt_hit, e]
      show [] ++ ([x] ++ TL.joinL [x] (p :: ps)) = _
      rw [ih]
      rfl
    · rw [cutAt_miss h e]
      cases ps with
      | nil =>
        have ih : p = r := ih
        rw [ih]
        rfl
      | cons p2 ps =>
        have ih : p ++ ([c] ++ TL.joinL [c] (p2 :: ps)) = r := ih
        show (x :: p) ++ ([c] ++ TL.joinL [c] (p2 :: ps)) = _
        rw [← ih]
        rfl
theorem cutAt_two {c : Nat} {l p q : List Nat} (h : cutAt c l = [p, q]) : l = p ++ c :: q := by
  have := cutAt_join c l
  rw [h] at this
  have this : p ++ ([c] ++ q) = l := this
  rw [← this]
  simp
theorem cutAt_len (c : Nat) : ∀ l : List Nat, (cutAt c l).length ≤ l.length + 1
  | [] => Nat.le_refl _
  | x :: r => by
    obtain ⟨p, ps, e⟩ := cutAt_ne c r
    have := cutAt_len c r
    by_cases h : x = c
    · subst h
      rw [cutAt_hit]
      simp only [List.length_cons]
      omega
    · rw [cutAt_miss h e]
      rw [e] at this
      simp only [List.length_cons] at this ⊢
      omega
/-- the sign ahead of b -/
def sg (b : Int) : Nat := if b < 0 then 45 else 43
def wr (a b m : Int) : List Nat := numI a ++ 107 :: sg b :: (TL.numL b.natAbs ++ 47 :: TL.numL m.natAbs)
structure Wr (l : List Nat) (a b m : Int) : Prop where
  eq : l = wr a b m
  ha : a.natAbs < 10 ^ 30
  hb : b.natAbs < 10 ^ 30
  hm : m.natAbs < 10 ^ 30
  m0 : 0 < m
theorem numI_free {n : Int} {c : Nat} (h : c < 45 ∨ 57 < c ∨ c = 47) : c ∉ numI n := by
  intro hc
  unfold numI at hc
  split at hc
  · rcases List.mem_cons.mp hc with rfl | hc
    · omega
    · exact TL.numL_free (by omega) hc
  · exact TL.numL_free (by omega) hc
theorem sg_or (b : Int) : sg b = 43 ∨ sg b = 45 := by unfold sg; split; exact .inr rfl; exact .inl rfl
theorem nT_numI {n : Int} (h : n.natAbs < 10 ^ 30) : nT (numI n) = some n := nT_iff.mpr ⟨rfl, h⟩
theorem nT_numL {n : Nat} (h : n < 10 ^ 30) : nT (TL.numL n) = some (n : Int) := by
  have := nT_numI (n := (n : Int)) (by omega)
  rw [numI_nn (by omega)] at this
  exact this
theorem numI_len {n : Int} (h : n.natAbs < 10 ^ 30) : (numI n).length ≤ 31 := nT_len (nT_numI h)
theorem numL_len30 {n : Nat} (h : n < 10 ^ 30) : (TL.numL n).length ≤ 30 := TL.numL_len (by decide) h
namespace Wr
variable {l : List Nat} {a b m : Int}
theorem tail_free (_ : Wr l a b m) : (107 : Nat) ∉ sg b :: (TL.numL b.natAbs ++ 47 :: TL.numL m.natAbs) := by
  intro h
  rcases List.mem_cons.mp h with h | h
  · rcases sg_or b with z | z <;> omega
  · rcases List.mem_append.mp h with h | h
    · exact TL.numL_free (by omega) h
    · rcases List.mem_cons.mp h with h | h
      · omega
      · exact TL.numL_free (by omega) h
theorem cut (W : Wr l a b m) : cutAt 107 l = [numI a, sg b :: (TL.numL b.natAbs ++ 47 :: TL.numL m.natAbs)] := by
  rw [W.eq]
  unfold wr
  rw [cutAt_app _ (numI_free (by omega)), cutAt_free W.tail_free]
theorem cut2 (_ : Wr l a b m) : cutAt 47 (TL.numL b.natAbs ++ 47 :: TL.numL m.natAbs) = [TL.numL b.natAbs, TL.numL m.natAbs] := by
  rw [cutAt_app _ (TL.numL_free (by omega)), cutAt_free (TL.numL_free (by omega))]
theorem len (W : Wr l a b m) : l.length ≤ 100 := by
  rw [W.eq]
  unfold wr
  have h1 := numI_len W.ha
  have h2 := numL_len30 W.hb
  have h3 := numL_len30 W.hm
  simp only [List.length_append, List.length_cons]
  omega
theorem ok (W : Wr l a b m) : okT l := by
  rw [W.eq]
  have d : ∀ n, okT (TL.numL n) := fun n c hc => by
    have := TL.numL_digits n c hc
    omega
  intro c hc
  unfold wr at hc
  rcases List.mem_append.mp hc with hc | hc
  · unfold numI at hc
    split at hc
    · rcases List.mem_cons.mp hc with rfl | hc
      · omega
      · exact d _ c hc
    · exact d _ c hc
  · rcases List.mem_cons.mp hc with rfl | hc
    · omega
    · rcases List.mem_cons.mp hc with hc | hc
      · rcases sg_or b with z | z <;> omega
      · rcases List.mem_append.mp hc with hc | hc
        · exact d _ c hc
        · rcases List.mem_cons.mp hc with rfl | hc
          · omega
          · exact d _ c hc
end Wr
theorem Wr.uniq {l : List Nat} {a b m a' b' m' : Int} (W : Wr l a b m) (W' : Wr l a' b' m') : a = a' ∧ b = b' ∧ m = m' := by
  have h := W.cut.symm.trans W'.cut
  injection h with h1 h2
  injection h2 with h2 _
  injection h2 with hs h3
  have e := W.cut2.symm.trans ((congrArg (cutAt 47) h3).trans W'.cut2)
  injection e with e1 e2
  injection e2 with e2 _
  have n1 : some a = some a' := by rw [← nT_numI W.ha, ← nT_numI W'.ha, h1]
  have n2 := TL.numL_inj e1
  have n3 := TL.numL_inj e2
  have m1 := W.m0
  have m2 := W'.m0
  refine ⟨Option.some.inj n1, ?_, by omega⟩
  unfold sg at hs
  split at hs <;> split at hs <;> omega
theorem in_pm (l : List Nat) : inV (.str (SX.S l)) [.str (Str.ofString "+"), .str (Str.ofString "-")] = (decide (l = [43]) || decide (l = [45])) := by
  show ((Str.ofString "+" == SX.S l) || ((Str.ofString "-" == SX.S l) || false)) = _
  rw [L_plus, L_minus, SX.S_beq_eq, SX.S_beq_eq, Bool.or_false, decide_eq_decide.mpr (eq_comm (a := [43]) (b := l)), decide_eq_decide.mpr (eq_comm (a := [45]) (b := l))]
/-- what a word writes, for values -/
def nV : V → V
  | .str z => oI (nT (TL.tl z))
  | _ => .non
theorem nV_S (l : List Nat) : nV (.str (SX.S l)) = oI (nT l) := rfl
theorem Wr.no0 {l : List Nat} {a b m : Int} (_ : Wr l a b m) : ¬ (List.take (Int.toNat 2) (sg b :: (TL.numL b.natAbs ++ 47 :: TL.numL m.natAbs)) = [45, 48]) := by
  intro h
  obtain ⟨c, r, e⟩ := List.exists_cons_of_ne_nil (TL.numL_ne b.natAbs)
  rw [e] at h
  have h : [sg b, c] = [45, 48] := h
  injection h with h1 h2
  injection h2 with h2 _
  unfold sg at h1
  split at h1
  · rename_i hb
    refine numL_head (n := b.natAbs) (by omega) ?_
    rw [e, h2]
    rfl
  · omega
theorem inV_nons (xs : List (Option Int)) : inV .non (xs.map oI) = xs.any Option.isNone := by
  unfold inV
  rw [List.any_map]
  congr 1
  funext x
  cases x <;> rfl
theorem numI_pos45 {u : List Nat} {n : Int} (h : nT u = some n) (h45 : ¬ u.take 1 = [45]) : 0 ≤ n ∧ u = TL.numL n.natAbs := by
  obtain ⟨e, hn⟩ := nT_iff.mp h
  by_cases z : n < 0
  · rw [numI_neg z] at e
    exact (h45 (by rw [e]; rfl)).elim
  · rw [numI_nn (by omega)] at e
    exact ⟨by omega, e⟩
theorem Wr.of {l p u v : List Nat} {c : Nat} {a b m : Int} (hl : l = p ++ 107 :: c :: (u ++ 47 :: v)) (hc : c = 43 ∨ c = 45) (hp : nT p = some a) (hu : nT u = some b) (hv : nT v = some m)
    (u45 : ¬ u.take 1 = [45]) (v45 : ¬ v.take 1 = [45]) (m0 : m ≠ 0) (n0 : ¬ List.take 2 (c :: (u ++ 47 :: v)) = [45, 48]) : Wr l a (if c = 45 then 0 - b else b) m := by
  obtain ⟨b0, eu⟩ := numI_pos45 hu u45
  obtain ⟨mm, ev⟩ := numI_pos45 hv v45
  have ha := nT_iff.mp hp
  have hb := (nT_iff.mp hu).2
  have hm := (nT_iff.mp hv).2
  rcases hc with rfl | rfl
  · rw [if_neg (by decide)]
    refine ⟨?_, ha.2, hb, hm, by omega⟩
    rw [hl, ha.1, eu, ev]
    unfold wr sg
    rw [if_neg (by omega)]
  · rw [if_pos rfl]
    have b1 : b ≠ 0 := fun z => by
      rw [z] at eu
      have eu : u = [48] := eu.trans (TL.numL_lt (by decide))
      rw [eu] at n0
      exact n0 rfl
    refine ⟨?_, ha.2, by omega, hm, by omega⟩
    rw [hl, ha.1, eu, ev]
    unfold wr sg
    rw [if_pos (by omega), show (0 - b).natAbs = b.natAbs by omega]
theorem idx_app {c : Nat} {p q : List Nat} (h : c ∉ p) : (p ++ c :: q).idxOf c = p.length := by
  induction p with
  | nil => simp [List.idxOf_cons]
  | cons x p ih =>
    have h1 : x ≠ c := fun z => h (by rw [z]; exact List.mem_cons_self)
    rw [List.cons_append, List.idxOf_cons, ih fun z => h (List.mem_cons_of_mem _ z), show (x == c) = false from beq_eq_false_iff_ne.mpr h1]
    rfl
/-- where a sign is found, else 0 -/
def fnd (c : Nat) (l : List Nat) : Int := max (if c ∈ l then (l.idxOf c : Int) else -1) 0
theorem fnd_app {c : Nat} {p q : List Nat} (h : c ∉ p) : fnd c (p ++ c :: q) = p.length := by
  unfold fnd
  rw [if_pos (by simp), idx_app h]
  omega
theorem fnd0 (c : Nat) (l : List Nat) : 0 ≤ fnd c l := by
  unfold fnd
  omega
theorem Wr.nums {l : List Nat} {a b m : Int} (W : Wr l a b m) : nT (l.take (fnd 107 l).toNat) = some a ∧ nT ((l.take (fnd 47 l).toNat).drop (fnd 107 l + 2).toNat) = some (b.natAbs : Int) ∧ nT (l.drop (fnd 47 l + 1).toNat) = some m := by
  have h1 : fnd 107 l = (numI a).length := by
    rw [W.eq]
    exact fnd_app (numI_free (by omega))
  have e2 : l = (numI a ++ 107 :: sg b :: TL.numL b.natAbs) ++ 47 :: TL.numL m.natAbs := by
    rw [W.eq]
    unfold wr
    simp
  have h2 : fnd 47 l = ((numI a ++ 107 :: sg b :: TL.numL b.natAbs).length : Nat) := by
    rw [e2]
    refine fnd_app fun h => ?_
    rcases List.mem_append.mp h with h | h
    · exact numI_free (by omega) h
    · rcases List.mem_cons.mp h with h | h
      · omega
      · rcases List.mem_cons.mp h with h | h
        · rcases sg_or b with z | z <;> omega
        · exact TL.numL_free (by omega) h
  have t1 : l.take (fnd 107 l).toNat = numI a := by
    rw [h1, W.eq]
    show List.take (numI a).length _ = _
    unfold wr
    exact List.take_left' rfl
  have t2 : l.take (fnd 47 l).toNat = numI a ++ 107 :: sg b :: TL.numL b.natAbs := by
    rw [h2]
    conv => lhs; rw [e2]
    exact List.take_left' rfl
  have t3 : l.drop (fnd 47 l + 1).toNat = TL.numL m.natAbs := by
    rw [h2, show (((numI a ++ 107 :: sg b :: TL.numL b.natAbs).length : Nat) + 1 : Int).toNat = (numI a ++ 107 :: sg b :: TL.numL b.natAbs).length + 1 by omega]
    conv => lhs; rw [e2]
    rw [← List.drop_drop, List.drop_left' rfl]
    rfl
  have t4 : (l.take (fnd 47 l).toNat).drop (fnd 107 l + 2).toNat = TL.numL b.natAbs := by
    rw [t2, h1, show (((numI a).length : Nat) + 2 : Int).toNat = (numI a).length + 2 by omega, ← List.drop_drop, List.drop_left' rfl]
    rfl
  have m0 := W.m0
  refine ⟨by rw [t1, nT_numI W.ha], by rw [t4, nT_numL W.hb], ?_⟩
  rw [t3, nT_numL W.hm]
  congr 1
  omega
/-- what is no text -/
def NoTx (H : Hp) (v : V) : Prop := Kd1 H v ∧ ∀ z, v ≠ .str z
theorem NoTx.ex {H H' : Hp} {v : V} (h : NoTx H v) (e : Ex H H') : NoTx H' v := ⟨h.1.ex e, h.2⟩
/-- reckoned: whether it is a stair's text -/
def rdB (l : List Nat) : Bool :=
  match nT (l.take (fnd 107 l).toNat), nT ((l.take (fnd 47 l).toNat).drop (fnd 107 l + 2).toNat), nT (l.drop (fnd 47 l + 1).toNat) with
  | some a, some b, some m => (l == wr a b m || l == wr a (0 - b) m) && decide (0 < m)
  | _, _, _ => false
theorem Wr.rdB {l : List Nat} {a b m : Int} (W : Wr l a b m) : rdB l = true := by
  obtain ⟨h1, h2, h3⟩ := W.nums
  unfold Sd.rdB
  rw [h1, h2, h3]
  show ((l == wr a (b.natAbs : Int) m || l == wr a (0 - (b.natAbs : Int)) m) && decide (0 < m)) = true
  rw [decide_eq_true W.m0, Bool.and_true]
  by_cases hb : 0 ≤ b
  · rw [show (b.natAbs : Int) = b by omega, ← W.eq, beq_self_eq_true]
    rfl
  · rw [show (0 - (b.natAbs : Int)) = b by omega, ← W.eq, beq_self_eq_true, Bool.or_true]
def OddT (x : V) : Prop := ∃ l : List Nat, x = .str (SX.S l) ∧ l.length ≤ 900000 ∧ ∀ a b m, ¬ Wr l a b m
theorem oddT {l : List Nat} (h1 : l.length ≤ 900000) (h2 : rdB l = false) : OddT (.str (SX.S l)) := ⟨l, rfl, h1, fun a b m W => by rw [W.rdB] at h2; cases h2⟩
theorem oddT_lit (s : String) (h1 : (lit s).length ≤ 900000) (h2 : rdB (lit s) = false) : OddT (.str (Str.ofString s)) := by
  rw [lit_S]
  exact oddT h1 h2

/-! balanced words: S their sums -/
def BalS (S : Nat → Int) (n : Nat) : Prop := ∀ p i j : Nat, i + p ≤ n → j + p ≤ n → S (i + p) - S i ≤ S (j + p) - S j + 1
theorem bal_lt {S : Nat → Int} {n : Nat} (B : BalS S n) : ∀ (k p q i j : Nat), p + q ≤ k → 1 ≤ p → 1 ≤ q → i + p ≤ n → j + q ≤ n →
    (S (i + p) - S i) * q - (S (j + q) - S j) * p < p + q := by
  intro k
  induction k with
  | zero => intro p q i j h1 h2 h3; omega
  | succ k ih =>
    intro p q i j hk hp hq hi hj
    by_cases e : p = q
    · subst e
      have := B p i j hi hj
      have h : (S (i + p) - S i - (S (j + p) - S j)) * p ≤ 1 * p := Int.mul_le_mul_of_nonneg_right (by omega) (by omega)
      have e2 : (S (i + p) - S i - (S (j + p) - S j)) * p = (S (i + p) - S i) * p - (S (j + p) - S j) * p := Int.sub_mul ..
      omega
    · by_cases g : q < p
      · obtain ⟨s, rfl⟩ : ∃ s, p = q + s := ⟨p - q, by omega⟩
        have h1 := B q i j (by omega) hj
        have h2 := ih s q (i + q) j (by omega) (by omega) hq (by omega) hj
        rw [show i + q + s = i + (q + s) by omega] at h2
        generalize S (i + (q + s)) = x at *
        generalize S (i + q) = y at *
        generalize S i = z at *
        generalize S (j + q) - S j = v at *
        have h3 : (y - z - v) * q ≤ 1 * q := Int.mul_le_mul_of_nonneg_right (by omega) (by omega)
        have e3 : (x - z) * q - v * ((q + s : Nat) : Int) = (y - z - v) * q + ((x - y) * q - v * s) := by
          rw [Int.natCast_add]
          grind
        rw [e3]
        omega
      · obtain ⟨s, rfl⟩ : ∃ s, q = p + s := ⟨q - p, by omega⟩
        have h1 := B p i j hi (by omega)
        have h2 := ih p s i (j + p) (by omega) hp (by omega) hi (by omega)
        rw [show j + p + s = j + (p + s) by omega] at h2
        generalize S (j + (p + s)) = x at *
        generalize S (j + p) = y at *
        generalize S j = z at *
        generalize S (i + p) - S i = u at *
        have h3 : (u - (y - z)) * p ≤ 1 * p := Int.mul_le_mul_of_nonneg_right (by omega) (by omega)
        have e3 : u * ((p + s : Nat) : Int) - (x - z) * p = (u - (y - z)) * p + (u * s - (x - y) * p) := by
          rw [Int.natCast_add]
          grind
        rw [e3]
        omega
/-- the slope a / m fits the sums -/
def FitS (S : Nat → Int) (n : Nat) (a m : Int) : Prop := ∀ j k : Nat, j ≤ n → k ≤ n → m * (S j - S k - 1) < a * ((j : Int) - k)
/-- the greatest lower and the least upper bound, as they are told -/
structure LessS (S : Nat → Int) (n : Nat) (l0 l1 : Int) : Prop where
  pos : 1 ≤ l1
  le : l1 ≤ max n 1
  up : ∀ p i : Nat, 1 ≤ p → i + p ≤ n → (S (i + p) - S i - 1) * l1 ≤ l0 * p
  at_ : (l0 = -1 ∧ l1 = 1) ∨ ∃ p i : Nat, 1 ≤ p ∧ i + p ≤ n ∧ l1 = p ∧ l0 = S (i + p) - S i - 1
structure MoreS (S : Nat → Int) (n : Nat) (r0 r1 : Int) : Prop where
  pos : 1 ≤ r1
  le : r1 ≤ max n 1
  dn : ∀ p i : Nat, 1 ≤ p → i + p ≤ n → r0 * p ≤ (S (i + p) - S i + 1) * r1
  at_ : (r0 = 2 ∧ r1 = 1) ∨ ∃ p i : Nat, 1 ≤ p ∧ i + p ≤ n ∧ r1 = p ∧ r0 = S (i + p) - S i + 1
theorem fit_of {S : Nat → Int} {n : Nat} {l0 l1 r0 r1 a m : Int} (L : LessS S n l0 l1) (M : MoreS S n r0 r1) (m0 : 0 < m) (h1 : l0 * m < a * l1) (h2 : a * r1 < r0 * m) : FitS S n a m := by
  intro j k hj hk
  by_cases e : j = k
  · subst e
    rw [Int.sub_self, Int.sub_self, Int.mul_zero]
    omega
  · by_cases g : k < j
    · obtain ⟨p, rfl⟩ : ∃ p, j = k + p := ⟨j - k, by omega⟩
      have u := L.up p k (by omega) hj
      have lp := L.pos
      have d : ((k + p : Nat) : Int) - k = p := by omega
      rw [d]
      generalize S (k + p) - S k - 1 = c at *
      have p0 : (0 : Int) < p := by omega
      have s1 : m * (c * l1) ≤ m * (l0 * p) := Int.mul_le_mul_of_nonneg_left u (by omega)
      have s2 : l0 * m * p < a * l1 * p := Int.mul_lt_mul_of_pos_right h1 p0
      have s3 : (m * c) * l1 < (a * p) * l1 := by grind
      exact Int.lt_of_mul_lt_mul_right s3 (by omega)
    · obtain ⟨p, rfl⟩ : ∃ p, k = j + p := ⟨k - j, by omega⟩
      have u := M.dn p j (by omega) hk
      have rp := M.pos
      have d : (j : Int) - ((j + p : Nat) : Int) = -p := by omega
      rw [d]
      have p0 : (0 : Int) < p := by omega
      have e1 : S j - S (j + p) - 1 = -(S (j + p) - S j + 1) := by omega
      rw [e1]
      generalize S (j + p) - S j + 1 = c at *
      have s1 : m * (r0 * p) ≤ m * (c * r1) := Int.mul_le_mul_of_nonneg_left u (by omega)
      have s2 : a * r1 * p < r0 * m * p := Int.mul_lt_mul_of_pos_right h2 p0
      have s3 : (a * p) * r1 < (m * c) * r1 := by grind
      have s4 := Int.lt_of_mul_lt_mul_right s3 (show 0 ≤ r1 by omega)
      have e2 : m * -c = -(m * c) := Int.mul_neg ..
      have e3 : a * -(p : Int) = -(a * p) := Int.mul_neg ..
      omega
theorem fit_less {S : Nat → Int} {n : Nat} {l0 l1 a m : Int} (L : LessS S n l0 l1) (m0 : 0 < m) (a0 : 0 ≤ a) (F : FitS S n a m) : l0 * m < a * l1 := by
  rcases L.at_ with ⟨rfl, rfl⟩ | ⟨p, i, hp, hi, rfl, rfl⟩
  · omega
  · have := F (i + p) i hi (by omega)
    rw [show ((i + p : Nat) : Int) - i = p by omega] at this
    grind
theorem fit_more {S : Nat → Int} {n : Nat} {r0 r1 a m : Int} (M : MoreS S n r0 r1) (m0 : 0 < m) (am : a ≤ m) (F : FitS S n a m) : a * r1 < r0 * m := by
  rcases M.at_ with ⟨rfl, rfl⟩ | ⟨p, i, hp, hi, rfl, rfl⟩
  · omega
  · have := F i (i + p) (by omega) hi
    rw [show (i : Int) - ((i + p : Nat) : Int) = -p by omega, show S i - S (i + p) - 1 = -(S (i + p) - S i + 1) by omega] at this
    have e2 : m * -(S (i + p) - S i + 1) = -((S (i + p) - S i + 1) * m) := by grind
    have e3 : a * -(p : Int) = -(a * p) := Int.mul_neg ..
    omega
/-- the lower bound is below the upper one -/
theorem less_more {S : Nat → Int} {n : Nat} {l0 l1 r0 r1 : Int} (B : BalS S n) (st : ∀ k, k < n → S k ≤ S (k + 1) ∧ S (k + 1) ≤ S k + 1) (L : LessS S n l0 l1) (M : MoreS S n r0 r1) : l0 * r1 < r0 * l1 := by
  have cn : ∀ p i : Nat, i + p ≤ n → 0 ≤ S (i + p) - S i ∧ S (i + p) - S i ≤ p := by
    intro p
    induction p with
    | zero => intro i _; rw [Nat.add_zero]; omega
    | succ p ih =>
      intro i hi
      have h1 := ih i (by omega)
      have h2 := st (i + p) (by omega)
      rw [show i + (p + 1) = i + p + 1 by omega]
      omega
  rcases L.at_ with ⟨rfl, rfl⟩ | ⟨p, i, hp, hi, rfl, rfl⟩
  · rcases M.at_ with ⟨rfl, rfl⟩ | ⟨q, j, hq, hj, rfl, rfl⟩
    · decide
    · have := cn q j hj
      omega
  · rcases M.at_ with ⟨rfl, rfl⟩ | ⟨q, j, hq, hj, rfl, rfl⟩
    · have := cn p i hi
      omega
    · have := bal_lt B (p + q) p q i j (Nat.le_refl _) hp hq hi hj
      grind
/-- the mediant: a slope from 0 to 1 that fits -/
theorem mediant {S : Nat → Int} {n : Nat} {l0 l1 r0 r1 : Int} (B : BalS S n) (st : ∀ k, k < n → S k ≤ S (k + 1) ∧ S (k + 1) ≤ S k + 1) (L : LessS S n l0 l1) (M : MoreS S n r0 r1) :
    ∃ a m : Int, 0 ≤ a ∧ a ≤ m ∧ 1 ≤ m ∧ m ≤ 2 * max n 1 ∧ l0 * m < a * l1 ∧ a * r1 < r0 * m := by
  have cn : ∀ p i : Nat, i + p ≤ n → 0 ≤ S (i + p) - S i ∧ S (i + p) - S i ≤ p := by
    intro p
    induction p with
    | zero => intro i _; rw [Nat.add_zero]; omega
    | succ p ih =>
      intro i hi
      have h1 := ih i (by omega)
      have h2 := st (i + p) (by omega)
      rw [show i + (p + 1) = i + p + 1 by omega]
      omega
  have lm := less_more B st L M
  have lp := L.pos
  have rp := M.pos
  have ll := L.le
  have rl := M.le
  have b1 : -1 ≤ l0 ∧ l0 ≤ l1 - 1 := by
    rcases L.at_ with ⟨rfl, rfl⟩ | ⟨p, i, hp, hi, rfl, rfl⟩
    · decide
    · have := cn p i hi
      omega
  have b2 : 1 ≤ r0 ∧ r0 ≤ r1 + 1 := by
    rcases M.at_ with ⟨rfl, rfl⟩ | ⟨p, i, hp, hi, rfl, rfl⟩
    · decide
    · have := cn p i hi
      omega
  refine ⟨l0 + r0, l1 + r1, by omega, by omega, by omega, by omega, ?_, ?_⟩
  · grind
  · grind
/-- the begin -/
theorem fit_height {S : Nat → Int} {n : Nat} {a b m : Int} (m0 : 0 < m) (F : FitS S n a m) (hb : ∀ k : Nat, k ≤ n → m * S k - a * k ≤ b) (hx : ∃ k : Nat, k ≤ n ∧ b = m * S k - a * k) : ∀ k : Nat, k ≤ n → (a * k + b) / m = S k := by
  intro k hk
  obtain ⟨j, hj, rfl⟩ := hx
  have h1 := hb k hk
  have h2 := F j k hj hk
  have h3 : m * S k ≤ a * k + (m * S j - a * j) := by omega
  have h4 : a * k + (m * S j - a * j) < m * (S k + 1) := by grind
  have h5 : S k ≤ (a * k + (m * S j - a * j)) / m := (Int.le_ediv_iff_mul_le m0).mpr (by rw [Int.mul_comm (S k) m]; exact h3)
  have h6 : (a * k + (m * S j - a * j)) / m < S k + 1 := (Int.ediv_lt_iff_lt_mul m0).mpr (by rw [Int.mul_comm (S k + 1) m]; exact h4)
  omega

--@ needs Sum
/-! how often -/
/-- how many of the first places are within bounds -/
@[irreducible] def cn (n : Nat) (a b m low high : Int) : Int := fs n a (b - low) m - fs n a (b - high) m
theorem cn_all (n : Nat) (a b : Int) {m : Int} (hm : 0 < m) : cn n a b m 0 m = n := by
  unfold cn
  have h := fs_b n a (b - m) 1 hm
  rw [show b - m + 1 * m = b - 0 by omega] at h
  omega
theorem cn_add (n k : Nat) (a b m low high : Int) : cn (n + k) a b m low high = cn n a b m low high + cn k a (a * n + b) m low high := by
  unfold cn
  rw [fs_add, fs_add]
  rw [show a * (n : Int) + (b - low) = a * n + b - low by omega, show a * (n : Int) + (b - high) = a * n + b - high by omega]
  omega
theorem cn_turn (n : Nat) (a b low high : Int) {m : Int} (hm : 0 < m) : cn n (0 - a) (m - 1 - b) m (m - high) (m - low) = cn n a b m low high := by
  have key : ∀ c : Int, fs n (0 - a) (m - 1 - b - (m - c)) m = - fs n a (b - c) m - n := by
    intro c
    unfold fs
    have e : ∀ i : Nat, i < n → ((0 - a) * (i : Int) + (m - 1 - b - (m - c))) / m = (-1) * ((a * (i : Int) + (b - c)) / m) + (-1) := by
      intro i _
      have h := Int.emod_add_mul_ediv (a * (i : Int) + (b - c)) m
      have r0 := Int.emod_nonneg (a * (i : Int) + (b - c)) (show m ≠ 0 by omega)
      have r1 := Int.emod_lt_of_pos (a * (i : Int) + (b - c)) hm
      refine ediv_is hm ?_ ?_
      · grind
      · grind
    rw [sm_congr e, sm_plus, sm_mul, sm_const]
    omega
  unfold cn
  rw [key high, key low]
  omega

--@ needs Div
/-! common divisors -/
theorem gcd_step (x y : Nat) : Nat.gcd y (x % y) = Nat.gcd x y := by
  rw [Nat.gcd_comm x y, Nat.gcd_rec y x, Nat.gcd_comm]
/-- the stair made least -/
def lsA (a m : Int) : Int := a / (Int.gcd a m : Int)
def lsM (a m : Int) : Int := m / (Int.gcd a m : Int)
def lsB (a b m : Int) : Int := b / (Int.gcd a m : Int)
theorem gcd_pos {a m : Int} (hm : 0 < m) : 0 < (Int.gcd a m : Int) := by
  have : 0 < Int.gcd a m := Int.gcd_pos_of_ne_zero_right a (by omega)
  omega
theorem lsA_mul (a m : Int) : lsA a m * (Int.gcd a m : Int) = a := Int.ediv_mul_cancel (Int.gcd_dvd_left a m)
theorem lsM_mul (a m : Int) : lsM a m * (Int.gcd a m : Int) = m := Int.ediv_mul_cancel (Int.gcd_dvd_right a m)
theorem lsM_pos {a m : Int} (hm : 0 < m) : 0 < lsM a m := by
  have h := lsM_mul a m
  have g := gcd_pos (a := a) hm
  refine Int.pos_of_mul_pos_left (b := (Int.gcd a m : Int)) ?_ g
  omega
theorem ls_height (a b k : Int) {m : Int} (hm : 0 < m) : (lsA a m * k + lsB a b m) / lsM a m = (a * k + b) / m := by
  have g := gcd_pos (a := a) hm
  have ha := lsA_mul a m
  have hM := lsM_mul a m
  generalize lsA a m = A at *
  generalize lsM a m = M at *
  unfold lsB
  generalize (Int.gcd a m : Int) = G at *
  subst ha
  subst hM
  rw [Int.mul_comm M G, ← Int.ediv_ediv_of_nonneg (by omega), show A * G * k + b = b + G * (A * k) by rw [Int.mul_comm A G, Int.mul_assoc]; omega, Int.add_mul_ediv_left _ _ (by omega : G ≠ 0), Int.add_comm]
theorem ls_cop {a m : Int} (hm : 0 < m) : Int.gcd (lsA a m) (lsM a m) = 1 := by
  have g := gcd_pos (a := a) hm
  unfold lsA lsM
  exact Int.gcd_ediv_gcd_ediv_gcd (by omega)
/-- only 1 divides both: no lesser place is a period -/
theorem cop_no {a m k : Int} (h : Int.gcd a m = 1) (k0 : 0 < k) (k1 : k < m) : a * k % m ≠ 0 := by
  intro z
  have d : m ∣ a * k := Int.dvd_of_emod_eq_zero z
  have d2 : m ∣ k := by
    have d3 := Int.dvd_gcd_mul_iff_dvd_mul.mpr d
    rw [Int.gcd_comm, h] at d3
    rw [show ((1 : Nat) : Int) * k = k by omega] at d3
    exact d3
  have := Int.le_of_dvd k0 d2
  omega

--@ needs Often Gcd
/-! first hits -/
def Wn (a m lo hi k : Int) : Prop := lo ≤ a * k % m ∧ a * k % m ≤ hi
/-- the first one, or none -/
def FR (a m lo hi : Int) : Option Int → Prop
  | none => ∀ k : Int, 0 ≤ k → ¬ Wn a m lo hi k
  | some k => 0 ≤ k ∧ Wn a m lo hi k ∧ ∀ j : Int, 0 ≤ j → j < k → ¬ Wn a m lo hi j
/-- a quotient, rounded up -/
def cup (t b : Int) : Int := 0 - (0 - t) / b
theorem cup_up {t b : Int} (hb : 0 < b) : t ≤ cup t b * b ∧ (cup t b - 1) * b < t := by
  have e := Int.emod_add_mul_ediv (0 - t) b
  have r0 := Int.emod_nonneg (0 - t) (show b ≠ 0 by omega)
  have r1 := Int.emod_lt_of_pos (0 - t) hb
  unfold cup
  generalize (0 - t) / b = q at *
  constructor
  · grind
  · grind
theorem cup_le {t b k : Int} (hb : 0 < b) (h : t ≤ b * k) : cup t b ≤ k := by
  obtain ⟨_, h2⟩ := cup_up (t := t) hb
  have h3 : (cup t b - 1) * b < k * b := by rw [Int.mul_comm k]; omega
  have := Int.lt_of_mul_lt_mul_right h3 (by omega)
  omega
theorem Wn_mod (a m lo hi k : Int) : Wn (a % m) m lo hi k ↔ Wn a m lo hi k := by
  unfold Wn
  rw [Int.mul_emod, Int.emod_emod_of_dvd _ (Int.dvd_refl m), ← Int.mul_emod]
theorem FR_mod {a m lo hi : Int} {v : Option Int} (h : FR (a % m) m lo hi v) : FR a m lo hi v := by
  cases v with
  | none => exact fun k k0 w => h k k0 ((Wn_mod ..).mpr w)
  | some k => exact ⟨h.1, (Wn_mod ..).mp h.2.1, fun j j0 jk w => h.2.2 j j0 jk ((Wn_mod ..).mpr w)⟩
theorem FR_0 {a m hi : Int} (h : 0 ≤ hi) : FR a m 0 hi (some 0) := by
  refine ⟨by omega, ?_, fun j _ _ => by omega⟩
  unfold Wn
  rw [Int.mul_zero, Int.zero_emod]
  omega
theorem FR_no {m lo hi : Int} (h : 0 < lo) : FR 0 m lo hi none := by
  intro k _ w
  unfold Wn at w
  rw [Int.zero_mul, Int.zero_emod] at w
  omega
theorem FR_one {a m lo hi : Int} (ha : 0 < a) (hl : 0 < lo) (hm : hi < m) (h : cup lo a * a ≤ hi) : FR a m lo hi (some (cup lo a)) := by
  obtain ⟨h1, h2⟩ := cup_up (t := lo) ha
  have k0 : 0 < cup lo a := by
    have h3 : 0 * a < cup lo a * a := by omega
    exact Int.lt_of_mul_lt_mul_right h3 (by omega)
  refine ⟨by omega, ?_, fun j j0 jk w => ?_⟩
  · unfold Wn
    rw [Int.mul_comm a, Int.emod_eq_of_lt (by omega) (by omega)]
    omega
  · have h3 : j * a ≤ (cup lo a - 1) * a := Int.mul_le_mul_of_nonneg_right (by omega) (by omega)
    have h4 : 0 ≤ j * a := Int.mul_nonneg j0 (by omega)
    unfold Wn at w
    rw [Int.mul_comm a, Int.emod_eq_of_lt (by omega) (by omega)] at w
    omega
theorem Wn_line {a m lo hi k : Int} (hm : 0 < m) (hl : 0 < lo) (hh : hi < m) : Wn a m lo hi k ↔ ∃ y, lo + m * y ≤ a * k ∧ a * k ≤ hi + m * y := by
  have e := Int.emod_add_mul_ediv (a * k) m
  constructor
  · intro w
    unfold Wn at w
    exact ⟨a * k / m, by omega, by omega⟩
  · rintro ⟨y, h1, h2⟩
    have d : a * k / m = y := ediv_is hm (by rw [Int.mul_comm]; omega) (by rw [Int.add_mul, Int.mul_comm y]; omega)
    unfold Wn
    rw [d] at e
    omega
theorem Wn_turn {a m lo hi y : Int} (ha : 0 < a) (hlh : lo ≤ hi) (h : hi < cup lo a * a) : Wn m a ((0 - hi) % a) ((0 - lo) % a) y ↔ ∃ k, lo + m * y ≤ a * k ∧ a * k ≤ hi + m * y := by
  obtain ⟨h1, h2⟩ := cup_up (t := lo) ha
  have u : (0 - hi) % a = cup lo a * a - hi := by
    have d : (0 - hi) / a = 0 - cup lo a := ediv_is ha (by grind) (by grind)
    have e := Int.emod_add_mul_ediv (0 - hi) a
    rw [d] at e
    grind
  have w : (0 - lo) % a = cup lo a * a - lo := by
    have d : (0 - lo) / a = 0 - cup lo a := ediv_is ha (by grind) (by grind)
    have e := Int.emod_add_mul_ediv (0 - lo) a
    rw [d] at e
    grind
  rw [u, w]
  have e := Int.emod_add_mul_ediv (m * y) a
  generalize cup lo a = c at *
  unfold Wn
  constructor
  · rintro ⟨g1, g2⟩
    exact ⟨m * y / a + c, by grind, by grind⟩
  · rintro ⟨k, g1, g2⟩
    have d : m * y / a = k - c := ediv_is ha (by grind) (by grind)
    rw [d] at e
    constructor <;> grind
/-- the turn -/
theorem FR_turn {a m lo hi : Int} {v : Option Int} (ha : 0 < a) (hm : 0 < m) (hl : 0 < lo) (hlh : lo ≤ hi) (hh : hi < m) (h : hi < cup lo a * a) (f : FR m a ((0 - hi) % a) ((0 - lo) % a) v) : FR a m lo hi (v.map fun y => cup (lo + m * y) a) := by
  have line : ∀ k : Int, 0 ≤ k → Wn a m lo hi k → ∃ y, 0 ≤ y ∧ Wn m a ((0 - hi) % a) ((0 - lo) % a) y ∧ lo + m * y ≤ a * k := by
    intro k k0 w
    obtain ⟨y, h1, h2⟩ := (Wn_line hm hl hh).mp w
    refine ⟨y, ?_, (Wn_turn ha hlh h).mpr ⟨k, h1, h2⟩, h1⟩
    have h3 : 0 ≤ a * k := Int.mul_nonneg (by omega) k0
    have h4 : m * (-1) < m * y := by omega
    have := Int.lt_of_mul_lt_mul_left h4 (by omega)
    omega
  cases v with
  | none =>
    intro k k0 w
    obtain ⟨y, y0, hy, _⟩ := line k k0 w
    exact f y y0 hy
  | some y =>
    obtain ⟨y0, wy, least⟩ := f
    obtain ⟨k', g1, g2⟩ := (Wn_turn ha hlh h).mp wy
    obtain ⟨c1, c2⟩ := cup_up (t := lo + m * y) ha
    have ck := cup_le ha g1
    have c3 : a * cup (lo + m * y) a ≤ a * k' := Int.mul_le_mul_of_nonneg_left ck (by omega)
    have c4 : lo + m * y ≤ a * cup (lo + m * y) a := by rw [Int.mul_comm a]; exact c1
    have my : 0 ≤ m * y := Int.mul_nonneg (by omega) y0
    refine ⟨?_, (Wn_line hm hl hh).mpr ⟨y, c4, show a * cup (lo + m * y) a ≤ hi + m * y by omega⟩, fun j j0 jk w => ?_⟩
    · show 0 ≤ cup (lo + m * y) a
      have h3 : a * 0 < a * cup (lo + m * y) a := by omega
      have := Int.lt_of_mul_lt_mul_left h3 (by omega)
      omega
    · have jk : j < cup (lo + m * y) a := jk
      obtain ⟨y', y0', hy', l'⟩ := line j j0 w
      have : y ≤ y' := by
        by_cases z : y ≤ y'
        · exact z
        · exact (least y' y0' (by omega) hy').elim
      have h5 : m * y ≤ m * y' := Int.mul_le_mul_of_nonneg_left this (by omega)
      have := cup_le (t := lo + m * y) (b := a) (k := j) ha (by omega)
      omega
/-- how many turns there may be -/
def fb : Nat → Nat
  | 0 => 0
  | 1 => 1
  | n + 2 => fb (n + 1) + fb n
def Trn (j : Nat) (a m : Int) : Prop := m < fb (j + 1) ∨ a % m < fb j
theorem Trn_0 {a m : Int} (hm : 0 < m) : ¬ Trn 0 a m := by
  rintro (h | h)
  · have : m < 1 := h
    omega
  · have : a % m < 0 := h
    have := Int.emod_nonneg a (show m ≠ 0 by omega)
    omega
theorem Trn_next {j : Nat} {a m : Int} (hm : 0 < m) (h : Trn (j + 1) a m) (h0 : a % m ≠ 0) : Trn j m (a % m) := by
  have r0 := Int.emod_nonneg a (show m ≠ 0 by omega)
  have r1 := Int.emod_lt_of_pos a hm
  by_cases z : a % m < fb (j + 1)
  · exact .inl z
  · right
    rcases h with h | h
    · have h : m < ((fb (j + 1) + fb j : Nat) : Int) := h
      have e := Int.emod_add_mul_ediv m (a % m)
      have q : 1 ≤ m / (a % m) := (Int.le_ediv_iff_mul_le (by omega)).mpr (by omega)
      have h1 : a % m * 1 ≤ a % m * (m / (a % m)) := Int.mul_le_mul_of_nonneg_left q (by omega)
      omega
    · exact (z h).elim
theorem FR_lt {a m lo hi k : Int} (hm : 0 < m) (h : FR a m lo hi (some k)) : k < m := by
  obtain ⟨k0, w, l⟩ := h
  by_cases z : k < m
  · exact z
  · refine (l (k - m) (by omega) (by omega) ?_).elim
    unfold Wn at w ⊢
    rw [show a * (k - m) = a * k + m * (-a) by grind, Int.add_mul_emod_self_left]
    exact w
theorem turn_bounds {a lo hi : Int} (ha : 0 < a) (hl : 0 < lo) (hlh : lo ≤ hi) (h : hi < cup lo a * a) : (0 - hi) % a ≤ (0 - lo) % a := by
  obtain ⟨h1, h2⟩ := cup_up (t := lo) ha
  have d1 : (0 - hi) / a = 0 - cup lo a := ediv_is ha (by grind) (by grind)
  have d2 : (0 - lo) / a = 0 - cup lo a := ediv_is ha (by grind) (by grind)
  have e1 := Int.emod_add_mul_ediv (0 - hi) a
  have e2 := Int.emod_add_mul_ediv (0 - lo) a
  rw [d1] at e1
  rw [d2] at e2
  omega
theorem cup_b {lo a : Int} (ha : 0 < a) (hl : 0 < lo) : 0 < cup lo a ∧ cup lo a ≤ lo := by
  obtain ⟨h1, h2⟩ := cup_up (t := lo) ha
  constructor
  · have h3 : 0 * a < cup lo a * a := by omega
    exact Int.lt_of_mul_lt_mul_right h3 (by omega)
  · refine cup_le ha ?_
    have : 1 * lo ≤ a * lo := Int.mul_le_mul_of_nonneg_right (by omega) (by omega)
    omega
/-- a hit of bounds -/
def Ht (a b m lo hi k : Int) : Prop := lo ≤ (a * k + b) % m ∧ (a * k + b) % m < hi
def FH (a b m lo hi : Int) : Option Int → Prop
  | none => ∀ k : Int, 0 ≤ k → ¬ Ht a b m lo hi k
  | some k => 0 ≤ k ∧ Ht a b m lo hi k ∧ ∀ j : Int, 0 ≤ j → j < k → ¬ Ht a b m lo hi j
theorem FH_same (a b m lo : Int) : FH a b m lo lo none := by
  intro k _ w
  unfold Ht at w
  omega
theorem FH_0 {a b m lo hi : Int} (h : lo ≤ b % m) (h2 : b % m < hi) : FH a b m lo hi (some 0) := by
  refine ⟨by omega, ?_, fun j _ _ => by omega⟩
  unfold Ht
  rw [Int.mul_zero, Int.zero_add]
  exact ⟨h, h2⟩
theorem sub_mod' (x b m : Int) : (x - b) % m = (x - b % m) % m := by
  have e := Int.emod_add_mul_ediv b m
  rw [show x - b = x - b % m + m * (-(b / m)) by grind, Int.add_mul_emod_self_left]
theorem rest_bounds {b m lo hi : Int} (hm : 0 < m) (l0 : 0 ≤ lo) (lh : lo < hi) (hh : hi ≤ m) (h : ¬ (lo ≤ b % m ∧ b % m < hi)) : 0 < (lo - b) % m ∧ (lo - b) % m ≤ (hi - 1 - b) % m ∧ (hi - 1 - b) % m < m := by
  have s0 := Int.emod_nonneg b (show m ≠ 0 by omega)
  have s1 := Int.emod_lt_of_pos b hm
  rw [sub_mod' lo, sub_mod' (hi - 1)]
  generalize b % m = s at *
  by_cases z : s < lo
  · rw [Int.emod_eq_of_lt (by omega) (by omega), Int.emod_eq_of_lt (by omega) (by omega)]
    omega
  · rw [← Int.add_emod_right, ← Int.add_emod_right (hi - 1 - s), Int.emod_eq_of_lt (by omega) (by omega), Int.emod_eq_of_lt (by omega) (by omega)]
    omega
theorem Ht_iff {a b m lo hi k : Int} (hm : 0 < m) (l0 : 0 ≤ lo) (lh : lo < hi) (hh : hi ≤ m) (h : ¬ (lo ≤ b % m ∧ b % m < hi)) : Ht a b m lo hi k ↔ Wn a m ((lo - b) % m) ((hi - 1 - b) % m) k := by
  have s0 := Int.emod_nonneg b (show m ≠ 0 by omega)
  have s1 := Int.emod_lt_of_pos b hm
  have r0 := Int.emod_nonneg (a * k) (show m ≠ 0 by omega)
  have r1 := Int.emod_lt_of_pos (a * k) hm
  unfold Ht Wn
  rw [sub_mod' lo, sub_mod' (hi - 1), Int.add_emod (a * k) b]
  generalize b % m = s at *
  generalize a * k % m = r at *
  by_cases z : s < lo
  · rw [Int.emod_eq_of_lt (a := lo - s) (by omega) (by omega), Int.emod_eq_of_lt (a := hi - 1 - s) (by omega) (by omega)]
    by_cases y : r + s < m
    · rw [Int.emod_eq_of_lt (by omega) y]
      omega
    · rw [show r + s = r + s - m + m by omega, Int.add_emod_right, Int.emod_eq_of_lt (by omega) (by omega)]
      omega
  · rw [← Int.add_emod_right (lo - s), ← Int.add_emod_right (hi - 1 - s), Int.emod_eq_of_lt (a := lo - s + m) (by omega) (by omega), Int.emod_eq_of_lt (a := hi - 1 - s + m) (by omega) (by omega)]
    by_cases y : r + s < m
    · rw [Int.emod_eq_of_lt (by omega) y]
      omega
    · rw [show r + s = r + s - m + m by omega, Int.add_emod_right, Int.emod_eq_of_lt (by omega) (by omega)]
      omega
theorem FH_of {a b m lo hi : Int} {v : Option Int} (hm : 0 < m) (l0 : 0 ≤ lo) (lh : lo < hi) (hh : hi ≤ m) (h : ¬ (lo ≤ b % m ∧ b % m < hi)) (f : FR a m ((lo - b) % m) ((hi - 1 - b) % m) v) : FH a b m lo hi v := by
  cases v with
  | none => exact fun k k0 w => f k k0 ((Ht_iff hm l0 lh hh h).mp w)
  | some k => exact ⟨f.1, (Ht_iff hm l0 lh hh h).mpr f.2.1, fun j j0 jk w => f.2.2 j j0 jk ((Ht_iff hm l0 lh hh h).mp w)⟩
theorem Ht_period {a b m lo hi k c : Int} : Ht a b m lo hi (k + m * c) ↔ Ht a b m lo hi k := by
  unfold Ht
  rw [show a * (k + m * c) + b = a * k + b + m * (a * c) by grind, Int.add_mul_emod_self_left]
theorem FH_lt {a b m lo hi k : Int} (hm : 0 < m) (h : FH a b m lo hi (some k)) : k < m := by
  obtain ⟨k0, w, l⟩ := h
  by_cases z : k < m
  · exact z
  · refine (l (k - m) (by omega) (by omega) ?_).elim
    have := (Ht_period (a := a) (b := b) (m := m) (lo := lo) (hi := hi) (k := k - m) (c := 1)).mp (by
      rw [show k - m + m * 1 = k by omega]
      exact w)
    exact this
theorem cn_shift (k : Nat) (a b c lo hi : Int) {m : Int} (hm : 0 < m) : cn k a (b + c * m) m lo hi = cn k a b m lo hi := by
  unfold cn
  rw [show b + c * m - lo = b - lo + c * m by omega, show b + c * m - hi = b - hi + c * m by omega, fs_b k a (b - lo) c hm, fs_b k a (b - hi) c hm]
  omega
theorem cn_zero (a b m lo hi : Int) : cn 0 a b m lo hi = 0 := by
  unfold cn
  rw [fs_zero, fs_zero]
  rfl
theorem cn_per {P : Nat} {a b c lo hi m : Int} (hm : 0 < m) (h : a * P = c * m) : ∀ (q r : Nat), cn (q * P + r) a b m lo hi = q * cn P a b m lo hi + cn r a b m lo hi
  | 0, r => by
    rw [Nat.zero_mul, Nat.zero_add]
    omega
  | q + 1, r => by
    rw [show (q + 1) * P + r = P + (q * P + r) by rw [Nat.add_mul]; omega, cn_add, h, Int.add_comm (c * m) b, cn_shift _ _ _ _ _ _ hm, cn_per hm h q r, Int.natCast_add, Int.add_mul]
    omega
theorem cn_step (n : Nat) {a b lo hi m : Int} (hm : 0 < m) (l0 : 0 ≤ lo) (lh : lo ≤ hi) (hh : hi ≤ m) : (Ht a b m lo hi n → cn (n + 1) a b m lo hi = cn n a b m lo hi + 1) ∧ (¬ Ht a b m lo hi n → cn (n + 1) a b m lo hi = cn n a b m lo hi) := by
  have e := Int.emod_add_mul_ediv (a * (n : Int) + b) m
  have r0 := Int.emod_nonneg (a * (n : Int) + b) (show m ≠ 0 by omega)
  have r1 := Int.emod_lt_of_pos (a * (n : Int) + b) hm
  have d : ∀ c : Int, 0 ≤ c → c ≤ m → (a * (n : Int) + (b - c)) / m = (a * (n : Int) + b) / m - (if (a * (n : Int) + b) % m < c then 1 else 0) := by
    intro c c0 c1
    split
    · exact ediv_is hm (by grind) (by grind)
    · exact ediv_is hm (by grind) (by grind)
  unfold cn Ht
  rw [fs_succ, fs_succ, d lo l0 (by omega), d hi (by omega) hh]
  constructor
  · rintro ⟨g1, g2⟩
    rw [if_neg (by omega), if_pos g2]
    omega
  · intro g
    by_cases z : (a * (n : Int) + b) % m < lo
    · rw [if_pos z, if_pos (by omega)]
      omega
    · rw [if_neg z, if_neg (by omega)]
      omega
theorem cn_none {a b lo hi m : Int} (hm : 0 < m) (l0 : 0 ≤ lo) (lh : lo ≤ hi) (hh : hi ≤ m) : ∀ n : Nat, (∀ k : Int, 0 ≤ k → k < n → ¬ Ht a b m lo hi k) → cn n a b m lo hi = 0
  | 0, _ => cn_zero ..
  | n + 1, h => by
    rw [(cn_step n hm l0 lh hh).2 (h n (by omega) (by omega))]
    exact cn_none hm l0 lh hh n fun k k0 k1 => h k k0 (by omega)
theorem cn_mono {a b lo hi m : Int} (hm : 0 < m) (l0 : 0 ≤ lo) (lh : lo ≤ hi) (hh : hi ≤ m) (n : Nat) : ∀ k : Nat, cn n a b m lo hi ≤ cn (n + k) a b m lo hi
  | 0 => Int.le_refl _
  | k + 1 => by
    have := cn_mono (a := a) (b := b) hm l0 lh hh n k
    by_cases z : Ht a b m lo hi ((n + k : Nat) : Int)
    · have := (cn_step (n + k) hm l0 lh hh).1 z
      rw [show n + (k + 1) = n + k + 1 by omega]
      omega
    · have := (cn_step (n + k) hm l0 lh hh).2 z
      rw [show n + (k + 1) = n + k + 1 by omega]
      omega
theorem cn_some {a b lo hi m k : Int} (hm : 0 < m) (l0 : 0 ≤ lo) (lh : lo ≤ hi) (hh : hi ≤ m) (k0 : 0 ≤ k) (w : Ht a b m lo hi k) {n : Nat} (h : k < n) : 0 < cn n a b m lo hi := by
  obtain ⟨K, rfl⟩ : ∃ K : Nat, k = K := ⟨k.toNat, by omega⟩
  have h1 := (cn_step K hm l0 lh hh).1 w
  have h2 := cn_mono (a := a) (b := b) hm l0 lh hh 0 K
  have h3 := cn_mono (a := a) (b := b) hm l0 lh hh (K + 1) (n - (K + 1))
  rw [show K + 1 + (n - (K + 1)) = n by omega] at h3
  rw [cn_zero, Nat.zero_add] at h2
  omega
/-- a period -/
theorem per_eq (a : Int) {m : Int} (hm : 0 < m) : a * (lsM a m) = lsA a m * m := by
  have h1 := lsA_mul a m
  have h2 := lsM_mul a m
  generalize lsA a m = A at *
  generalize lsM a m = M at *
  generalize (Int.gcd a m : Int) = g at *
  subst h1
  subst h2
  grind
theorem Ht_per {a b m lo hi k q : Int} (hm : 0 < m) : Ht a b m lo hi (q * lsM a m + k) ↔ Ht a b m lo hi k := by
  unfold Ht
  have h := per_eq a hm
  rw [show a * (q * lsM a m + k) + b = a * k + b + m * (q * lsA a m) by
    rw [Int.mul_add, show a * (q * lsM a m) = q * (a * lsM a m) by grind, h]
    grind, Int.add_mul_emod_self_left]
/-- the hit by its number -/
theorem hit_at {a b m lo hi n less : Int} (hm : 0 < m) (l0 : 0 ≤ lo) (lh : lo ≤ hi) (hh : hi ≤ m) (n0 : 0 ≤ n) (b0 : 0 ≤ less) (e0 : 0 < cn (lsM a m).toNat a b m lo hi)
    (h1 : cn less.toNat a b m lo hi ≤ n % cn (lsM a m).toNat a b m lo hi) (h2 : n % cn (lsM a m).toNat a b m lo hi < cn (less.toNat + 1) a b m lo hi) :
    0 ≤ n / cn (lsM a m).toNat a b m lo hi * lsM a m + less ∧ Ht a b m lo hi (n / cn (lsM a m).toNat a b m lo hi * lsM a m + less) ∧ cn (n / cn (lsM a m).toNat a b m lo hi * lsM a m + less).toNat a b m lo hi = n := by
  have M0 := lsM_pos (a := a) hm
  have pe := per_eq a hm
  have hp := cn_per (P := (lsM a m).toNat) (a := a) (b := b) (c := lsA a m) (lo := lo) (hi := hi) hm (by rw [show (((lsM a m).toNat : Nat) : Int) = lsM a m by omega]; exact pe)
  have hi1 : Ht a b m lo hi less := by
    by_cases z : Ht a b m lo hi ((less.toNat : Nat) : Int)
    · rw [show ((less.toNat : Nat) : Int) = less by omega] at z
      exact z
    · have := (cn_step less.toNat hm l0 lh hh).2 z
      omega
  have ez := (cn_step (a := a) (b := b) less.toNat hm l0 lh hh).1 (by rw [show ((less.toNat : Nat) : Int) = less by omega]; exact hi1)
  have ed := Int.emod_add_mul_ediv n (cn (lsM a m).toNat a b m lo hi)
  have q0 : 0 ≤ n / cn (lsM a m).toNat a b m lo hi := Int.ediv_nonneg n0 (by omega)
  generalize hE : cn (lsM a m).toNat a b m lo hi = E at *
  generalize n / E = q at *
  have qp : 0 ≤ q * lsM a m := Int.mul_nonneg q0 (by omega)
  refine ⟨by omega, (Ht_per hm).mpr hi1, ?_⟩
  have h3 := hp q.toNat less.toNat
  have e4 : (q * lsM a m + less).toNat = q.toNat * (lsM a m).toNat + less.toNat := by
    have : ((q.toNat * (lsM a m).toNat : Nat) : Int) = q * lsM a m := by
      rw [Int.natCast_mul, show ((q.toNat : Nat) : Int) = q by omega, show (((lsM a m).toNat : Nat) : Int) = lsM a m by omega]
    omega
  rw [e4, h3, show ((q.toNat : Nat) : Int) = q by omega]
  rw [Int.mul_comm E q] at ed
  omega
theorem cn_m {a b m lo hi : Int} (hm : 0 < m) (e : cn (lsM a m).toNat a b m lo hi = 0) : cn m.toNat a b m lo hi = 0 := by
  have M0 := lsM_pos (a := a) hm
  have pe := per_eq a hm
  have hp := cn_per (P := (lsM a m).toNat) (a := a) (b := b) (c := lsA a m) (lo := lo) (hi := hi) hm (by rw [show (((lsM a m).toNat : Nat) : Int) = lsM a m by omega]; exact pe) (Int.gcd a m) 0
  rw [e, cn_zero, Nat.add_zero, Int.mul_zero, Int.add_zero] at hp
  have h2 := lsM_mul a m
  rw [show m.toNat = Int.gcd a m * (lsM a m).toNat by
    have : ((Int.gcd a m * (lsM a m).toNat : Nat) : Int) = lsM a m * (Int.gcd a m : Int) := by
      rw [Int.natCast_mul, show (((lsM a m).toNat : Nat) : Int) = lsM a m by omega, Int.mul_comm]
    omega]
  exact hp
theorem cn_le {a b lo hi m : Int} (hm : 0 < m) (l0 : 0 ≤ lo) (lh : lo ≤ hi) (hh : hi ≤ m) : ∀ n : Nat, cn n a b m lo hi ≤ n
  | 0 => by
    rw [cn_zero]
    omega
  | n + 1 => by
    have := cn_le (a := a) (b := b) hm l0 lh hh n
    by_cases z : Ht a b m lo hi n
    · have := (cn_step n hm l0 lh hh).1 z
      omega
    · have := (cn_step n hm l0 lh hh).2 z
      omega
theorem FH_all {a b m lo hi : Int} (hm : 0 < m) (f : FH a b m lo hi none) (k : Int) : ¬ Ht a b m lo hi k := by
  intro w
  refine f (k + m * (k.natAbs : Int)) ?_ (Ht_period.mpr w)
  have h1 : 1 * (k.natAbs : Int) ≤ m * (k.natAbs : Int) := Int.mul_le_mul_of_nonneg_right (by omega) (by omega)
  omega
theorem Ht_move {a b m lo hi j p : Int} : Ht a (a * p + b) m lo hi j ↔ Ht a b m lo hi (p + j) := by
  unfold Ht
  rw [show a * j + (a * p + b) = a * (p + j) + b by grind]
theorem FH_cn0 {a b m lo hi k : Int} (hm : 0 < m) (l0 : 0 ≤ lo) (lh : lo ≤ hi) (hh : hi ≤ m) (f : FH a b m lo hi (some k)) : cn k.toNat a b m lo hi = 0 :=
  cn_none hm l0 lh hh _ fun j j0 jk => f.2.2 j j0 (by have := f.1; omega)

--@ needs Hit
/-! lows -/
def rst (a b m k : Int) : Int := (a * k + b) % m
theorem rst_b (a b k : Int) {m : Int} (hm : 0 < m) : 0 ≤ rst a b m k ∧ rst a b m k < m :=
  ⟨Int.emod_nonneg _ (by omega), Int.emod_lt_of_pos _ hm⟩
/-- so many places on the rest is less by so much, where it is not less than that -/
theorem rst_on {a b m on down k : Int} (hm : 0 < m) (h : ∃ c, a * on = m * c - down) (g : down ≤ rst a b m k) (d0 : 0 ≤ down) : rst a b m (k + on) = rst a b m k - down := by
  obtain ⟨c, h⟩ := h
  have e := Int.emod_add_mul_ediv (a * k + b) m
  have r1 := Int.emod_lt_of_pos (a * k + b) hm
  unfold rst at g ⊢
  rw [show a * (k + on) + b = ((a * k + b) % m - down) + m * ((a * k + b) / m + c) by
    rw [Int.mul_add, h]
    grind, Int.add_mul_emod_self_left, Int.emod_eq_of_lt (by omega) (by omega)]
/-- a run: its steps, and that no place ahead of a step is so low -/
def Run (a b m place low on down times : Int) : Prop := 1 ≤ on ∧ 1 ≤ down ∧ 1 ≤ times ∧ down * times ≤ low ∧ rst a b m place = low ∧
  ∀ s : Nat, 1 ≤ s → (s : Int) ≤ times → rst a b m (place + on * s) = low - down * s ∧ ∀ k, 0 ≤ k → k < place + on * s → low - down * (s - 1) ≤ rst a b m k
/-- along a run, as long as the low lasts -/
theorem run_goes {a b m place low on down : Int} (hm : 0 < m) (p0 : 0 ≤ place) (on1 : 1 ≤ on) (d1 : 1 ≤ down) (hl : rst a b m place = low) (ht : rst a b m (place + on) = low - down) (hd : down ≤ low)
    (least : ∀ k, 0 ≤ k → k < place + on → low ≤ rst a b m k) : ∀ s : Nat, 1 ≤ s → down * s ≤ low → rst a b m (place + on * s) = low - down * s ∧ ∀ k, 0 ≤ k → k < place + on * s → low - down * (s - 1) ≤ rst a b m k := by
  have hc : ∃ c, a * on = m * c - down := by
    have e1 := Int.emod_add_mul_ediv (a * place + b) m
    have e2 := Int.emod_add_mul_ediv (a * (place + on) + b) m
    unfold rst at hl ht
    exact ⟨(a * (place + on) + b) / m - (a * place + b) / m, by grind⟩
  intro s
  induction s with
  | zero => intro h; omega
  | succ s ih =>
    intro _ hs
    by_cases z : s = 0
    · subst z
      refine ⟨?_, fun k k0 k1 => ?_⟩
      · simp
        exact ht
      · simp at k1 ⊢
        exact least k k0 k1
    · have es : down * ((s + 1 : Nat) : Int) = down * s + down := by
        rw [show ((s + 1 : Nat) : Int) = (s : Int) + 1 from rfl, Int.mul_add, Int.mul_one]
      have eo : on * ((s + 1 : Nat) : Int) = on * s + on := by
        rw [show ((s + 1 : Nat) : Int) = (s : Int) + 1 from rfl, Int.mul_add, Int.mul_one]
      have ed : down * ((s : Int) - 1) = down * s - down := by rw [Int.mul_sub, Int.mul_one]
      have os : on * 1 ≤ on * (s : Int) := Int.mul_le_mul_of_nonneg_left (by omega) (by omega)
      rw [es] at hs
      obtain ⟨i1, i2⟩ := ih (by omega) (by omega)
      rw [ed] at i2
      refine ⟨?_, fun k k0 k1 => ?_⟩
      · rw [eo, es, show place + (on * s + on) = place + on * s + on by omega, rst_on hm hc (by omega) (by omega)]
        omega
      · rw [show (((s + 1 : Nat) : Int) - 1) = (s : Int) by omega]
        by_cases y : k < place + on * s
        · have := i2 k k0 y
          omega
        · have h1 := i2 (k - on) (by omega) (by omega)
          have h3 : down ≤ rst a b m (k - on) := by omega
          have h2 := rst_on (k := k - on) hm hc h3 (by omega)
          rw [show k - on + on = k by omega] at h2
          omega

--@ needs Low
/-! the runs of lows -/
def endOf (b m : Int) (rs : List (List Int)) : Int × Int := match rs.getLast? with
  | some [p, l, on, dn, t] => (p + on * t, l - dn * t)
  | _ => (0, b % m)
def stepOf (rs : List (List Int)) : Int × Int := match rs.getLast? with
  | some [_, _, on, dn, _] => (on, dn)
  | _ => (0, 0)
theorem endOf_nil (b m : Int) : endOf b m [] = (0, b % m) := rfl
theorem stepOf_nil : stepOf [] = (0, 0) := rfl
theorem endOf_snoc (b m : Int) (rs : List (List Int)) (p l on dn t : Int) : endOf b m (rs ++ [[p, l, on, dn, t]]) = (p + on * t, l - dn * t) := by
  unfold endOf
  rw [List.getLast?_concat]
theorem stepOf_snoc (rs : List (List Int)) (p l on dn t : Int) : stepOf (rs ++ [[p, l, on, dn, t]]) = (on, dn) := by
  unfold stepOf
  rw [List.getLast?_concat]
def RunsP (a b m n : Int) (rs : List (List Int)) : Prop := ∀ i r, rs[i]? = some r → ∃ p l on dn t : Int, r = [p, l, on, dn, t] ∧ endOf b m (rs.take i) = (p, l) ∧ Run a b m p l on dn t ∧ 0 ≤ p ∧ p + on * t < n ∧ (on, dn) ≠ stepOf (rs.take i)
theorem RunsP.nil (a b m n : Int) : RunsP a b m n [] := fun i r h => by simp at h
theorem RunsP.snoc {a b m n : Int} {rs : List (List Int)} (h : RunsP a b m n rs) {p l on dn t : Int} (e : endOf b m rs = (p, l)) (r : Run a b m p l on dn t) (p0 : 0 ≤ p) (pn : p + on * t < n) (ne : (on, dn) ≠ stepOf rs) : RunsP a b m n (rs ++ [[p, l, on, dn, t]]) := by
  intro i r' hr
  by_cases hi : i < rs.length
  · rw [List.getElem?_append_left hi] at hr
    have ht : (rs ++ [[p, l, on, dn, t]]).take i = rs.take i := List.take_append_of_le_length (by omega)
    rw [ht]
    exact h i r' hr
  · have hl : i = rs.length := by
      have := (List.getElem?_eq_some_iff.mp hr).1
      rw [List.length_append] at this
      simp at this
      omega
    subst hl
    rw [List.getElem?_append_right (Nat.le_refl _), Nat.sub_self] at hr
    have ht : (rs ++ [[p, l, on, dn, t]]).take rs.length = rs := by
      rw [List.take_append_of_le_length (Nat.le_refl _), List.take_length]
    rw [ht]
    exact ⟨p, l, on, dn, t, (Option.some.inj hr).symm, e, r, p0, pn, ne⟩
/-- the least rest among the first places, and its first place -/
def Least (a b m n low place : Int) : Prop := 0 ≤ place ∧ place < n ∧ rst a b m place = low ∧ (∀ k, 0 ≤ k → k < place → low < rst a b m k) ∧ ∀ k, 0 ≤ k → k < n → low ≤ rst a b m k
theorem Least.uniq {a b m n l p l' p' : Int} (h : Least a b m n l p) (h' : Least a b m n l' p') : l = l' ∧ p = p' := by
  obtain ⟨h1, h2, h3, h4, h5⟩ := h
  obtain ⟨g1, g2, g3, g4, g5⟩ := h'
  have a1 := h5 p' g1 g2
  have a2 := g5 p h1 h2
  have e : l = l' := by omega
  refine ⟨e, ?_⟩
  by_cases z : p < p'
  · have := g4 p h1 z
    omega
  · by_cases y : p' < p
    · have := h4 p' g1 y
      omega
    · omega
/-- what the loop keeps -/
structure Lst (a b m n : Int) (rs : List (List Int)) (place low : Int) : Prop where
  e : endOf b m rs = (place, low)
  p0 : 0 ≤ place
  pn : place < n
  r : rst a b m place = low
  ah : ∀ k, 0 ≤ k → k < place → low < rst a b m k
  R : RunsP a b m n rs
  g : (low * 2 ^ rs.length < 2 ^ 200 ∧ (rs = [] ∨ low < (stepOf rs).2)) ∨ ((∀ k, 0 ≤ k → k < n → low ≤ rst a b m k) ∧ rs.length ≤ 200)
theorem Lst.new {a b m n : Int} (hm : 0 < m) (zm : m < 2 ^ 200) (hn : 0 < n) : Lst a b m n [] 0 (b % m) := by
  have r1 := Int.emod_lt_of_pos b hm
  refine ⟨rfl, by omega, hn, ?_, fun k h1 h2 => by omega, RunsP.nil _ _ _ _, .inl ⟨?_, .inl rfl⟩⟩
  · unfold rst
    rw [Int.mul_zero, Int.zero_add]
  · show b % m * 2 ^ 0 < 2 ^ 200
    omega
theorem Lst.len {a b m n : Int} {rs : List (List Int)} {place low : Int} (h : Lst a b m n rs place low) (hm : 0 < m) : rs.length ≤ 200 ∨ low = 0 := by
  rcases h.g with ⟨g, _⟩ | g
  · by_cases z : low = 0
    · exact .inr z
    · left
      have l0 := (rst_b a b place hm).1
      rw [h.r] at l0
      by_cases y : rs.length ≤ 200
      · exact y
      · have : (2 : Int) ^ 200 ≤ 2 ^ rs.length := by
          have := Nat.pow_le_pow_right (n := 2) (by decide) (show 200 ≤ rs.length by omega)
          exact_mod_cast this
        have h1 : 1 * (2 : Int) ^ rs.length ≤ low * 2 ^ rs.length := Int.mul_le_mul_of_nonneg_right (by omega) (by omega)
        omega
  · exact .inl g.2
/-- no lower one is left -/
theorem Lst.none {a b m n : Int} {rs : List (List Int)} {place low : Int} (h : Lst a b m n rs place low) (hm : 0 < m) (f : ∀ y : Int, 0 ≤ y → place + y < n → ¬ Ht a (a * place + b) m 0 low y) : Least a b m n low place := by
  refine ⟨h.p0, h.pn, h.r, h.ah, fun k k0 kn => ?_⟩
  by_cases z : k < place
  · exact Int.le_of_lt (h.ah k k0 z)
  · have := f (k - place) (by omega) (by omega)
    unfold Ht at this
    unfold rst
    have e : a * (k - place) + (a * place + b) = a * k + b := by grind
    rw [e] at this
    have := Int.emod_nonneg (a * k + b) (show m ≠ 0 by omega)
    omega
/-- a run more -/
theorem Lst.step {a b m n : Int} {rs : List (List Int)} {place low : Int} (h : Lst a b m n rs place low) (hm : 0 < m) {y : Int} (f : FH a (a * place + b) m 0 low (some y)) (hy : place + y < n) :
    rs.length < 200 ∧ 1 ≤ y ∧ 1 ≤ low - rst a b m (place + y) ∧ ∀ dn t : Int, dn = low - rst a b m (place + y) → t = min (low / dn) ((n - 1 - place) / y) →
      1 ≤ t ∧ dn * t ≤ low ∧ place + y * t < n ∧ Lst a b m n (rs ++ [[place, low, y, dn, t]]) (place + y * t) (low - dn * t) := by
  obtain ⟨y0, fy, fl⟩ := f
  have ex : ∀ j : Int, a * j + (a * place + b) = a * (place + j) + b := fun j => by grind
  have y1 : 1 ≤ y := by
    by_cases z : y = 0
    · subst z
      have := h.r
      unfold Ht at fy
      unfold rst at this
      rw [ex, Int.add_zero] at fy
      omega
    · omega
  have lo0 := (rst_b a b place hm).1
  rw [h.r] at lo0
  have ry : 0 ≤ rst a b m (place + y) ∧ rst a b m (place + y) < low := by
    unfold Ht at fy
    unfold rst
    rw [ex] at fy
    exact fy
  have least : ∀ k, 0 ≤ k → k < place + y → low ≤ rst a b m k := fun k k0 k1 => by
    by_cases z : k < place
    · exact Int.le_of_lt (h.ah k k0 z)
    · have := fl (k - place) (by omega) (by omega)
      unfold Ht at this
      rw [ex, show place + (k - place) = k by omega] at this
      have r0 := (rst_b a b k hm).1
      unfold rst at r0 ⊢
      omega
  obtain ⟨g1, g2⟩ : low * 2 ^ rs.length < 2 ^ 200 ∧ (rs = [] ∨ low < (stepOf rs).2) := by
    rcases h.g with g | ⟨g, _⟩
    · exact g
    · have := g (place + y) (by have := h.p0; omega) hy
      omega
  have len : rs.length < 200 := by
    by_cases z : rs.length < 200
    · exact z
    · have : (2 : Int) ^ 200 ≤ 2 ^ rs.length := by
        have := Nat.pow_le_pow_right (n := 2) (by decide) (show 200 ≤ rs.length by omega)
        exact_mod_cast this
      have h1 : 1 * (2 : Int) ^ rs.length ≤ low * 2 ^ rs.length := Int.mul_le_mul_of_nonneg_right (by omega) (by omega)
      omega
  refine ⟨len, y1, by omega, fun dn t ed et => ?_⟩
  have d1 : 1 ≤ dn := by omega
  have dl : dn ≤ low := by omega
  have rg := run_goes (a := a) (b := b) (place := place) (low := low) (on := y) (down := dn) hm h.p0 y1 d1 h.r (by omega) dl least
  have q1 : 1 ≤ low / dn := (Int.le_ediv_iff_mul_le (by omega)).mpr (by omega)
  have q2 : 1 ≤ (n - 1 - place) / y := (Int.le_ediv_iff_mul_le (by omega)).mpr (by omega)
  have t1 : 1 ≤ t := by omega
  have tl : t ≤ low / dn := by omega
  have tn : t ≤ (n - 1 - place) / y := by omega
  have hl : dn * t ≤ low := by
    have := (Int.le_ediv_iff_mul_le (by omega)).mp tl
    rw [Int.mul_comm]
    exact this
  have hn : place + y * t < n := by
    have := (Int.le_ediv_iff_mul_le (by omega)).mp tn
    rw [Int.mul_comm] at this
    omega
  have yt : 0 ≤ y * t := Int.mul_nonneg (by omega) (by omega)
  have p0 := h.p0
  obtain ⟨e1, e2⟩ := rg t.toNat (by omega) (by rw [show ((t.toNat : Nat) : Int) = t by omega]; exact hl)
  rw [show ((t.toNat : Nat) : Int) = t by omega] at e1 e2
  have edt : dn * (t - 1) = dn * t - dn := by rw [Int.mul_sub, Int.mul_one]
  refine ⟨t1, hl, hn, ⟨endOf_snoc .., by omega, hn, e1, fun k k0 k1 => ?_, h.R.snoc h.e ⟨y1, d1, t1, hl, h.r, fun s s1 s2 => ?_⟩ p0 hn ?_, ?_⟩⟩
  · have := e2 k k0 k1
    omega
  · refine rg s s1 ?_
    have : dn * (s : Int) ≤ dn * t := Int.mul_le_mul_of_nonneg_left s2 (by omega)
    omega
  · intro z
    rcases g2 with rfl | g2
    · rw [stepOf_nil] at z
      have := congrArg Prod.fst z
      dsimp at this
      omega
    · have := congrArg Prod.snd z
      dsimp at this
      omega
  · rw [stepOf_snoc, List.length_append]
    show _ ∧ (_ ∨ low - dn * t < dn) ∨ _ ∧ rs.length + 1 ≤ 200
    by_cases ca : t = low / dn
    · left
      have em := Int.emod_add_mul_ediv low dn
      have r1 := Int.emod_lt_of_pos low (show 0 < dn by omega)
      have ll : low - dn * t = low % dn := by
        rw [ca]
        omega
      have dd : dn * 1 ≤ dn * t := Int.mul_le_mul_of_nonneg_left t1 (by omega)
      refine ⟨?_, .inr (by omega)⟩
      rw [show rs.length + [[place, low, y, dn, t]].length = rs.length + 1 from rfl, Int.pow_succ]
      have h2 : (low - dn * t) * 2 * 2 ^ rs.length ≤ low * 2 ^ rs.length := Int.mul_le_mul_of_nonneg_right (by omega) (Int.pow_nonneg (by decide))
      have h3 : (low - dn * t) * (2 ^ rs.length * 2) = (low - dn * t) * 2 * 2 ^ rs.length := by
        rw [Int.mul_comm ((2 : Int) ^ rs.length) 2, Int.mul_assoc]
      omega
    · right
      refine ⟨fun k k0 kn => ?_, by omega⟩
      have tq : t = (n - 1 - place) / y := by omega
      have t2 : t + 1 ≤ low / dn := by omega
      have hl2 : dn * (t + 1) ≤ low := by
        have := (Int.le_ediv_iff_mul_le (by omega)).mp t2
        rw [Int.mul_comm]
        exact this
      have := (rg (t.toNat + 1) (by omega) (by rw [show ((t.toNat + 1 : Nat) : Int) = t + 1 by omega]; exact hl2)).2 k k0 (by
        rw [show ((t.toNat + 1 : Nat) : Int) = t + 1 by omega]
        have em := Int.emod_add_mul_ediv (n - 1 - place) y
        have r1 := Int.emod_lt_of_pos (n - 1 - place) (show 0 < y by omega)
        rw [← tq] at em
        rw [Int.mul_add, Int.mul_one]
        omega)
      rw [show ((t.toNat + 1 : Nat) : Int) - 1 = t by omega] at this
      exact this
theorem rst_turn {a b m : Int} (hm : 0 < m) (k : Int) : rst (0 - a) (m - 1 - b) m k = m - 1 - rst a b m k := by
  have e := Int.emod_add_mul_ediv (a * k + b) m
  have r0 := Int.emod_nonneg (a * k + b) (show m ≠ 0 by omega)
  have r1 := Int.emod_lt_of_pos (a * k + b) hm
  unfold rst
  rw [show (0 - a) * k + (m - 1 - b) = (m - 1 - (a * k + b) % m) + m * (-((a * k + b) / m)) by grind, Int.add_mul_emod_self_left, Int.emod_eq_of_lt (by omega) (by omega)]
/-- the greatest rest, and its first place -/
theorem Least.turn {a b m n h p : Int} (hm : 0 < m) (L : Least (0 - a) (m - 1 - b) m n (m - 1 - h) p) : 0 ≤ p ∧ p < n ∧ rst a b m p = h ∧ (∀ k, 0 ≤ k → k < p → rst a b m k < h) ∧ ∀ k, 0 ≤ k → k < n → rst a b m k ≤ h := by
  obtain ⟨h1, h2, h3, h4, h5⟩ := L
  refine ⟨h1, h2, ?_, fun k k0 k1 => ?_, fun k k0 k1 => ?_⟩
  · rw [rst_turn hm] at h3
    omega
  · have := h4 k k0 k1
    rw [rst_turn hm] at this
    omega
  · have := h5 k k0 k1
    rw [rst_turn hm] at this
    omega

--@ needs Runs
/-! lows one by one, and put to runs -/
def lastR (r : List (List Int)) : Int × Int := match r.getLast? with
  | some [p, l] => (p, l)
  | _ => (0, 0)
theorem lastR_snoc (rs : List (List Int)) (p l : Int) : lastR (rs ++ [[p, l]]) = (p, l) := by
  unfold lastR
  rw [List.getLast?_concat]
def recF (f : Nat → Int) : Nat → List (List Int)
  | 0 => []
  | n + 1 => if recF f n = [] ∨ f n < (lastR (recF f n)).2 then recF f n ++ [[(n : Int), f n]] else recF f n
def addR (rs : List (List Int)) (p l p' l' : Int) : List (List Int) :=
  if rs ≠ [] ∧ stepOf rs = (p' - p, l - l') then rs.dropLast ++ [[(rs.getLastD []).getD 0 0, (rs.getLastD []).getD 1 0, p' - p, l - l', (rs.getLastD []).getD 4 0 + 1]] else rs ++ [[p, l, p' - p, l - l', 1]]
def grpN (ss : List (List Int)) : Nat → List (List Int)
  | 0 => []
  | i + 1 => addR (grpN ss i) ((ss.getD i []).getD 0 0) ((ss.getD i []).getD 1 0) ((ss.getD (i + 1) []).getD 0 0) ((ss.getD (i + 1) []).getD 1 0)
theorem grpN_app (ss ts : List (List Int)) : ∀ i, i < ss.length → grpN (ss ++ ts) i = grpN ss i
  | 0, _ => rfl
  | i + 1, h => by
    have e : ∀ j, j < ss.length → (ss ++ ts).getD j [] = ss.getD j [] := fun j hj => by
      rw [List.getD_eq_getElem?_getD, List.getD_eq_getElem?_getD, List.getElem?_append_left hj]
    unfold grpN
    rw [grpN_app ss ts i (by omega), e i (by omega), e (i + 1) h]
theorem addR_more (rs : List (List Int)) (p l on dn t p' l' p2 l2 : Int) (h1 : p2 - p' = on) (h2 : l' - l2 = dn) : addR (rs ++ [[p, l, on, dn, t]]) p' l' p2 l2 = rs ++ [[p, l, on, dn, t + 1]] := by
  unfold addR
  rw [if_pos ⟨by simp, by rw [stepOf_snoc, h1, h2]⟩, h1, h2]
  simp
theorem addR_new (rs : List (List Int)) (p l p' l' : Int) (h : rs = [] ∨ stepOf rs ≠ (p' - p, l - l')) : addR rs p l p' l' = rs ++ [[p, l, p' - p, l - l', 1]] := by
  unfold addR
  rw [if_neg]
  rintro ⟨h1, h2⟩
  rcases h with h | h
  · exact h1 h
  · exact h h2
/-- behind so many places: the last low, and the runs up to it -/
def Fus (f : Nat → Int) (k : Nat) (rs : List (List Int)) (p l : Int) : Prop := recF f k ≠ [] ∧ lastR (recF f k) = (p, l) ∧ (recF f k).getD ((recF f k).length - 1) [] = [p, l] ∧ grpN (recF f k) ((recF f k).length - 1) = rs
theorem Fus.one (f : Nat → Int) : Fus f 1 [] 0 (f 0) := by
  have e : recF f 1 = [[0, f 0]] := by
    show (if recF f 0 = [] ∨ f 0 < (lastR (recF f 0)).2 then recF f 0 ++ [[((0 : Nat) : Int), f 0]] else recF f 0) = _
    rw [if_pos (.inl rfl)]
    rfl
  unfold Fus
  rw [e]
  exact ⟨by simp, rfl, rfl, rfl⟩
theorem Fus.stay {f : Nat → Int} {k : Nat} {rs : List (List Int)} {p l : Int} (h : Fus f k rs p l) (hl : l ≤ f k) : Fus f (k + 1) rs p l := by
  have e : recF f (k + 1) = recF f k := by
    show (if recF f k = [] ∨ f k < (lastR (recF f k)).2 then recF f k ++ [[(k : Int), f k]] else recF f k) = _
    rw [if_neg]
    rintro (z | z)
    · exact h.1 z
    · rw [h.2.1] at z
      have z : f k < l := z
      omega
  unfold Fus
  rw [e]
  exact h
theorem Fus.stays {f : Nat → Int} {k : Nat} {rs : List (List Int)} {p l : Int} (h : Fus f k rs p l) : ∀ j : Nat, (∀ i, k ≤ i → i < k + j → l ≤ f i) → Fus f (k + j) rs p l
  | 0, _ => h
  | j + 1, hl => (h.stays j fun i h1 h2 => hl i h1 (by omega)).stay (hl (k + j) (by omega) (by omega))
theorem Fus.down {f : Nat → Int} {k : Nat} {rs : List (List Int)} {p l : Int} (h : Fus f k rs p l) (hl : f k < l) : Fus f (k + 1) (addR rs p l k (f k)) k (f k) := by
  obtain ⟨h1, h2, h3, h4⟩ := h
  have e : recF f (k + 1) = recF f k ++ [[(k : Int), f k]] := by
    show (if recF f k = [] ∨ f k < (lastR (recF f k)).2 then recF f k ++ [[(k : Int), f k]] else recF f k) = _
    rw [if_pos]
    right
    rw [h2]
    exact hl
  unfold Fus
  rw [e]
  generalize recF f k = ss at *
  have l0 : 0 < ss.length := List.length_pos_iff.mpr h1
  have e1 : (ss ++ [[(k : Int), f k]]).length - 1 = ss.length := by
    rw [List.length_append]
    rfl
  have e2 : (ss ++ [[(k : Int), f k]]).getD ss.length [] = [(k : Int), f k] := by
    rw [List.getD_eq_getElem?_getD, List.getElem?_append_right (Nat.le_refl _), Nat.sub_self]
    rfl
  refine ⟨by simp, lastR_snoc .., by rw [e1, e2], ?_⟩
  rw [e1]
  obtain ⟨j, hj⟩ : ∃ j, ss.length = j + 1 := ⟨ss.length - 1, by omega⟩
  rw [hj] at h3 h4 e2 ⊢
  simp only [Nat.add_sub_cancel] at h3 h4
  show addR (grpN (ss ++ [[(k : Int), f k]]) j) _ _ _ _ = _
  have e3 : (ss ++ [[(k : Int), f k]]).getD j [] = ss.getD j [] := by
    rw [List.getD_eq_getElem?_getD, List.getD_eq_getElem?_getD, List.getElem?_append_left (by omega)]
  rw [grpN_app _ _ _ (by omega), h4, e2, e3, h3]
  rfl
/-- along one run -/
theorem Fus.run {a b m n : Int} {rs : List (List Int)} {p l on dn t : Int} (p0 : 0 ≤ p) (pn : p + on * t < n) (h : Fus (fun i => rst a b m i) (p + 1).toNat rs p l) (r : Run a b m p l on dn t) (ne : (on, dn) ≠ stepOf rs) : ∀ s : Nat, 1 ≤ s → (s : Int) ≤ t →
    Fus (fun i => rst a b m i) (p + on * s + 1).toNat (rs ++ [[p, l, on, dn, (s : Int)]]) (p + on * s) (l - dn * s) := by
  obtain ⟨o1, d1, t1, dl, r0, hs⟩ := r
  intro s
  induction s with
  | zero => intro h; omega
  | succ s ih =>
    intro _ hst
    obtain ⟨g1, g2⟩ := hs (s + 1) (by omega) hst
    have eo : on * ((s + 1 : Nat) : Int) = on * s + on := by
      rw [show ((s + 1 : Nat) : Int) = (s : Int) + 1 from rfl, Int.mul_add, Int.mul_one]
    have ed : dn * ((s + 1 : Nat) : Int) = dn * s + dn := by
      rw [show ((s + 1 : Nat) : Int) = (s : Int) + 1 from rfl, Int.mul_add, Int.mul_one]
    rw [eo, ed] at g1
    rw [eo, show ((s + 1 : Nat) : Int) - 1 = (s : Int) by omega] at g2
    have os : 0 ≤ on * (s : Int) := Int.mul_nonneg (by omega) (by omega)
    have prev : Fus (fun i => rst a b m i) (p + on * s + 1).toNat (if s = 0 then rs else rs ++ [[p, l, on, dn, (s : Int)]]) (p + on * s) (l - dn * s) := by
      by_cases z : s = 0
      · subst z
        rw [if_pos rfl]
        simp
        exact h
      · rw [if_neg z]
        exact ih (by omega) (by omega)
    have st := prev.stays (on - 1).toNat (fun i h1 h2 => g2 i (by omega) (by omega))
    rw [show (p + on * s + 1).toNat + (on - 1).toNat = (p + (on * s + on)).toNat by omega] at st
    have ek : (((p + (on * s + on)).toNat : Nat) : Int) = p + (on * s + on) := by omega
    have dw := st.down (by
      show rst a b m (((p + (on * s + on)).toNat : Nat) : Int) < _
      rw [ek, g1]
      omega)
    rw [show (p + (on * s + on)).toNat + 1 = (p + (on * s + on) + 1).toNat by omega] at dw
    rw [eo, ed]
    have dw : Fus (fun i => rst a b m i) (p + (on * s + on) + 1).toNat (addR (if s = 0 then rs else rs ++ [[p, l, on, dn, (s : Int)]]) (p + on * s) (l - dn * s) (p + (on * s + on)) (l - (dn * s + dn))) (p + (on * s + on)) (l - (dn * s + dn)) := by
      have := dw
      simp only [ek, g1] at this
      exact this
    by_cases z : s = 0
    · subst z
      rw [if_pos rfl] at dw
      rw [addR_new] at dw
      · simp at dw ⊢
        rw [show p + on - p = on by omega, show l - (l - dn) = dn by omega] at dw
        exact dw
      · right
        intro y
        apply ne
        rw [y]
        simp
        omega
    · rw [if_neg z, addR_more _ _ _ _ _ _ _ _ _ _ (by omega) (by omega)] at dw
      exact dw
/-- the runs are those of the lows, gone through one by one -/
theorem runs_one {a b m n : Int} (hn : 0 < n) {rs : List (List Int)} (P : RunsP a b m n rs) {place low : Int} (e : endOf b m rs = (place, low)) (L : Least a b m n low place) : grpN (recF (fun i => rst a b m i) n.toNat) ((recF (fun i => rst a b m i) n.toNat).length - 1) = rs := by
  have all : ∀ j : Nat, j ≤ rs.length → ∀ p l, endOf b m (rs.take j) = (p, l) → 0 ≤ p ∧ Fus (fun i => rst a b m i) (p + 1).toNat (rs.take j) p l := by
    intro j
    induction j with
    | zero =>
      intro _ p l h
      rw [List.take_zero, endOf_nil] at h
      cases h
      have := Fus.one (fun i => rst a b m i)
      refine ⟨by decide, ?_⟩
      have e0 : rst a b m ((0 : Nat) : Int) = b % m := by
        unfold rst
        simp
      rw [e0] at this
      exact this
    | succ j ih =>
      intro hj p l h
      have hr : rs[j]? = some rs[j] := List.getElem?_eq_getElem (by omega)
      obtain ⟨p', l', on, dn, t, er, ee, rn, p0, pn, ne⟩ := P j _ hr
      have tk : rs.take (j + 1) = rs.take j ++ [[p', l', on, dn, t]] := by
        rw [List.take_add_one, hr, er]
        rfl
      obtain ⟨_, fu⟩ := ih (by omega) p' l' ee
      have t1 := rn.2.2.1
      have o1 := rn.1
      have := Fus.run p0 pn fu rn ne t.toNat (by omega) (by omega)
      rw [show ((t.toNat : Nat) : Int) = t by omega] at this
      rw [tk, endOf_snoc] at h
      cases h
      have ot : 0 ≤ on * t := Int.mul_nonneg (by omega) (by omega)
      refine ⟨by omega, ?_⟩
      rw [tk]
      exact this
  obtain ⟨p0, fu⟩ := all rs.length (Nat.le_refl _) place low (by rw [List.take_length]; exact e)
  rw [List.take_length] at fu
  obtain ⟨l0, l1, l2, l3, l4⟩ := L
  have := fu.stays (n - place - 1).toNat (fun i h1 h2 => l4 i (by omega) (by omega))
  rw [show (place + 1).toNat + (n - place - 1).toNat = n.toNat by omega] at this
  exact this.2.2.2

--@ needs Runs
theorem at_last {xs : List V} {v : V} (h : xs[xs.length - 1]? = some v) : atI xs (-1) = some v := by
  have hl : xs.length - 1 < xs.length := (List.getElem?_eq_some_iff.mp h).1
  unfold atI ixN
  rw [if_neg (by decide), if_pos (by omega)]
  show xs[((-1 : Int) + xs.length).toNat]? = some v
  rw [show ((-1 : Int) + xs.length).toNat = xs.length - 1 by omega]
  exact h
theorem RunsP.last {a b m n : Int} {rs : List (List Int)} (h : RunsP a b m n rs) (ne : rs ≠ []) : ∃ p l on dn t : Int, rs[rs.length - 1]? = some [p, l, on, dn, t] ∧ endOf b m rs = (p + on * t, l - dn * t) ∧ Run a b m p l on dn t ∧ 0 ≤ p ∧ p + on * t < n := by
  obtain h0 | ⟨is, r, h0⟩ := List.eq_nil_or_concat rs
  · exact absurd h0 ne
  · rw [List.concat_eq_append] at h0
    subst h0
    have hi : (is ++ [r])[is.length]? = some r := by
      rw [List.getElem?_append_right (Nat.le_refl _), Nat.sub_self]
      rfl
    obtain ⟨p, l, on, dn, t, rfl, e, R, p0, pn, _⟩ := h _ _ hi
    refine ⟨p, l, on, dn, t, ?_, endOf_snoc .., R, p0, pn⟩
    rw [List.length_append, show is.length + [[p, l, on, dn, t]].length - 1 = is.length from rfl]
    exact hi
theorem Run.sz {a b m n p l on dn t : Int} (r : Run a b m p l on dn t) (hm : 0 < m) (p0 : 0 ≤ p) (pn : p + on * t < n) : 0 ≤ l ∧ l < m ∧ on < n ∧ dn < m ∧ t < n ∧ p < n ∧ 1 ≤ on ∧ 1 ≤ dn ∧ 1 ≤ t := by
  obtain ⟨h1, h2, h3, h4, h5, _⟩ := r
  have b1 := rst_b a b p hm
  rw [h5] at b1
  have x1 : on * 1 ≤ on * t := Int.mul_le_mul_of_nonneg_left h3 (by omega)
  have x2 : 1 * t ≤ on * t := Int.mul_le_mul_of_nonneg_right h1 (by omega)
  have x3 : dn * 1 ≤ dn * t := Int.mul_le_mul_of_nonneg_left h3 (by omega)
  omega
theorem take_up {α : Type} {l : List α} {i : Nat} {x : α} (h : l[i]? = some x) : l.take (i + 1) = l.take i ++ [x] := by
  rw [List.take_add_one, h]
  rfl

theorem r_iEnum {K : PySem.W.Frag} {ta : TA} {σ : L2.St} {H : Hp} {R : It → Hp → Prop} (k : ta σ H fun vs H1 => ∃ a xs, vs = [.ref a] ∧ SqL K H1 a xs ∧ R (Ite K a) H1) : iEnum K ta σ H R := k
theorem for_enum {K : PySem.W.Frag} {a : Addr} {xs : List V} {g : TG} {tb : TS} {D : Ends} {σ : L2.St} {H : Hp} (Pv : Nat → L2.St → Hp → Prop) (h0 : Pv 0 σ H) (hq : ∀ i σ H, Pv i σ H → SqL K H a xs)
    (hs : ∀ (i : Nat) (x : V) (T : Addr) (σ : L2.St) (H : Hp), xs[i]? = some x → Pv i σ H → H T = none → g (.ref T) σ (upd H T (.tup [.int (i : Nat), x])) fun σ2 H2 => tb { D with nx := Pv (i + 1), ct := Pv (i + 1), bk := D.nx } σ2 H2) (hd : ∀ σ H, Pv xs.length σ H → D.nx σ H) :
    ForB (Ite K a) g tb D σ H := by
  refine ⟨fun i m σ H => m = xs.length - i ∧ i ≤ xs.length ∧ Pv i σ H, ⟨xs.length, rfl, Nat.zero_le _, h0⟩, ?_⟩
  rintro i m σ H ⟨rfl, hi, p⟩
  have qx := hq i σ H p
  by_cases hlt : i < xs.length
  · have hx : xs[i]? = some xs[i] := List.getElem?_eq_getElem hlt
    refine .inr ⟨⟨xs, _, qx, hx⟩, Pv (i + 1), fun σ' H' p' => ⟨xs.length - (i + 1), by omega, rfl, hlt, p'⟩, fun v H' y => ?_⟩
    obtain ⟨T, x', rfl, hT, rfl, f1⟩ := y
    exact hs i x' T σ H (f1 xs qx) p hT
  · have e : i = xs.length := by omega
    subst e
    exact .inl ⟨⟨xs, qx, Nat.le_refl _⟩, hd σ H p⟩
/-- [e for i, x in enumerate(a list of whole numbers)] -/
theorem lc_enumI {K : PySem.W.Frag} {σ : L2.St} {H : Hp} {Q : VK} {te : TE} {a : Addr} {xs : List Int} {j1 j2 : Nat} {vs : List Nat} (g : Nat → V) (ha : SqL K H a (xs.map V.int)) (hn : xs.length ≤ 100000)
    (hw : ∀ x y, wipe (((wipe σ vs).set j1 (some x)).set j2 (some y)) vs = wipe σ vs)
    (he : ∀ (i : Nat) x, xs[i]? = some x → PureE te (((wipe σ vs).set j1 (some (.int (i : Nat)))).set j2 (some (.int x))) H (g i))
    (k : ∀ p H1, H p = none → Ex H H1 → H1 p = some (.lst ((List.range xs.length).map g)) → Q (.ref p) H1) : LcB (Ite K a) (gTup K 2 (gCons (gName j1) (gCons (gName j2) gNil))) tYes te vs σ H Q := fun Dl hD => by
  refine ⟨fun i m H' => m = xs.length - i ∧ i ≤ xs.length ∧ Ex H H' ∧ H' Dl = some (.lst ((List.range i).map g)), ⟨_, rfl, Nat.zero_le _, Ex.new hD, by rw [upd_same]; rfl⟩, ?_⟩
  rintro i m H' ⟨rfl, hi, e, hd⟩
  by_cases hx : i = xs.length
  · subst hx
    refine .inl ⟨⟨_, sql_up e ha, by rw [List.length_map]; omega⟩, ?_⟩
    exact k Dl H' hD e hd
  · have h1 : i < xs.length := by omega
    have g1 : (xs.map V.int)[i]? = some (.int xs[i]) := by rw [List.getElem?_map, List.getElem?_eq_getElem h1]; rfl
    refine .inr ⟨⟨_, _, sql_up e ha, g1⟩, fun H3 => Ex H H3 ∧ H3 Dl = some (.lst ((List.range (i + 1)).map g)), fun H3 p => ⟨xs.length - (i + 1), by omega, rfl, by omega, p⟩, ?_⟩
    rintro x H2 ⟨T, x1, rfl, hT, rfl, q1⟩
    have e1 : x1 = .int xs[i] := Option.some.inj ((q1 _ (sql_up e ha)).symm.trans g1)
    subst e1
    refine ⟨T, _, rfl, SqT.of upd_same, rfl, _, _, rfl, _, _, rfl, rfl, hw _ _, ?_⟩
    have eT : Ex H' (upd H' T (.tup [.int (i : Nat), .int xs[i]])) := Ex.new hT
    refine tYes_k ?_
    rw [if_pos rfl]
    refine he i xs[i] (List.getElem?_eq_getElem h1) _ (e.trans eT) _ fun H4 e4 => ⟨_, e4 _ _ (eT _ _ hd), ?_, ?_⟩
    · rw [List.length_map, List.length_range]
      exact len_lt (by omega)
    · refine ⟨fun a o ho => ?_, ?_⟩
      · rw [upd_ne (ne_of_none ho hD)]
        exact e4 _ _ (eT _ _ (e _ _ ho))
      · rw [upd_same, List.range_succ, List.map_append]
        rfl

--@ needs LowsL
--@ needs RunsV
--@ needs EnumV
theorem for_zipM {K : PySem.W.Frag} {a b : Addr} {xs ys : List V} {g : TG} {tb : TS} {D : Ends} {σ : L2.St} {H : Hp} {n : Nat} (hl : n = min xs.length ys.length) (Pv : Nat → L2.St → Hp → Prop) (h0 : Pv 0 σ H) (hq : ∀ i σ H, Pv i σ H → SqL K H a xs ∧ SqL K H b ys)
    (hs : ∀ (i : Nat) (x y : V) (T : Addr) (σ : L2.St) (H : Hp), i < n → xs[i]? = some x → ys[i]? = some y → Pv i σ H → H T = none → g (.ref T) σ (upd H T (.tup [x, y])) fun σ2 H2 => tb { D with nx := Pv (i + 1), ct := Pv (i + 1), bk := D.nx } σ2 H2) (hd : ∀ σ H, Pv n σ H → D.nx σ H) :
    ForB (Itz K a b) g tb D σ H := by
  refine ⟨fun i m σ H => m = n - i ∧ i ≤ n ∧ Pv i σ H, ⟨n, rfl, Nat.zero_le _, h0⟩, ?_⟩
  rintro i m σ H ⟨rfl, hi, p⟩
  obtain ⟨qx, qy⟩ := hq i σ H p
  by_cases hlt : i < n
  · have hx : xs[i]? = some xs[i] := List.getElem?_eq_getElem (by omega)
    have hy : ys[i]? = some ys[i] := List.getElem?_eq_getElem (by omega)
    refine .inr ⟨⟨xs, ys, _, _, qx, qy, hx, hy⟩, Pv (i + 1), fun σ' H' p' => ⟨n - (i + 1), by omega, rfl, hlt, p'⟩, fun v H' y => ?_⟩
    obtain ⟨T, x', y', rfl, hT, rfl, f1, f2⟩ := y
    exact hs i x' y' T σ H hlt (f1 xs qx) (f2 ys qy) p hT
  · have e : i = n := by omega
    subst e
    exact .inl ⟨⟨xs, ys, qx, qy, by omega⟩, hd σ H p⟩
/-- the last row of a list of rows -/
theorem RowsA.lastG {H : Hp} {vs : List V} {rs : List (List Int)} {r : List Int} (R : RowsA H vs rs) (h : rs.getLast? = some r) : ∃ t, atI vs (-1) = some (.ref t) ∧ H t = some (.tup (r.map V.int)) := by
  rw [List.getLast?_eq_getElem?, ← R.len] at h
  have hv : vs.length - 1 < vs.length := by
    have := (List.getElem?_eq_some_iff.mp h).1
    rw [← R.len] at this
    exact this
  obtain ⟨t, r', ev, er, ht⟩ := R.get (List.getElem?_eq_getElem hv)
  rw [h] at er
  cases er
  exact ⟨t, at_last ((List.getElem?_eq_getElem hv).trans (congrArg some ev)), ht⟩
/-- rows of two numbers, the last one's -/
theorem recF_row (f : Nat → Int) : ∀ n : Nat, (∀ r ∈ recF f n, ∃ k : Nat, k < n ∧ r = [(k : Int), f k]) ∧ (recF f n).length ≤ n
  | 0 => ⟨fun r h => (by cases h), Nat.le_refl _⟩
  | n + 1 => by
    obtain ⟨h, hl⟩ := recF_row f n
    unfold recF
    split
    · refine ⟨fun r hr => ?_, by rw [List.length_append]; simp; omega⟩
      rcases List.mem_append.mp hr with hr | hr
      · obtain ⟨k, hk, e⟩ := h r hr
        exact ⟨k, by omega, e⟩
      · exact ⟨n, by omega, List.mem_singleton.mp hr⟩
    · refine ⟨fun r hr => ?_, by omega⟩
      obtain ⟨k, hk, e⟩ := h r hr
      exact ⟨k, by omega, e⟩
theorem recF_last (f : Nat → Int) {n : Nat} (h : recF f n ≠ []) : ∃ k : Nat, (recF f n).getLast? = some [(k : Int), f k] ∧ lastR (recF f n) = ((k : Int), f k) := by
  have hm := List.getLast_mem h
  obtain ⟨k, _, e⟩ := (recF_row f n).1 _ hm
  have hg : (recF f n).getLast? = some [(k : Int), f k] := by rw [List.getLast?_eq_some_getLast h, e]
  refine ⟨k, hg, ?_⟩
  unfold lastR
  rw [hg]
theorem RowsA.setLast {H : Hp} {t : Addr} {r r' : List Int} (ht : H t = some (.tup (r'.map V.int))) : ∀ {us : List V} {rs : List (List Int)}, RowsA H us (rs ++ [r]) → RowsA H (us.set (us.length - 1) (.ref t)) (rs ++ [r'])
  | [_], [], _ => ⟨⟨t, rfl, ht⟩, trivial⟩
  | [], [], h => h.elim
  | _ :: _ :: _, [], h => h.2.elim
  | [], _ :: _, h => h.elim
  | [_], _ :: [], h => h.2.elim
  | [_], _ :: _ :: _, h => h.2.elim
  | u :: v :: us, _ :: rs, ⟨h, g⟩ => ⟨h, RowsA.setLast (us := v :: us) (rs := rs) ht g⟩
theorem addR_row {rs : List (List Int)} (h : ∀ r ∈ rs, ∃ a b c d e : Int, r = [a, b, c, d, e]) (p l p' l' : Int) : ∀ r ∈ addR rs p l p' l', ∃ a b c d e : Int, r = [a, b, c, d, e] := by
  intro r hr
  unfold addR at hr
  split at hr
  · rcases List.mem_append.mp hr with hr | hr
    · exact h r (List.dropLast_subset _ hr)
    · rw [List.mem_singleton.mp hr]
      exact ⟨_, _, _, _, _, rfl⟩
  · rcases List.mem_append.mp hr with hr | hr
    · exact h r hr
    · rw [List.mem_singleton.mp hr]
      exact ⟨_, _, _, _, _, rfl⟩
theorem addR_len (rs : List (List Int)) (p l p' l' : Int) : (addR rs p l p' l').length ≤ rs.length + 1 := by
  unfold addR
  split
  · rw [List.length_append, List.length_dropLast]
    show rs.length - 1 + 1 ≤ _
    omega
  · rw [List.length_append]
    simp
theorem grpN_row (ss : List (List Int)) : ∀ i, (∀ r ∈ grpN ss i, ∃ a b c d e : Int, r = [a, b, c, d, e]) ∧ (grpN ss i).length ≤ i
  | 0 => ⟨fun r h => (by cases h), Nat.le_refl _⟩
  | i + 1 => by
    obtain ⟨h, l⟩ := grpN_row ss i
    unfold grpN
    refine ⟨addR_row h _ _ _ _, ?_⟩
    have := addR_len (grpN ss i) ((ss.getD i []).getD 0 0) ((ss.getD i []).getD 1 0) ((ss.getD (i + 1) []).getD 0 0) ((ss.getD (i + 1) []).getD 1 0)
    omega
theorem grpN_up {ss : List (List Int)} {i : Nat} {x y x' y' : Int} (h : ss[i]? = some [x, y]) (h' : ss[i + 1]? = some [x', y']) : grpN ss (i + 1) = addR (grpN ss i) x y x' y' := by
  have e1 : ss.getD i [] = [x, y] := by
    rw [List.getD_eq_getElem?_getD, h]
    rfl
  have e2 : ss.getD (i + 1) [] = [x', y'] := by
    rw [List.getD_eq_getElem?_getD, h']
    rfl
  show addR (grpN ss i) ((ss.getD i []).getD 0 0) ((ss.getD i []).getD 1 0) ((ss.getD (i + 1) []).getD 0 0) ((ss.getD (i + 1) []).getD 1 0) = _
  rw [e1, e2]
  rfl
theorem ixN_last {n : Nat} (h : 0 < n) : ixN n (-1) = some (n - 1) := by
  unfold ixN
  rw [if_neg (by decide), if_pos (by omega)]
  exact congrArg some (by omega)
theorem recF_ne {f : Nat → Int} : ∀ {n : Nat}, 0 < n → recF f n ≠ []
  | 0, h => absurd h (by decide)
  | n + 1, _ => by
    unfold recF
    split
    · simp
    · rename_i h
      exact fun z => h (.inl z)
theorem min_is {f : Nat → Int} {N j : Nat} {low mn : Int} (hj : j < N) (fj : f j = low) (all : ∀ k, k < N → low ≤ f k) (hm : mn ∈ (List.range N).map f) (hall : ∀ y, y ∈ (List.range N).map f → mn ≤ y) : mn = low := by
  obtain ⟨k, hk, rfl⟩ := List.mem_map.mp hm
  have h1 := all k (List.mem_range.mp hk)
  have h2 := hall (f j) (List.mem_map.mpr ⟨j, List.mem_range.mpr hj, rfl⟩)
  omega
theorem max_is {f : Nat → Int} {N j : Nat} {high mx : Int} (hj : j < N) (fj : f j = high) (all : ∀ k, k < N → f k ≤ high) (hm : mx ∈ (List.range N).map f) (hall : ∀ y, y ∈ (List.range N).map f → y ≤ mx) : mx = high := by
  obtain ⟨k, hk, rfl⟩ := List.mem_map.mp hm
  have h1 := all k (List.mem_range.mp hk)
  have h2 := hall (f j) (List.mem_map.mpr ⟨j, List.mem_range.mpr hj, rfl⟩)
  omega
theorem r_idx {K : PySem.W.Frag} {H : Hp} {Q : VK} {p : Addr} {f : Nat → Int} {N j : Nat} {x : Int} (h : SqL K H p (((List.range N).map f).map V.int)) (hj : j < N) (fj : f j = x) (no : ∀ m, m < j → f m ≠ x) (q : Q (.int (j : Nat)) H) : rIndex K (.ref p) [.int x] H Q := by
  have at_ : ∀ m, m < N → (((List.range N).map f).map V.int)[m]? = some (.int (f m)) := fun m hm => by
    rw [List.getElem?_map, List.getElem?_map, List.getElem?_range hm]
    rfl
  refine ⟨p, _, .int x, j, .int (f j), rfl, rfl, h, rfl, all_flatI _, at_ j hj, ?_, fun m z' hm hz => ?_, q⟩
  · rw [fj]
    exact beq_self_eq_true x
  · rw [at_ m (by omega)] at hz
    cases hz
    exact beq_eq_false_iff_ne.mpr (no m hm)

--@ needs Sum
--@ needs Gcd
/-! turned stairs, sums over a period -/
/-- the heights over n places and the turned places fill the rectangle -/
theorem fs_rect {a b m : Int} (ha : 0 < a) (hm : 0 < m) (n : Nat) (n0 : 0 < n) :
    fs n a b m = (a * ((n : Int) - 1) + b) / m * n - fs ((a * ((n : Int) - 1) + b) / m - b / m).toNat m (m * (b / m + 1) + (a - 1 - b)) a := by
  obtain ⟨L, rfl⟩ : ∃ L, n = L + 1 := ⟨n - 1, by omega⟩
  have c1 : ((L + 1 : Nat) : Int) - 1 = L := by omega
  rw [c1]
  have s0 := Int.emod_nonneg b (show m ≠ 0 by omega)
  have s1 := Int.emod_lt_of_pos b hm
  have eb := Int.emod_add_mul_ediv b m
  have e1 : fs (L + 1) a b m = fs (L + 1) a (b % m) m + b / m * ((L + 1 : Nat) : Int) := by
    rw [← fs_b (L + 1) a (b % m) (b / m) hm, Int.mul_comm (b / m) m, eb]
  have e2 : (a * (L : Int) + b) / m = (a * (L : Int) + b % m) / m + b / m := by
    rw [show a * (L : Int) + b = (a * L + b % m) + m * (b / m) by omega, Int.add_mul_ediv_left _ _ (by omega : m ≠ 0)]
  rw [e1, fs_quick (b % m) (by omega) s0 s1 L, e2]
  generalize hy : (a * (L : Int) + b % m) / m = y
  generalize hf : b / m = f at *
  have y0 : 0 ≤ y := by
    rw [← hy]
    have := Int.mul_nonneg (show 0 ≤ a by omega) (show (0 : Int) ≤ L by omega)
    exact Int.ediv_nonneg (by omega) (by omega)
  rw [show y + f - f = y by omega]
  have e3 : fs y.toNat m (m * (f + 1) + (a - 1 - b)) a = fs y.toNat m (m - b % m - 1) a + y := by
    have h := fs_b y.toNat m (m - b % m - 1) 1 ha
    rw [show ((y.toNat : Nat) : Int) = y by omega] at h
    rw [show m * (f + 1) + (a - 1 - b) = m - b % m - 1 + 1 * a by grind, h]
    omega
  rw [e3, show ((L + 1 : Nat) : Int) = (L : Int) + 1 from rfl, Int.add_mul y f, Int.mul_add y, Int.mul_add f, Int.mul_comm (L : Int) y]
  omega
theorem ls_fs (n : Nat) (a b c : Int) {m : Int} (hm : 0 < m) : fs n (lsA a m) (lsA a m * c + lsB a b m) (lsM a m) = fs n a (a * c + b) m := by
  unfold fs
  refine sm_congr fun i _ => ?_
  show (lsA a m * (i : Int) + (lsA a m * c + lsB a b m)) / lsM a m = (a * (i : Int) + (a * c + b)) / m
  rw [← Int.add_assoc, ← Int.mul_add, ls_height a b _ hm, Int.mul_add, Int.add_assoc]
/-- places with no rest -/
def ind (M k : Int) : Int := if k % M = 0 then 1 else 0
theorem sm_ind {M : Int} (hM : 0 < M) : sm (fun k => ind M k) M.toNat = 1 := by
  obtain ⟨K, rfl⟩ : ∃ K : Nat, M = (K : Int) + 1 := ⟨(M - 1).toNat, by omega⟩
  rw [show ((K : Int) + 1).toNat = K + 1 by omega, sm_first, sm_congr (g := fun _ => 0) (fun i hi => ?_), sm_const]
  · unfold ind
    rw [if_pos (by simp)]
    omega
  · show ind ((K : Int) + 1) ((i + 1 : Nat) : Int) = 0
    unfold ind
    rw [if_neg]
    rw [Int.emod_eq_of_lt (by omega) (by omega)]
    omega
theorem sm_ind_g {M : Int} (hM : 0 < M) : ∀ g : Nat, sm (fun k => ind M k) (g * M.toNat) = g
  | 0 => by
    rw [Nat.zero_mul]
    rfl
  | g + 1 => by
    rw [Nat.add_mul, Nat.one_mul, sm_add, sm_ind_g hM g, sm_congr (g := fun k => ind M k) (fun i _ => ?_), sm_ind hM]
    · omega
    · show ind M ((g * M.toNat + i : Nat) : Int) = ind M i
      unfold ind
      rw [show ((g * M.toNat + i : Nat) : Int) = (i : Int) + M * g by
        rw [Int.natCast_add, Int.natCast_mul, show ((M.toNat : Nat) : Int) = M by omega, Int.mul_comm]
        omega, Int.add_mul_emod_self_left]
theorem mod_zero_iff {a m : Int} (hm : 0 < m) (k : Int) : (a * k % m = 0) ↔ (k % lsM a m = 0) := by
  have g := gcd_pos (a := a) hm
  have M0 := lsM_pos (a := a) hm
  constructor
  · intro h
    by_cases z : k % lsM a m = 0
    · exact z
    · exfalso
      have r0 := Int.emod_nonneg k (show lsM a m ≠ 0 by omega)
      have r1 := Int.emod_lt_of_pos k M0
      refine cop_no (ls_cop hm) (show 0 < k % lsM a m by omega) r1 ?_
      have e := Int.emod_add_mul_ediv k (lsM a m)
      have h2 : lsA a m * k % lsM a m = 0 := by
        have ea := lsA_mul a m
        have em := lsM_mul a m
        refine Int.emod_eq_zero_of_dvd ?_
        have d := Int.dvd_of_emod_eq_zero h
        generalize lsA a m = A at *
        generalize lsM a m = M at *
        generalize (Int.gcd a m : Int) = G at *
        subst ea em
        rw [show A * G * k = A * k * G by grind] at d
        exact Int.dvd_of_mul_dvd_mul_right (by omega) d
      rw [← e, Int.mul_add, ← Int.mul_assoc, Int.mul_comm (lsA a m) (lsM a m), Int.mul_assoc, Int.add_mul_emod_self_left] at h2
      exact h2
  · intro h
    refine Int.emod_eq_zero_of_dvd ?_
    have d := Int.dvd_of_emod_eq_zero h
    have ea := lsA_mul a m
    have em := lsM_mul a m
    generalize lsA a m = A at *
    generalize lsM a m = M at *
    generalize (Int.gcd a m : Int) = G at *
    subst ea em
    obtain ⟨c, rfl⟩ := d
    exact ⟨A * c, by grind⟩
/-- the sum over a period without a begin -/
theorem fs_period {a m : Int} (hm : 0 < m) : 2 * fs m.toNat a 0 m = (a - 1) * (m - 1) + (Int.gcd a m : Int) - 1 := by
  obtain ⟨K, rfl⟩ : ∃ K : Nat, m = (K : Int) + 1 := ⟨(m - 1).toNat, by omega⟩
  rw [show ((K : Int) + 1).toNat = K + 1 by omega]
  have e1 : fs (K + 1) a 0 ((K : Int) + 1) = sm (fun i => a * ((i + 1 : Nat) : Int) / ((K : Int) + 1)) K := by
    unfold fs
    rw [sm_first]
    show (a * ((0 : Nat) : Int) + 0) / ((K : Int) + 1) + _ = _
    rw [show a * ((0 : Nat) : Int) + 0 = 0 by simp, Int.zero_ediv, Int.zero_add]
    exact sm_congr fun i _ => by rw [Int.add_zero]
  have e2 : sm (fun i => a * ((i + 1 : Nat) : Int) / ((K : Int) + 1)) K = sm (fun i => a * ((K : Int) - i) / ((K : Int) + 1)) K := by
    rw [sm_rev]
    refine sm_congr fun i hi => ?_
    show a * ((K - 1 - i + 1 : Nat) : Int) / ((K : Int) + 1) = a * ((K : Int) - i) / ((K : Int) + 1)
    rw [show ((K - 1 - i + 1 : Nat) : Int) = (K : Int) - i by omega]
  have e3 : ∀ i : Nat, i < K → a * ((i + 1 : Nat) : Int) / ((K : Int) + 1) + a * ((K : Int) - i) / ((K : Int) + 1) = (a - 1) + ind (lsM a ((K : Int) + 1)) ((i + 1 : Nat) : Int) := by
    intro i hi
    have hm' : ((K : Int) + 1) ≠ 0 := by omega
    have c : a * ((K : Int) - i) = (((K : Int) + 1) - 1) - a * ((i + 1 : Nat) : Int) + ((K : Int) + 1) * (a - 1) + 1 := by
      rw [show ((i + 1 : Nat) : Int) = (i : Int) + 1 from rfl, Int.mul_sub, Int.mul_add a, Int.add_mul _ _ (a - 1), Int.mul_sub, Int.mul_comm (K : Int) a]
      omega
    unfold ind
    have eq := Int.emod_add_mul_ediv (a * ((i + 1 : Nat) : Int)) ((K : Int) + 1)
    have r0 := Int.emod_nonneg (a * ((i + 1 : Nat) : Int)) hm'
    have r1 := Int.emod_lt_of_pos (a * ((i + 1 : Nat) : Int)) hm
    generalize hz : a * ((i + 1 : Nat) : Int) = z at *
    by_cases hr : z % ((K : Int) + 1) = 0
    · rw [if_pos (by rw [← hz] at hr; exact (mod_zero_iff hm _).mp hr)]
      have : a * ((K : Int) - i) / ((K : Int) + 1) = a - z / ((K : Int) + 1) := by
        refine ediv_is hm ?_ ?_
        · rw [c]
          grind
        · rw [c]
          grind
      omega
    · rw [if_neg (fun h => hr (by rw [← hz]; exact (mod_zero_iff hm _).mpr h))]
      have : a * ((K : Int) - i) / ((K : Int) + 1) = a - 1 - z / ((K : Int) + 1) := by
        refine ediv_is hm ?_ ?_
        · rw [c]
          grind
        · rw [c]
          grind
      omega
  have e4 : sm (fun i => ind (lsM a ((K : Int) + 1)) ((i + 1 : Nat) : Int)) K = (Int.gcd a ((K : Int) + 1) : Int) - 1 := by
    have M0 := lsM_pos (a := a) hm
    have h := sm_ind_g M0 (Int.gcd a ((K : Int) + 1))
    have em := lsM_mul a ((K : Int) + 1)
    have en : Int.gcd a ((K : Int) + 1) * (lsM a ((K : Int) + 1)).toNat = K + 1 := by
      have : ((Int.gcd a ((K : Int) + 1) * (lsM a ((K : Int) + 1)).toNat : Nat) : Int) = (K : Int) + 1 := by
        rw [Int.natCast_mul, show (((lsM a ((K : Int) + 1)).toNat : Nat) : Int) = lsM a ((K : Int) + 1) by omega, Int.mul_comm]
        exact em
      omega
    rw [en, sm_first] at h
    have i0 : ind (lsM a ((K : Int) + 1)) ((0 : Nat) : Int) = 1 := by
      unfold ind
      rw [if_pos (by simp)]
    rw [i0] at h
    omega
  have e5 : 2 * sm (fun i => a * ((i + 1 : Nat) : Int) / ((K : Int) + 1)) K = (a - 1) * K + ((Int.gcd a ((K : Int) + 1) : Int) - 1) := by
    rw [show (2 : Int) * sm (fun i => a * ((i + 1 : Nat) : Int) / ((K : Int) + 1)) K = sm (fun i => a * ((i + 1 : Nat) : Int) / ((K : Int) + 1)) K + sm (fun i => a * ((i + 1 : Nat) : Int) / ((K : Int) + 1)) K by omega]
    rw (occs := [2]) [e2]
    rw [← sm_plus, sm_congr e3, sm_plus, sm_const, e4]
  rw [e1, e5]
  rw [show (K : Int) + 1 - 1 = K by omega]
  omega

--@ needs Turned
/-! two coins -/
theorem sm_zero {f : Nat → Int} {n : Nat} (h : ∀ i, i < n → f i = 0) : sm f n = 0 := by
  rw [sm_congr (g := fun _ => 0) h, sm_const, Int.zero_mul]
theorem sm_nonneg {f : Nat → Int} : ∀ {n : Nat}, (∀ i, i < n → 0 ≤ f i) → 0 ≤ sm f n
  | 0, _ => by show (0 : Int) ≤ 0; omega
  | n + 1, h => by
    show 0 ≤ sm f n + f n
    have := sm_nonneg (f := f) (n := n) (fun i hi => h i (by omega))
    have := h n (by omega)
    omega
theorem sm_le {f g : Nat → Int} : ∀ {n : Nat}, (∀ i, i < n → f i ≤ g i) → sm f n ≤ sm g n
  | 0, _ => by show (0 : Int) ≤ 0; omega
  | n + 1, h => by
    show sm f n + f n ≤ sm g n + g n
    have := sm_le (f := f) (g := g) (n := n) (fun i hi => h i (by omega))
    have := h n (by omega)
    omega
theorem sm_swap {f : Nat → Nat → Int} (n : Nat) : ∀ m : Nat, sm (fun i => sm (fun j => f i j) n) m = sm (fun j => sm (fun i => f i j) m) n
  | 0 => by
    show (0 : Int) = sm (fun _ => (0 : Int)) n
    rw [sm_const, Int.zero_mul]
  | m + 1 => by
    show sm (fun i => sm (fun j => f i j) n) m + sm (fun j => f m j) n = sm (fun j => sm (fun i => f i j) m + f m j) n
    rw [sm_plus, sm_swap n m]
/-- 1 where m divides -/
def dv (m x : Int) : Int := if x % m = 0 then 1 else 0
theorem dv_nonneg (m x : Int) : 0 ≤ dv m x := by
  unfold dv
  split <;> omega
theorem dv_diff {m : Int} (hm : 0 < m) (x : Int) : x / m - (x - 1) / m = dv m x := by
  have e := Int.emod_add_mul_ediv x m
  have r0 := Int.emod_nonneg x (show m ≠ 0 by omega)
  have r1 := Int.emod_lt_of_pos x hm
  unfold dv
  by_cases h : x % m = 0
  · rw [if_pos h]
    have : (x - 1) / m = x / m - 1 := ediv_is hm (by grind) (by grind)
    omega
  · rw [if_neg h]
    have : (x - 1) / m = x / m := ediv_is hm (by grind) (by grind)
    omega
/-- at most one place of a period -/
theorem dv_le {a m : Int} (hm : 0 < m) (h : Int.gcd a m = 1) (b : Int) : ∀ n : Nat, (n : Int) ≤ m → sm (fun k => dv m (a * (k : Int) + b)) n ≤ 1
  | 0, _ => by show (0 : Int) ≤ 1; omega
  | n + 1, hn => by
    show sm (fun k => dv m (a * (k : Int) + b)) n + dv m (a * (n : Int) + b) ≤ 1
    by_cases z : (a * (n : Int) + b) % m = 0
    · rw [sm_zero (fun i hi => ?_)]
      · unfold dv
        rw [if_pos z]
        omega
      · unfold dv
        rw [if_neg]
        intro y
        have d1 := Int.dvd_of_emod_eq_zero z
        have d2 := Int.dvd_of_emod_eq_zero y
        have d3 := Int.dvd_sub d1 d2
        rw [show a * (n : Int) + b - (a * (i : Int) + b) = a * ((n : Int) - i) by grind] at d3
        exact cop_no h (show 0 < (n : Int) - i by omega) (by omega) (Int.emod_eq_zero_of_dvd d3)
    · have := dv_le hm h b n (by omega)
      have : dv m (a * (n : Int) + b) = 0 := by
        unfold dv
        rw [if_neg z]
      omega
theorem fs_dv {m : Int} (hm : 0 < m) (n : Nat) (a b : Int) : fs n a b m - fs n a (b - 1) m = sm (fun k => dv m (a * (k : Int) + b)) n := by
  have : fs n a b m = fs n a (b - 1) m + sm (fun k => dv m (a * (k : Int) + b)) n := by
    unfold fs
    rw [← sm_plus]
    refine sm_congr fun i _ => ?_
    have := dv_diff hm (a * (i : Int) + b)
    rw [show a * (i : Int) + (b - 1) = a * (i : Int) + b - 1 by omega]
    omega
  omega
theorem fs_up {a m : Int} (hm : 0 < m) (h : Int.gcd a m = 1) (b : Int) : ∀ j : Nat, fs m.toNat a (b + j) m ≤ fs m.toNat a b m + j
  | 0 => by
    rw [show b + ((0 : Nat) : Int) = b by omega]
    omega
  | j + 1 => by
    have := fs_up hm h b j
    have h1 := fs_dv hm m.toNat a (b + ((j + 1 : Nat) : Int))
    have h2 := dv_le hm h (b + ((j + 1 : Nat) : Int)) m.toNat (by omega)
    rw [show b + ((j + 1 : Nat) : Int) - 1 = b + (j : Int) by omega] at h1
    omega
/-- over a period just one place -/
theorem dv_one {a m : Int} (hm : 0 < m) (h : Int.gcd a m = 1) (b : Int) : sm (fun k => dv m (a * (k : Int) + b)) m.toNat = 1 := by
  have h1 := dv_le hm h b m.toNat (by omega)
  have h2 := fs_dv hm m.toNat a b
  have h3 := fs_up hm h b (m.toNat - 1)
  have h4 := fs_b m.toNat a (b - 1) 1 hm
  rw [show b - 1 + 1 * m = b + ((m.toNat - 1 : Nat) : Int) by omega] at h4
  rw [h4] at h3
  omega
/-- the ways up to a number -/
@[irreducible] def wy (p q c : Int) : Int := if c < 0 then 0 else fs (c / p + 1).toNat (0 - p) c q + (c / p + 1)
theorem wy_neg {p q c : Int} (h : c < 0) : wy p q c = 0 := by
  unfold wy
  rw [if_pos h]
theorem wy_pos {p q c : Int} (h : 0 ≤ c) : wy p q c = fs (c / p + 1).toNat (0 - p) c q + (c / p + 1) := by
  unfold wy
  rw [if_neg (by omega)]
theorem cnt_le (y : Int) : ∀ R : Nat, sm (fun j => if (j : Int) ≤ y then 1 else 0) R = min (R : Int) (max 0 (y + 1))
  | 0 => by
    show (0 : Int) = _
    omega
  | R + 1 => by
    show sm (fun j => if (j : Int) ≤ y then 1 else 0) R + (if (R : Int) ≤ y then 1 else 0) = _
    rw [cnt_le y R]
    split <;> omega
theorem div_le_self' {c p : Int} (hp : 0 < p) (h : 0 ≤ c) : c / p ≤ c := Int.ediv_le_self _ h
/-- the pairs -/
theorem wy_pairs {p q c : Int} (hp : 0 < p) (hq : 0 < q) (h : 0 ≤ c) : wy p q c = sm (fun i => sm (fun j => if p * (i : Int) + q * (j : Int) ≤ c then 1 else 0) (c + 1).toNat) (c + 1).toNat := by
  have d0 : 0 ≤ c / p := Int.ediv_nonneg h (by omega)
  have d1 := div_le_self' hp h
  have e := Int.emod_add_mul_ediv c p
  have r0 := Int.emod_nonneg c (show p ≠ 0 by omega)
  have r1 := Int.emod_lt_of_pos c hp
  have inner : ∀ i : Nat, sm (fun j => if p * (i : Int) + q * (j : Int) ≤ c then (1 : Int) else 0) (c + 1).toNat = max 0 ((c - p * (i : Int)) / q + 1) := by
    intro i
    rw [sm_congr (g := fun j => if (j : Int) ≤ (c - p * (i : Int)) / q then 1 else 0) (fun j _ => ?_), cnt_le]
    · have pi : 0 ≤ p * (i : Int) := Int.mul_nonneg (by omega) (by omega)
      have : (c - p * (i : Int)) / q ≤ c := by
        have h1 : (c - p * (i : Int)) / q ≤ c / q := Int.ediv_le_ediv hq (by omega)
        have := div_le_self' hq h
        omega
      omega
    · have : (p * (i : Int) + q * (j : Int) ≤ c) ↔ (j : Int) ≤ (c - p * (i : Int)) / q := by
        rw [Int.le_ediv_iff_mul_le hq, Int.mul_comm (j : Int) q]
        omega
      by_cases z : p * (i : Int) + q * (j : Int) ≤ c
      · rw [if_pos z, if_pos (this.mp z)]
      · rw [if_neg z, if_neg (fun y => z (this.mpr y))]
  rw [sm_congr (g := fun i => max 0 ((c - p * (i : Int)) / q + 1)) (fun i _ => inner i), wy_pos h]
  rw [show (c + 1).toNat = (c / p + 1).toNat + (c - c / p).toNat by omega, sm_add, sm_zero (f := fun i => max 0 ((c - p * (((c / p + 1).toNat + i : Nat) : Int)) / q + 1)) (fun i _ => ?_), sm_congr (f := fun i => max 0 ((c - p * (i : Int)) / q + 1)) (g := fun i => ((0 - p) * (i : Int) + c) / q + 1) (fun i hi => ?_), sm_plus, sm_const]
  · unfold fs
    omega
  · have : p * (i : Int) ≤ c := by
      have : p * (i : Int) ≤ p * (c / p) := Int.mul_le_mul_of_nonneg_left (by omega) (by omega)
      omega
    have : 0 ≤ (c - p * (i : Int)) / q := Int.ediv_nonneg (by omega) (by omega)
    rw [show (0 - p) * (i : Int) + c = c - p * (i : Int) by grind]
    omega
  · have k : p * (c / p + 1) ≤ p * (((c / p + 1).toNat + i : Nat) : Int) := Int.mul_le_mul_of_nonneg_left (by omega) (by omega)
    rw [Int.mul_add, Int.mul_one] at k
    have : (c - p * (((c / p + 1).toNat + i : Nat) : Int)) / q < 0 := Int.ediv_neg_of_neg_of_pos (by omega) hq
    omega
theorem wy_comm {p q c : Int} (hp : 0 < p) (hq : 0 < q) : wy p q c = wy q p c := by
  by_cases h : c < 0
  · rw [wy_neg h, wy_neg h]
  · rw [wy_pairs hp hq (by omega), wy_pairs hq hp (by omega), sm_swap]
    refine sm_congr fun i _ => sm_congr fun j _ => ?_
    rw [Int.add_comm]
/-- one number less -/
theorem wy_pred {p q c : Int} (hp : 0 < p) (hq : 0 < q) (h : 0 ≤ c) : wy p q (c - 1) = fs (c / p + 1).toNat (0 - p) (c - 1) q + (c / p + 1) := by
  have e := Int.emod_add_mul_ediv c p
  have r0 := Int.emod_nonneg c (show p ≠ 0 by omega)
  have r1 := Int.emod_lt_of_pos c hp
  have d0 : 0 ≤ c / p := Int.ediv_nonneg h (by omega)
  by_cases z : c % p = 0
  · have t : ((0 - p) * (((c / p).toNat : Nat) : Int) + (c - 1)) / q = -1 := by
      rw [show (((c / p).toNat : Nat) : Int) = c / p by omega, show (0 - p) * (c / p) + (c - 1) = -1 by grind]
      exact ediv_is hq (by omega) (by omega)
    rw [show (c / p + 1).toNat = (c / p).toNat + 1 by omega, fs_succ, t]
    by_cases c0 : c = 0
    · subst c0
      rw [wy_neg (by omega)]
      simp [fs_zero]
    · rw [wy_pos (by omega), show (c - 1) / p = c / p - 1 from ediv_is hp (by grind) (by grind)]
      rw [show (c / p - 1 + 1).toNat = (c / p).toNat by omega]
      omega
  · rw [wy_pos (by by_cases c0 : c = 0; (subst c0; simp at z); omega), show (c - 1) / p = c / p from ediv_is hp (by grind) (by grind)]
/-- the ways of a number -/
theorem wy_one {p q c : Int} (hp : 0 < p) (hq : 0 < q) (h : 0 ≤ c) : wy p q c - wy p q (c - 1) = sm (fun i => dv q ((0 - p) * (i : Int) + c)) (c / p + 1).toNat := by
  rw [wy_pred hp hq h, wy_pos h, ← fs_dv hq]
  omega
theorem gcd_neg' {p q : Int} (h : Int.gcd p q = 1) : Int.gcd (0 - p) q = 1 := by
  rw [show 0 - p = -p by omega, Int.neg_gcd]
  exact h
/-- one coin's and the other's product more -/
theorem wy_more {p q c : Int} (hp : 0 < p) (hq : 0 < q) (h : 0 ≤ c) (g : Int.gcd p q = 1) : wy p q (c + p * q) - wy p q (c + p * q - 1) = wy p q c - wy p q (c - 1) + 1 := by
  have pq : 0 ≤ p * q := Int.mul_nonneg (by omega) (by omega)
  have d0 : 0 ≤ c / p := Int.ediv_nonneg h (by omega)
  rw [wy_one hp hq (by omega), wy_one hp hq h, Int.add_mul_ediv_left _ _ (by omega : p ≠ 0)]
  rw [show (c / p + q + 1).toNat = q.toNat + (c / p + 1).toNat by omega, sm_add, dv_one hq (gcd_neg' g)]
  rw [sm_congr (g := fun i => dv q ((0 - p) * (i : Int) + c)) (fun i _ => ?_)]
  · omega
  · show dv q ((0 - p) * ((q.toNat + i : Nat) : Int) + (c + p * q)) = _
    congr 1
    rw [show ((q.toNat + i : Nat) : Int) = q + i by omega]
    grind
/-- so many times as great -/
theorem wy_times {p q c k r : Int} (hk : 0 < k) (r0 : 0 ≤ r) (r1 : r < k) : wy (p * k) (q * k) (c * k + r) = wy p q c := by
  have f : ∀ x y : Int, (x * k + r) / (y * k) = x / y := by
    intro x y
    rw [Int.mul_comm y k, ← Int.ediv_ediv_of_nonneg (by omega), show (x * k + r) / k = x from ediv_is hk (by omega) (by grind)]
  by_cases h : c < 0
  · rw [wy_neg h, wy_neg]
    have : c * k ≤ -1 * k := Int.mul_le_mul_of_nonneg_right (by omega) (by omega)
    omega
  · have : 0 ≤ c * k := Int.mul_nonneg (by omega) (by omega)
    rw [wy_pos (by omega), wy_pos (by omega), f]
    congr 1
    unfold fs
    refine sm_congr fun i _ => ?_
    rw [show (0 - p * k) * (i : Int) + (c * k + r) = ((0 - p) * (i : Int) + c) * k + r by grind, f]
theorem wy_times0 {p q c k : Int} (hk : 0 < k) : wy (p * k) (q * k) (c * k) = wy p q c := by
  have := wy_times (p := p) (q := q) (c := c) hk (r := 0) (by omega) hk
  rw [Int.add_zero] at this
  exact this
theorem wy_times1 {p q c k : Int} (hk : 1 < k) : wy (p * k) (q * k) (c * k + 1) = wy p q c := wy_times (by omega) (by omega) hk
theorem wy_timesP {p q c k : Int} (hk : 0 < k) : wy (p * k) (q * k) (c * k - 1) = wy p q (c - 1) := by
  have := wy_times (p := p) (q := q) (c := c - 1) hk (r := k - 1) (by omega) (by omega)
  rw [show (c - 1) * k + (k - 1) = c * k - 1 by grind] at this
  exact this
/-- the last unpaid -/
theorem wy_last {p q : Int} (hp : 2 ≤ p) (hq : 2 ≤ q) (g : Int.gcd p q = 1) : wy p q (p * q - p - q) - wy p q (p * q - p - q - 1) = 0 := by
  have c0 : 0 ≤ p * q - p - q := by
    have := Int.mul_nonneg (show 0 ≤ p - 2 by omega) (show 0 ≤ q - 2 by omega)
    grind
  rw [wy_one (by omega) (by omega) c0]
  refine sm_zero fun i hi => ?_
  have h1 : (i : Int) ≤ (p * q - p - q) / p := by omega
  have h2 := (Int.le_ediv_iff_mul_le (by omega)).mp h1
  unfold dv
  rw [if_neg]
  intro z
  have d := Int.dvd_of_emod_eq_zero z
  obtain ⟨x, hx⟩ := d
  refine cop_no g (show 0 < (i : Int) + 1 by omega) ?_ (Int.emod_eq_zero_of_dvd ⟨p - 1 - x, by grind⟩)
  have h3 : ((i : Int) + 1) * p < q * p := by grind
  exact Int.lt_of_mul_lt_mul_right h3 (by omega)
theorem wy_next {p q c : Int} (hp : 0 < p) (hq : 0 < q) (g : Int.gcd p q = 1) (h0 : 0 ≤ c) (h : p * q - p - q < c) : wy p q c - wy p q (c - 1) ≠ 0 := by
  have d0 : 0 ≤ c / p := Int.ediv_nonneg h0 (by omega)
  have o := dv_one hq (gcd_neg' g) c
  rw [wy_one hp hq h0]
  by_cases z : q ≤ c / p + 1
  · rw [show (c / p + 1).toNat = q.toNat + (c / p + 1 - q).toNat by omega, sm_add, o]
    have := sm_nonneg (f := fun i => dv q ((0 - p) * ((q.toNat + i : Nat) : Int) + c)) (n := (c / p + 1 - q).toNat) (fun i _ => dv_nonneg _ _)
    omega
  · rw [show q.toNat = (c / p + 1).toNat + (q - (c / p + 1)).toNat by omega, sm_add, sm_zero (f := fun i => dv q ((0 - p) * (((c / p + 1).toNat + i : Nat) : Int) + c)) (fun i hi => ?_)] at o
    · omega
    · unfold dv
      rw [if_neg]
      intro y
      generalize hw : (((c / p + 1).toNat + i : Nat) : Int) = w at *
      have w0 : c / p < w := by omega
      have w1 : w ≤ q - 1 := by omega
      have a1 := (Int.ediv_lt_iff_lt_mul hp).mp w0
      have a2 : w * p ≤ (q - 1) * p := Int.mul_le_mul_of_nonneg_right w1 (by omega)
      obtain ⟨x, hx⟩ := Int.dvd_of_emod_eq_zero y
      have b1 : q * x < q * 0 := by grind
      have b2 : q * (-1) < q * x := by grind
      have := Int.lt_of_mul_lt_mul_left b1 (by omega)
      have := Int.lt_of_mul_lt_mul_left b2 (by omega)
      omega
/-- how many are unpaid -/
theorem mu_even {p q : Int} (hp : 0 < p) (hq : 0 < q) (g : Int.gcd p q = 1) : 2 * ((p - 1) * (q - 1) / 2) = (p - 1) * (q - 1) := by
  have h := fs_period (a := p) hq
  rw [g] at h
  generalize (p - 1) * (q - 1) = z at *
  omega
theorem wy_all {p q : Int} (hp : 0 < p) (hq : 0 < q) (g : Int.gcd p q = 1) : wy p q (p * q - 1) = p * q - (p - 1) * (q - 1) / 2 := by
  have h := fs_period (a := p) hq
  have hm := mu_even hp hq g
  rw [g] at h
  have pq : 0 < p * q := Int.mul_pos hp hq
  have d : (p * q - 1) / p = q - 1 := ediv_is hp (by grind) (by grind)
  rw [wy_pos (by omega), d, show (q - 1 + 1).toNat = q.toNat by omega]
  have e : fs q.toNat (0 - p) (p * q - 1) q = (p - 1) * q - fs q.toNat p 0 q := by
    have : fs q.toNat (0 - p) (p * q - 1) q + fs q.toNat p 0 q = (p - 1) * q := by
      unfold fs
      rw [← sm_plus, sm_congr (g := fun _ => p - 1) (fun i _ => ?_), sm_const, show ((q.toNat : Nat) : Int) = q by omega]
      have e := Int.emod_add_mul_ediv (p * (i : Int)) q
      have r0 := Int.emod_nonneg (p * (i : Int)) (show q ≠ 0 by omega)
      have r1 := Int.emod_lt_of_pos (p * (i : Int)) hq
      rw [Int.add_zero, show ((0 - p) * (i : Int) + (p * q - 1)) / q = p - 1 - p * (i : Int) / q from ediv_is hq (by grind) (by grind)]
      omega
    omega
  rw [e]
  have : (p - 1) * q = p * q - q := by grind
  generalize (p - 1) * (q - 1) = z at *
  omega

--@ needs Coins
/-! two coins, counted pair by pair -/
def pk (p q : Int) (i j : Nat) (c : Nat) : Int := if p * (i : Int) + q * (j : Int) = (c : Int) then 1 else 0
/-- behind i whole rows, and j of the next -/
def cf (p q : Int) (Y i j : Nat) (c : Nat) : Int := sm (fun x => sm (fun y => pk p q x y c) Y) i + sm (fun y => pk p q i y c) j
theorem cf_0 (p q : Int) (Y c : Nat) : cf p q Y 0 0 c = 0 := rfl
theorem cf_j (p q : Int) (Y i j c : Nat) : cf p q Y i (j + 1) c = cf p q Y i j c + pk p q i j c := by
  unfold cf
  show _ + (_ + _) = _
  rw [Int.add_assoc]
theorem cf_i (p q : Int) (Y i c : Nat) : cf p q Y i Y c = cf p q Y (i + 1) 0 c := by
  unfold cf
  show _ = (_ + _) + 0
  rw [Int.add_zero]
theorem sm_pad {f : Nat → Int} {n m : Nat} (h : n ≤ m) (z : ∀ i, n ≤ i → f i = 0) : sm f m = sm f n := by
  obtain ⟨k, rfl⟩ := Nat.exists_eq_add_of_le h
  rw [sm_add, sm_zero (f := fun i => f (n + i)) (fun i _ => z _ (by omega)), Int.add_zero]
theorem wy_wide {p q c : Int} (hp : 0 < p) (hq : 0 < q) {N : Nat} (c0 : -1 ≤ c) (h : c < N) : wy p q c = sm (fun i => sm (fun j => if p * (i : Int) + q * (j : Int) ≤ c then 1 else 0) N) N := by
  have k1 : ∀ i : Nat, (i : Int) ≤ p * (i : Int) := fun i => by
    have := Int.mul_le_mul_of_nonneg_right (show 1 ≤ p by omega) (show 0 ≤ (i : Int) by omega)
    omega
  have k2 : ∀ i : Nat, (i : Int) ≤ q * (i : Int) := fun i => by
    have := Int.mul_le_mul_of_nonneg_right (show 1 ≤ q by omega) (show 0 ≤ (i : Int) by omega)
    omega
  by_cases hc : c < 0
  · rw [wy_neg hc]
    symm
    refine sm_zero fun i _ => sm_zero fun j _ => ?_
    have := k1 i
    have := k2 j
    rw [if_neg (by omega)]
  · rw [wy_pairs hp hq (by omega), sm_pad (n := (c + 1).toNat) (m := N) (by omega) (fun i hi => ?_)]
    · refine sm_congr fun i _ => ?_
      rw [sm_pad (n := (c + 1).toNat) (m := N) (by omega) (fun j hj => ?_)]
      have := k1 i
      have := k2 j
      rw [if_neg (by omega)]
    · refine sm_zero fun j _ => ?_
      have := k1 i
      have := k2 j
      rw [if_neg (by omega)]
/-- the pairs of one number -/
theorem cf_wy {p q : Int} (hp : 0 < p) (hq : 0 < q) {far : Int} {c : Nat} (h : (c : Int) < far) : cf p q (far / q + 1).toNat (far / p + 1).toNat 0 c = wy p q c - wy p q ((c : Int) - 1) := by
  have d1 : 0 ≤ far / p := Int.ediv_nonneg (by omega) (by omega)
  have d2 : 0 ≤ far / q := Int.ediv_nonneg (by omega) (by omega)
  have l1 : far / p ≤ far := Int.ediv_le_self _ (by omega)
  have l2 : far / q ≤ far := Int.ediv_le_self _ (by omega)
  have k1 : ∀ i : Nat, (i : Int) ≤ p * (i : Int) := fun i => by
    have := Int.mul_le_mul_of_nonneg_right (show 1 ≤ p by omega) (show 0 ≤ (i : Int) by omega)
    omega
  have k2 : ∀ i : Nat, (i : Int) ≤ q * (i : Int) := fun i => by
    have := Int.mul_le_mul_of_nonneg_right (show 1 ≤ q by omega) (show 0 ≤ (i : Int) by omega)
    omega
  have big1 : ∀ i : Nat, (far / p + 1).toNat ≤ i → far < p * (i : Int) := fun i hi => by
    have : far / p < (i : Int) := by omega
    have := (Int.ediv_lt_iff_lt_mul hp).mp this
    rw [Int.mul_comm] at this
    exact this
  have big2 : ∀ i : Nat, (far / q + 1).toNat ≤ i → far < q * (i : Int) := fun i hi => by
    have : far / q < (i : Int) := by omega
    have := (Int.ediv_lt_iff_lt_mul hq).mp this
    rw [Int.mul_comm] at this
    exact this
  have e : wy p q c = wy p q ((c : Int) - 1) + cf p q (far / q + 1).toNat (far / p + 1).toNat 0 c := by
    rw [wy_wide hp hq (N := far.toNat + 1) (c := (c : Int)) (by omega) (by omega), wy_wide hp hq (N := far.toNat + 1) (c := (c : Int) - 1) (by omega) (by omega)]
    unfold cf
    show _ = _ + (_ + 0)
    rw [Int.add_zero, ← sm_pad (f := fun x => sm (fun y => pk p q x y c) (far / q + 1).toNat) (n := (far / p + 1).toNat) (m := far.toNat + 1) (by omega) (fun i hi => ?_), ← sm_plus]
    · refine sm_congr fun i _ => ?_
      rw [← sm_pad (f := fun y => pk p q i y c) (n := (far / q + 1).toNat) (m := far.toNat + 1) (by omega) (fun j hj => ?_), ← sm_plus]
      · refine sm_congr fun j _ => ?_
        unfold pk
        generalize p * (i : Int) + q * (j : Int) = z
        by_cases h1 : z ≤ c - 1
        · rw [if_pos (by omega), if_pos (by omega), if_neg (by omega)]
          rfl
        · rw [if_neg h1]
          by_cases h2 : z = c
          · rw [if_pos (by omega), if_pos h2]
            rfl
          · rw [if_neg (by omega), if_neg h2]
            rfl
      · have := big2 j hj
        have := k1 i
        unfold pk
        rw [if_neg (by omega)]
    · refine sm_zero fun j _ => ?_
      have := big1 i hi
      have := k2 j
      unfold pk
      rw [if_neg (by omega)]
  omega
theorem wy_tele (p q : Int) : ∀ n : Nat, sm (fun c => wy p q (c : Int) - wy p q ((c : Int) - 1)) n = wy p q ((n : Int) - 1)
  | 0 => by
    show (0 : Int) = _
    rw [wy_neg (by omega)]
  | n + 1 => by
    show sm _ n + (wy p q (n : Int) - wy p q ((n : Int) - 1)) = _
    rw [wy_tele p q n, show ((n + 1 : Nat) : Int) - 1 = (n : Int) by omega]
    omega
/-- a list of a word on places, one place more -/
theorem set_map {α : Type} {F k : Nat} {g g' : Nat → α} (h : ∀ c, c < F → c ≠ k → g' c = g c) : ((List.range F).map g).set k (g' k) = (List.range F).map g' := by
  refine List.ext_getElem? fun i => ?_
  rw [List.getElem?_set]
  by_cases hi : k = i
  · subst hi
    rw [if_pos rfl, List.length_map, List.length_range]
    by_cases hk : k < F
    · rw [if_pos hk, List.getElem?_map, List.getElem?_range hk]
      rfl
    · rw [if_neg hk, List.getElem?_map, List.getElem?_eq_none (by rw [List.length_range]; omega)]
      rfl
  · rw [if_neg hi, List.getElem?_map, List.getElem?_map]
    by_cases hk : i < F
    · rw [List.getElem?_range hk]
      show some _ = some _
      rw [h i hk (by omega)]
    · rw [List.getElem?_eq_none (by rw [List.length_range]; omega)]
      rfl
theorem map_same {α : Type} {F : Nat} {g g' : Nat → α} (h : ∀ c, c < F → g' c = g c) : (List.range F).map g = (List.range F).map g' := by
  refine List.map_congr_left fun c hc => (h c (List.mem_range.mp hc)).symm
theorem sum_range (g : Nat → Int) : ∀ n : Nat, ((List.range n).map g).sum = sm g n
  | 0 => rfl
  | n + 1 => by
    rw [List.range_succ, List.map_append, List.sum_append, sum_range g n]
    show _ + (g n + 0) = sm g n + g n
    rw [Int.add_zero]
theorem len_filter_sm (P : Nat → Bool) : ∀ n : Nat, (((List.range n).filter P).length : Int) = sm (fun i => if P i then 1 else 0) n
  | 0 => rfl
  | n + 1 => by
    rw [List.range_succ, List.filter_append, List.length_append]
    show _ = sm _ n + (if P n then 1 else 0)
    rw [← len_filter_sm P n, List.filter_cons]
    by_cases h : P n = true
    · rw [if_pos h, if_pos h]
      simp
    · rw [if_neg h, if_neg h]
      simp
theorem wy_le1 {p q c : Int} (hp : 0 < p) (hq : 0 < q) (g : Int.gcd p q = 1) (h0 : 0 ≤ c) (h : c < p * q) : 0 ≤ wy p q c - wy p q (c - 1) ∧ wy p q c - wy p q (c - 1) ≤ 1 := by
  rw [wy_one hp hq h0]
  have d0 : 0 ≤ c / p := Int.ediv_nonneg h0 (by omega)
  have : c / p < q := (Int.ediv_lt_iff_lt_mul hp).mpr (by rw [Int.mul_comm]; exact h)
  exact ⟨sm_nonneg fun i _ => dv_nonneg _ _, dv_le hq (gcd_neg' g) c _ (by omega)⟩
/-- the numbers that can't be paid -/
def lk (p q : Int) (far : Int) : List Nat := (List.range far.toNat).filter fun c => decide (wy p q (c : Int) - wy p q ((c : Int) - 1) = 0)
theorem lk_mem {p q far : Int} (hp : 0 < p) (hq : 0 < q) (g : Int.gcd p q = 1) {c : Nat} (h : c ∈ lk p q far) : (c : Int) ≤ p * q - p - q := by
  unfold lk at h
  have h := (List.mem_filter.mp h).2
  have h := of_decide_eq_true h
  by_cases z : (c : Int) ≤ p * q - p - q
  · exact z
  · exact absurd h (wy_next hp hq g (by omega) (by omega))
theorem lk_last {p q far : Int} (hp : 2 ≤ p) (hq : 2 ≤ q) (g : Int.gcd p q = 1) (hf : p * q ≤ far) : 0 ≤ p * q - p - q ∧ (p * q - p - q).toNat ∈ lk p q far := by
  have c0 : 0 ≤ p * q - p - q := by
    have := Int.mul_nonneg (show 0 ≤ p - 2 by omega) (show 0 ≤ q - 2 by omega)
    grind
  refine ⟨c0, List.mem_filter.mpr ⟨List.mem_range.mpr (by omega), decide_eq_true ?_⟩⟩
  rw [show (((p * q - p - q).toNat : Nat) : Int) = p * q - p - q by omega]
  exact wy_last hp hq g
theorem lk_nil {p q far : Int} (hp : 0 < p) (hq : 0 < q) (g : Int.gcd p q = 1) (o : p = 1 ∨ q = 1) : lk p q far = [] := by
  refine List.eq_nil_iff_forall_not_mem.mpr fun c hc => ?_
  have := lk_mem hp hq g hc
  rcases o with rfl | rfl <;> omega
theorem lk_len {p q far : Int} (hp : 0 < p) (hq : 0 < q) (g : Int.gcd p q = 1) (hf : p * q ≤ far) : ((lk p q far).length : Int) = (p - 1) * (q - 1) / 2 := by
  unfold lk
  have pq : 0 < p * q := Int.mul_pos hp hq
  rw [len_filter_sm, sm_pad (n := (p * q).toNat) (by omega) (fun i hi => ?_), sm_congr (g := fun c => 1 + (-1) * (wy p q (c : Int) - wy p q ((c : Int) - 1))) (fun c hc => ?_), sm_plus, sm_mul, sm_const, wy_tele]
  · rw [show (((p * q).toNat : Nat) : Int) = p * q by omega, wy_all hp hq g]
    omega
  · have h := wy_le1 hp hq g (c := (c : Int)) (by omega) (by omega)
    generalize wy p q (c : Int) - wy p q ((c : Int) - 1) = z at *
    obtain rfl | rfl : z = 0 ∨ z = 1 := by omega
    · rfl
    · rfl
  · rw [decide_eq_false (wy_next hp hq g (by omega) (by omega))]
    rfl
theorem rep_0 {α : Type} (x : α) (F : Nat) : (List.replicate F [x]).flatten = (List.range F).map fun _ => x := by
  induction F with
  | zero => rfl
  | succ n ih => rw [List.replicate_succ', List.flatten_append, ih, List.range_succ, List.map_append]; rfl
theorem take_range {α : Type} (g : Nat → α) {n F : Nat} (h : n ≤ F) : ((List.range F).map g).take n = (List.range n).map g := by
  rw [← List.map_take, List.take_range, Nat.min_eq_left h]

--@ needs Pay
theorem ixN_of {n k : Nat} {i : Int} (e : i = k) (h : k < n) : ixN n i = some k := by
  subst e
  unfold ixN
  rw [if_pos (by omega), if_pos (by omega), Int.toNat_natCast]
theorem at_map {F k : Nat} {i : Int} {g : Nat → V} (h : k < F) (e : i = k) : atI ((List.range F).map g) i = some (g k) := by
  unfold atI
  rw [List.length_map, List.length_range, ixN_of e h]
  show ((List.range F).map g)[k]? = _
  rw [List.getElem?_map, List.getElem?_range h]
  rfl
theorem cut_to (xs : List V) {i : Int} (h0 : 0 ≤ i) (h : i ≤ xs.length) : cutV xs none (some i) = xs.take i.toNat := by
  unfold cutV
  have e1 : HT.sIx xs.length 0 none = 0 := rfl
  have e2 : HT.sIx xs.length xs.length (some i) = i.toNat := by
    show (if i < 0 then (i + (xs.length : Int)).toNat else min i.toNat xs.length) = _
    rw [if_neg (by omega)]
    omega
  rw [e1, e2]
  rfl
theorem get_ints {cs : List Int} {i : Nat} {x : V} (h : (cs.map V.int)[i]? = some x) : ∃ c ∈ cs, x = .int c := by
  rw [List.getElem?_map] at h
  cases e : cs[i]? with
  | none => rw [e] at h; cases h
  | some c =>
    rw [e] at h
    exact ⟨c, List.mem_of_getElem? e, (Option.some.inj h).symm⟩
theorem eqv_none : PyData.eqv .none .none = true := rfl
theorem eqv_int (i : Int) : PyData.eqv (.int i) (.int i) = true := by
  show (i == i) = true
  exact beq_self_eq_true i
theorem eqv_two {d e : PyData} (hd : PyData.eqv d d = true) (he : PyData.eqv e e = true) : PyData.eqv (.tuple [d, e]) (.tuple [d, e]) = true := by
  show (PyData.eqv d d && (PyData.eqv e e && true)) = true
  rw [hd, he]
  rfl
theorem r_neX2 {K : PySem.W.Frag} {H : Hp} {Q : VK} {p q : Addr} {x y : V} (hx : x = .non ∨ ∃ i, x = .int i) (hy : y = .non ∨ ∃ i, y = .int i) (h : H p = some (.tup [x, y])) (h' : H q = some (.tup [x, y])) (k : Q (.bl false) H) : rNeD K (.ref p) (.ref q) H Q := by
  rcases hx with rfl | ⟨i, rfl⟩ <;> rcases hy with rfl | ⟨j, rfl⟩
  · exact r_neD (.tup (SqT.of h) (.cons .non (.cons .non .nil))) (.tup (SqT.of h') (.cons .non (.cons .non .nil))) rfl rfl (by rw [eqv_two eqv_none eqv_none]; exact k)
  · exact r_neD (.tup (SqT.of h) (.cons .non (.cons (.int j) .nil))) (.tup (SqT.of h') (.cons .non (.cons (.int j) .nil))) rfl rfl (by rw [eqv_two eqv_none (eqv_int j)]; exact k)
  · exact r_neD (.tup (SqT.of h) (.cons (.int i) (.cons .non .nil))) (.tup (SqT.of h') (.cons (.int i) (.cons .non .nil))) rfl rfl (by rw [eqv_two (eqv_int i) eqv_none]; exact k)
  · exact r_neD (.tup (SqT.of h) (.cons (.int i) (.cons (.int j) .nil))) (.tup (SqT.of h') (.cons (.int i) (.cons (.int j) .nil))) rfl rfl (by rw [eqv_two (eqv_int i) (eqv_int j)]; exact k)
theorem eqv_str (z : Str) : PyData.eqv (.str z) (.str z) = true := by
  show (z == z) = true
  exact beq_self_eq_true z
theorem r_neS4 {K : PySem.W.Frag} {H : Hp} {Q : VK} {p q : Addr} {z : Str} (h : H p = some (.lst [.str z, .str z, .str z, .str z])) (h' : H q = some (.lst [.str z, .str z, .str z, .str z])) (hs : SeqAt.shaped (.list [.str z, .str z, .str z, .str z]) = true) (k : Q (.bl false) H) : rNeD K (.ref p) (.ref q) H Q := by
  have e : PyData.eqv (.list [.str z, .str z, .str z, .str z]) (.list [.str z, .str z, .str z, .str z]) = true := by
    show (PyData.eqv (.str z) (.str z) && (PyData.eqv (.str z) (.str z) && (PyData.eqv (.str z) (.str z) && (PyData.eqv (.str z) (.str z) && true)))) = true
    rw [eqv_str]
    rfl
  exact r_neD (.lst (SqL.of h) (.cons (.str z) (.cons (.str z) (.cons (.str z) (.cons (.str z) .nil))))) (.lst (SqL.of h') (.cons (.str z) (.cons (.str z) (.cons (.str z) (.cons (.str z) .nil))))) hs hs (by rw [e]; exact k)
theorem lk_max {p q far mx : Int} (hp : 2 ≤ p) (hq : 2 ≤ q) (g : Int.gcd p q = 1) (hf : p * q ≤ far) (hm : mx ∈ ((lk p q far).map fun (i : Nat) => (i : Int)) ++ [-1]) (hall : ∀ y, y ∈ ((lk p q far).map fun (i : Nat) => (i : Int)) ++ [-1] → y ≤ mx) : mx = p * q - p - q := by
  obtain ⟨c0, hl⟩ := lk_last hp hq g hf
  have h1 := hall (p * q - p - q) (List.mem_append.mpr (.inl (List.mem_map.mpr ⟨_, hl, by omega⟩)))
  rcases List.mem_append.mp hm with h | h
  · obtain ⟨c, hc, rfl⟩ := List.mem_map.mp h
    have := lk_mem (by omega) (by omega) g hc
    omega
  · have := List.mem_singleton.mp h
    omega

--@ needs ReadV Bal LowsV PayV
/-! texts of steps -/
theorem lit_lh : lit "lh" = [108, 104] := by decide +kernel
theorem L_lh : Str.ofString "lh" = SX.S [108, 104] := (lit_S _).trans (congrArg SX.S lit_lh)
theorem L_h : Str.ofString "h" = SX.S [104] := (lit_S _).trans (congrArg SX.S (by decide +kernel))
theorem L_l : Str.ofString "l" = SX.S [108] := (lit_S _).trans (congrArg SX.S (by decide +kernel))
def rCountS : V → List V → Hp → VK → Prop := fun x xs H Q => ∃ a b, x = .str a ∧ xs = [.str b] ∧ Q (.int (Txt.count a b)) H
theorem mt_countR {X : Cx} : MtR X "str.count" rCountS := mt_count
theorem cnt_count (c : Nat) : ∀ l : List Nat, PyProof.Rows.cnt c l = (l.count c : Int)
  | [] => rfl
  | x :: l => by
    rw [PyProof.Rows.cnt_cons, cnt_count c l, List.count_cons]
    by_cases h : x = c
    · rw [if_pos h, if_pos (by rw [h]; exact beq_self_eq_true c)]
      omega
    · rw [if_neg h, if_neg (by rw [beq_iff_eq]; exact h)]
      omega
theorem count_S {l : List Nat} {c : Nat} : Txt.count (SX.S l) (SX.S [c]) = (l.count c : Int) := by
  have := PyProof.Rows.count_cnt (SX.S l) c
  rw [cnt_count] at this
  exact this
theorem r_countS {H : Hp} {Q : VK} {x y : Str} {l : List Nat} {c : Nat} (hx : x = SX.S l) (hy : y = SX.S [c]) (q : Q (.int (l.count c : Int)) H) : rCountS (.str x) [.str y] H Q := by
  subst hx hy
  exact ⟨_, _, rfl, rfl, by rw [count_S]; exact q⟩
theorem for_strL {l : List Nat} {g : TG} {s1 : TS} {D : Ends} {σ : L2.St} {H : Hp} (Pv : Nat → L2.St → Hp → Prop) (h0 : Pv 0 σ H)
    (hs : ∀ i c σ H, l[i]? = some c → Pv i σ H → g (.str (SX.S [c])) σ H fun σ2 H2 => s1 { D with nx := Pv (i + 1), ct := Pv (i + 1), bk := D.nx } σ2 H2) (hd : ∀ σ H, Pv l.length σ H → D.nx σ H) : ForB (Its (SX.S l)) g s1 D σ H := by
  have sz : (SX.S l).cps.size = l.length := by simp [SX.S]
  refine for_it walk_str Pv h0 (fun _ _ _ _ _ => trivial) (fun i x σ H H' hi pv y => ?_) (fun σ H p => hd σ H (by rw [← sz]; exact p))
  obtain ⟨rfl, c, hc, rfl⟩ := y
  refine hs i c σ H' ?_ pv
  have : (l.toArray)[i]? = some c := hc
  simpa using this
/-- how many high steps among the first k -/
def hS (l : List Nat) (k : Nat) : Int := ((l.take k).count 104 : Nat)
theorem hS_0 (l : List Nat) : hS l 0 = 0 := rfl
theorem hS_step {l : List Nat} {k c : Nat} (h : l[k]? = some c) : hS l (k + 1) = hS l k + (if c = 104 then 1 else 0) := by
  unfold hS
  rw [List.take_add_one, h, List.count_append]
  show ((List.count 104 (l.take k) + List.count 104 [c] : Nat) : Int) = _
  by_cases e : c = 104
  · subst e
    rw [if_pos rfl]
    show ((List.count 104 (l.take k) + 1 : Nat) : Int) = _
    omega
  · have z : List.count 104 [c] = 0 := List.count_eq_zero.mpr fun h => e (List.mem_singleton.mp h).symm
    rw [if_neg e, z]
    omega
theorem hS_st (l : List Nat) (k : Nat) (hk : k < l.length) : hS l k ≤ hS l (k + 1) ∧ hS l (k + 1) ≤ hS l k + 1 := by
  rw [hS_step (List.getElem?_eq_getElem hk)]
  split <;> omega
theorem hS_bd (l : List Nat) (k : Nat) : 0 ≤ hS l k ∧ hS l k ≤ k := by
  unfold hS
  have := List.count_le_length (a := 104) (l := l.take k)
  rw [List.length_take] at this
  omega
/-- a piece's high steps -/
theorem hS_piece (l : List Nat) (i p : Nat) : (((l.take (i + p)).drop i).count 104 : Int) = hS l (i + p) - hS l i := by
  unfold hS
  have e : l.take (i + p) = l.take i ++ (l.take (i + p)).drop i := by
    conv => lhs; rw [← List.take_append_drop i (l.take (i + p))]
    rw [List.take_take, Nat.min_eq_left (by omega)]
  have h := congrArg (List.count 104) e
  rw [List.count_append] at h
  omega
theorem first_idx {f : Nat → Int} {N : Nat} {x : Int} (h : ∃ j, j < N ∧ f j = x) : ∃ j, j < N ∧ f j = x ∧ ∀ m, m < j → f m ≠ x := by
  obtain ⟨j, hj, e⟩ := h
  induction j using Nat.strongRecOn with
  | _ j ih =>
    by_cases z : ∃ m, m < j ∧ f m = x
    · obtain ⟨m, hm, em⟩ := z
      exact ih m hm (by omega) em
    · exact ⟨j, hj, e, fun m hm em => z ⟨m, hm, em⟩⟩
/-- the sums, as a list of values -/
def sumV (S : Nat → Int) (n : Nat) : List V := (List.range (n + 1)).map fun k => V.int (S k)
theorem sumV_len (S : Nat → Int) (n : Nat) : (sumV S n).length = n + 1 := by unfold sumV; rw [List.length_map, List.length_range]
theorem sumV_at {S : Nat → Int} {n k : Nat} {i : Int} (h : k ≤ n) (e : i = k) : atI (sumV S n) i = some (.int (S k)) := at_map (F := n + 1) (k := k) (g := fun k => V.int (S k)) (by omega) e
theorem cnts_map (f : Nat → Int) (N : Nat) : ((List.range N).map fun k => V.int (f k)) = ((List.range N).map f).map V.int := by rw [List.map_map]; rfl
def lhT (l : List Nat) : Prop := ∀ c ∈ l, c = 108 ∨ c = 104
def NoLh (H : Hp) (v : V) : Prop := NoTx H v ∨ ∃ l : List Nat, v = .str (SX.S l) ∧ l.length ≤ 1000000 ∧ (200 < l.length ∨ ∃ c ∈ l, ¬ (c = 108 ∨ c = 104))
structure StF (l : List Nat) (a b m : Int) : Prop where
  m0 : 1 ≤ m
  m1 : m ≤ 400
  a0 : 0 ≤ a
  am : a ≤ m
  fit : FitS (hS l) l.length a m
  hb : ∀ k : Nat, k ≤ l.length → m * hS l k - a * k ≤ b
  hx : ∃ k : Nat, k ≤ l.length ∧ b = m * hS l k - a * k
  least : ∀ a' m' : Int, 1 ≤ m' → 0 ≤ a' → a' ≤ m' → FitS (hS l) l.length a' m' → m < m' ∨ (m = m' ∧ a ≤ a')
local macro_rules | `(tactic| walk_at "str") => `(tactic| first
  | with_reducible exact L_lh | with_reducible exact L_h | with_reducible exact L_l | fail "no step")
local macro_rules | `(tactic| walk_at "go1") => `(tactic| first
  | ((with_reducible refine r_countS (l := ?l) (c := ?c) ?a ?b ?_); (case a => walk_at "str"); (case b => walk_at "str"))
  | fail "no step")

--@ needs ReadV
/-! a text spoilt -/
theorem at_mem {xs : List V} {v : Int} (h0 : 0 ≤ v) (h1 : v < xs.length) : ∃ y, atI xs v = some y ∧ y ∈ xs := by
  have hv : v.toNat < xs.length := by omega
  refine ⟨xs[v.toNat], ?_, List.getElem_mem hv⟩
  unfold atI ixN
  rw [if_pos h0, if_pos (by omega)]
  exact List.getElem?_eq_getElem hv
theorem sg_at {l : List Nat} {v : Int} (_h0 : 0 ≤ v) (h1 : v < l.length) : ∃ c, l[v.toNat]? = some c ∧ c ∈ l := by
  have hv : v.toNat < l.length := by omega
  exact ⟨_, List.getElem?_eq_getElem hv, List.getElem_mem hv⟩
def wgt : List (List Nat) → Nat
  | [] => 0
  | w :: ws => w.length + 1 + wgt ws
theorem wgt_app : ∀ xs ys : List (List Nat), wgt (xs ++ ys) = wgt xs + wgt ys
  | [], ys => (Nat.zero_add _).symm
  | x :: xs, ys => by
    show x.length + 1 + wgt (xs ++ ys) = x.length + 1 + wgt xs + wgt ys
    rw [wgt_app xs ys]
    omega
theorem wgt_mem {w : List Nat} : ∀ {ws : List (List Nat)}, w ∈ ws → w.length + 1 ≤ wgt ws
  | x :: ws, h => by
    show _ ≤ x.length + 1 + wgt ws
    rcases List.mem_cons.mp h with rfl | h
    · omega
    · have := wgt_mem h
      omega
theorem wgt_len : ∀ ws : List (List Nat), ws.length ≤ wgt ws
  | [] => Nat.le_refl _
  | w :: ws => by
    have := wgt_len ws
    show ws.length + 1 ≤ w.length + 1 + wgt ws
    omega
theorem joinL_len (c : Nat) : ∀ ws : List (List Nat), (TL.joinL [c] ws).length ≤ wgt ws
  | [] => Nat.zero_le _
  | [w] => by show w.length ≤ w.length + 1 + 0; omega
  | w :: w2 :: ws => by
    have := joinL_len c (w2 :: ws)
    show (w ++ ([c] ++ TL.joinL [c] (w2 :: ws))).length ≤ w.length + 1 + wgt (w2 :: ws)
    rw [List.length_append, List.length_append, List.length_singleton]
    omega
theorem joinL_wgt (c : Nat) : ∀ ws : List (List Nat), ws ≠ [] → (TL.joinL [c] ws).length + 1 = wgt ws
  | [], h => (h rfl).elim
  | [w], _ => rfl
  | w :: w2 :: ws, _ => by
    have := joinL_wgt c (w2 :: ws) (List.cons_ne_nil _ _)
    show (w ++ ([c] ++ TL.joinL [c] (w2 :: ws))).length + 1 = w.length + 1 + wgt (w2 :: ws)
    rw [List.length_append, List.length_append, List.length_singleton]
    omega
theorem cut_wgt (c : Nat) (l : List Nat) : wgt (cutAt c l) = l.length + 1 := by
  obtain ⟨p, ps, e⟩ := cutAt_ne c l
  have := joinL_wgt c (cutAt c l) (by rw [e]; exact List.cons_ne_nil _ _)
  rw [cutAt_join] at this
  exact this.symm
theorem joinL_ok {c : Nat} (hc : c < 128) : ∀ {ws : List (List Nat)}, (∀ w ∈ ws, okT w) → okT (TL.joinL [c] ws)
  | [], _ => fun _ h => by cases h
  | [w], h => h w (by simp)
  | w :: w2 :: ws, h => by
    show okT (w ++ ([c] ++ TL.joinL [c] (w2 :: ws)))
    refine (h w (by simp)).app (okT.app (fun x hx => by rw [List.mem_singleton.mp hx]; exact hc) (joinL_ok hc fun x hx => h x (List.mem_cons_of_mem _ hx)))
def wstrs (zs : List (List Nat)) : List V := zs.map fun z => .str (SX.S z)
theorem wstrs_len (zs : List (List Nat)) : (wstrs zs).length = zs.length := List.length_map _
theorem r_joinS {K : PySem.W.Frag} {H : Hp} {Q : VK} {y : Str} {a : List Nat} {p : Addr} {zs : List (List Nat)} (hy : y = SX.S a) (ha : a.length ≤ 1) (h : H p = some (.lst (wstrs zs))) (n : wgt zs ≤ 8000000) (q : Q (.str (SX.S (TL.joinL a zs))) H) : rJoin K (.str y) [.ref p] H Q := by
  subst hy
  refine r_join (ys := zs.map SX.S) (SqL.of (by rw [h, List.map_map]; rfl)) ?_ (by rw [SX.join_S]; exact q)
  rw [List.map_map, List.length_map, SX.S_len]
  have e : (zs.map ((·.length) ∘ SX.S)).sum + zs.length = wgt zs := by
    clear h n q
    induction zs with
    | nil => rfl
    | cons z zs ih =>
      rw [List.map_cons, List.sum_cons, List.length_cons]
      show (SX.S z).length + _ + (zs.length + 1) = z.length + 1 + wgt zs
      rw [SX.S_len]
      omega
  have : zs.length * a.length ≤ zs.length := by
    have := Nat.mul_le_mul_left zs.length ha
    omega
  omega
theorem wcut_to (zs : List (List Nat)) {i : Int} (h0 : 0 ≤ i) (h : i ≤ zs.length) : cutV (wstrs zs) none (some i) = wstrs (zs.take i.toNat) := by
  unfold cutV
  have e1 : HT.sIx (wstrs zs).length 0 none = 0 := rfl
  have e2 : HT.sIx (wstrs zs).length (wstrs zs).length (some i) = i.toNat := by
    show (if i < 0 then (i + ((wstrs zs).length : Int)).toNat else min i.toNat (wstrs zs).length) = _
    rw [if_neg (by omega), wstrs_len]
    omega
  rw [e1, e2]
  show List.take i.toNat (List.map _ zs) = List.map _ _
  rw [List.map_take]
theorem wcut_from (zs : List (List Nat)) {i : Int} (h0 : 0 ≤ i) (h : i ≤ zs.length) : cutV (wstrs zs) (some i) none = wstrs (zs.drop i.toNat) := by
  unfold cutV
  have e1 : HT.sIx (wstrs zs).length 0 (some i) = i.toNat := by
    show (if i < 0 then (i + ((wstrs zs).length : Int)).toNat else min i.toNat (wstrs zs).length) = _
    rw [if_neg (by omega), wstrs_len]
    omega
  have e2 : HT.sIx (wstrs zs).length (wstrs zs).length none = (wstrs zs).length := rfl
  rw [e1, e2]
  rw [List.take_of_length_le (by rw [List.length_drop]; omega)]
  show List.drop i.toNat (List.map _ zs) = List.map _ _
  rw [List.map_drop]
theorem wstrs_app (xs ys : List (List Nat)) : wstrs xs ++ wstrs ys = wstrs (xs ++ ys) := (List.map_append).symm
theorem wstrs_at {zs : List (List Nat)} {v : Int} (h0 : 0 ≤ v) (h1 : v < zs.length) : ∃ w, atI (wstrs zs) v = some (.str (SX.S w)) ∧ w ∈ zs ∧ zs[v.toNat]? = some w := by
  have hv : v.toNat < zs.length := by omega
  refine ⟨zs[v.toNat], ?_, List.getElem_mem hv, List.getElem?_eq_getElem hv⟩
  unfold atI ixN
  rw [if_pos h0, wstrs_len, if_pos (by omega)]
  show (List.map _ zs)[v.toNat]? = _
  rw [List.getElem?_map, List.getElem?_eq_getElem hv]
  rfl
theorem wgt_drop1 {zs : List (List Nat)} {i : Nat} (h : i < zs.length) : wgt (zs.take i) + (zs[i].length + 1) + wgt (zs.drop (i + 1)) = wgt zs := by
  have e : zs = zs.take i ++ zs[i] :: zs.drop (i + 1) := by
    conv => lhs; rw [← List.take_append_drop i zs]
    rw [List.drop_eq_getElem_cons h]
  conv => rhs; rw [e]
  rw [wgt_app]
  show _ = wgt (zs.take i) + (zs[i].length + 1 + wgt (zs.drop (i + 1)))
  omega
theorem mul_S2 {l : List Nat} : Txt.mul (SX.S l) 2 = SX.S (l ++ l) := by
  rw [mul_S (by decide)]
  show SX.S (List.replicate 2 l).flatten = _
  simp [List.replicate]
theorem r_rep2 {H : Hp} {Q : VK} {y : Str} {l : List Nat} (hy : y = SX.S l) (n : l.length ≤ 100000) (q : Q (.str (SX.S (l ++ l))) H) : rRepS (.str y) (.int 2) H Q := by
  subst hy
  exact ⟨_, _, rfl, rfl, by decide, by decide, by rw [SX.S_len]; exact n, by rw [mul_S2]; exact q⟩
theorem r_repSn {H : Hp} {Q : VK} {y : Str} {l : List Nat} {k : Int} (hy : y = SX.S l) (k0 : 0 ≤ k) (k1 : k ≤ 100) (n : l.length ≤ 100000) (q : Q (.str (SX.S (List.replicate k.toNat l).flatten)) H) : rRepS (.str y) (.int k) H Q := by
  subst hy
  exact ⟨_, _, rfl, rfl, k0, k1, by rw [SX.S_len]; exact n, by rw [mul_S k0]; exact q⟩
/-- [x for x in a list if t], t never -/
theorem lc_lst0 {K : PySem.W.Frag} {σ : L2.St} {H : Hp} {Q : VK} {te : TE} {tt : TT} {a : Addr} {xs : List V} {j : Nat} {vs : List Nat} (hx : SqL K H a xs) (hw : ∀ x, wipe ((wipe σ vs).set j (some x)) vs = wipe σ vs)
    (ht : ∀ (i : Nat) x, xs[i]? = some x → PureT tt ((wipe σ vs).set j (some x)) H false)
    (k : ∀ p H1, H p = none → Ex H H1 → H1 p = some (.lst []) → Q (.ref p) H1) : LcB (Itl K a) (gName j) tt te vs σ H Q := fun Dl hD => by
  refine lc_list (xs := xs) (fun i H' => Ex H H' ∧ H' Dl = some (.lst [])) ⟨Ex.new hD, upd_same⟩ (fun i H' _ p => sql_up p.1 hx) (fun i x H' hi p => ?_) (fun H' p => k Dl H' hD p.1 p.2)
  refine ⟨hw _, ht i x hi H' p.1 _ fun H2 e2 => ?_⟩
  rw [if_neg Bool.false_ne_true]
  exact ⟨p.1.trans e2, e2 _ _ p.2⟩
theorem eqv_told (a b m : Int) (z : Str) : PyData.eqv (.tuple [.tuple [.int a, .int b, .int m], .str z]) (.tuple [.tuple [.int a, .int b, .int m], .str z]) = true := by
  show (((a == a) && ((b == b) && ((m == m) && true))) && ((z == z) && true)) = true
  rw [beq_self_eq_true, beq_self_eq_true, beq_self_eq_true, beq_self_eq_true]
  rfl
theorem shp_told (a b m : Int) (z : Str) (h : PyData.canLay0 (.str z) = true) : SeqAt.shaped (.tuple [.tuple [.int a, .int b, .int m], .str z]) = true := by
  unfold SeqAt.shaped
  rw [Bool.and_eq_true]
  refine ⟨?_, decide_eq_true ?_⟩
  · show ((true && (true && (true && true))) && (PyData.canLay0 (.str z) && true)) = true
    rw [h]
    rfl
  · simp [PyData.depth, PyData.depthAll]
local macro_rules | `(tactic| walk_at "go1") => `(tactic| first
  | ((with_reducible refine r_rep2 (l := ?l) ?a ?n ?_); (case a => walk_at "str"); (case n => walk_at "len"))
  | ((with_reducible refine r_joinS (zs := ?z) (a := ?b) ?a ?l ?h ?n ?_); (case a => walk_at "str"); (case l => decide); (case h => walk_at "at"); (case n => walk_at "len"))
  | fail "no step")

--@ needs Bal
/-! the least bottom of a slope that fits: no more than the length and one -/
theorem bezout : ∀ (y x : Nat), 0 < y → ∃ s t : Int, s * x + t * y = (Nat.gcd x y : Nat) := by
  intro y
  induction y using Nat.strongRecOn with
  | _ y ih =>
    intro x hy
    by_cases z : x % y = 0
    · refine ⟨0, 1, ?_⟩
      have : Nat.gcd x y = y := by
        rw [Nat.gcd_comm, Nat.gcd_rec, z, Nat.gcd_zero_left]
      rw [this]
      omega
    · obtain ⟨s, t, e⟩ := ih (x % y) (Nat.mod_lt _ hy) y (by omega)
      refine ⟨t, s - t * (x / y : Nat), ?_⟩
      have g : Nat.gcd y (x % y) = Nat.gcd x y := by
        rw [Nat.gcd_comm y (x % y), ← Nat.gcd_rec, Nat.gcd_comm]
      rw [g] at e
      rw [← e]
      have d : (x : Int) = y * (x / y : Nat) + (x % y : Nat) := by
        have := Nat.div_add_mod x y
        omega
      generalize ((x / y : Nat) : Int) = u at *
      generalize ((x % y : Nat) : Int) = v at *
      rw [d]
      grind
theorem bez_one {a m : Int} (a0 : 0 ≤ a) (m2 : 2 ≤ m) (g : Int.gcd a m = 1) : ∃ p q : Int, a * q - p * m = 1 ∧ 1 ≤ q ∧ q < m := by
  obtain ⟨s, t, e⟩ := bezout m.toNat a.toNat (by omega)
  have g' : Nat.gcd a.toNat m.toNat = 1 := by
    have : Int.gcd a m = Nat.gcd a.natAbs m.natAbs := rfl
    rw [show a.toNat = a.natAbs by omega, show m.toNat = m.natAbs by omega, ← this, g]
  rw [g', Int.toNat_of_nonneg a0, Int.toNat_of_nonneg (by omega)] at e
  have q0 := Int.emod_nonneg s (show m ≠ 0 by omega)
  have q1 := Int.emod_lt_of_pos s (show 0 < m by omega)
  have ds := Int.emod_add_mul_ediv s m
  have key : a * (s % m) - (-t - a * (s / m)) * m = 1 := by
    generalize s % m = r at *
    generalize s / m = u at *
    have : r = s - m * u := by omega
    rw [this]
    have e' : s * a + t * m = 1 := e
    grind
  refine ⟨-t - a * (s / m), s % m, key, ?_, q1⟩
  rcases Int.lt_or_le 0 (s % m) with h | h
  · omega
  · have z : s % m = 0 := by omega
    rw [z, Int.mul_zero] at key
    exfalso
    generalize -t - a * (s / m) = w at key
    have k2 : w * m = -1 := by omega
    have := Int.natAbs_mul w m
    rw [k2] at this
    have h2 : m.natAbs ≤ 1 := Nat.le_of_dvd (by decide) ⟨w.natAbs, by rw [Nat.mul_comm]; exact this⟩
    omega
theorem nn_zero {x y z : Int} (h : x * y = z) (y0 : 0 < y) (z0 : 0 ≤ z) : 0 ≤ x := by
  rcases Int.lt_or_le x 0 with w | w
  · have : x * y ≤ -1 * y := Int.mul_le_mul_of_nonneg_right (by omega) (by omega)
    omega
  · exact w
/-- a multiple of q below q is nought -/
theorem mult_lt {x q z : Int} (h : x = q * z) (x0 : 0 ≤ x) (x1 : x < q) : x = 0 := by
  rcases Int.lt_trichotomy z 0 with w | w | w
  · have : q * z ≤ q * (-1) := Int.mul_le_mul_of_nonneg_left (by omega) (by omega)
    omega
  · rw [w, Int.mul_zero] at h
    exact h
  · have : q * 1 ≤ q * z := Int.mul_le_mul_of_nonneg_left (by omega) (by omega)
    omega
/-- the two neighbours of a / m -/
structure Nb (a m p q : Int) : Prop where
  e : a * q - p * m = 1
  q1 : 1 ≤ q
  qm : q < m
/-- p' * q - p * q' = 1 -/
theorem Nb.e2 {a m p q : Int} (N : Nb a m p q) : (a - p) * q - p * (m - q) = 1 := by
  have := N.e
  grind
theorem Nb.e3 {a m p q : Int} (N : Nb a m p q) : (a - p) * m - a * (m - q) = 1 := by
  have := N.e
  grind
/-- a fraction c / d below a / m, d below m, is at most p / q -/
theorem Nb.low {a m p q c d : Int} (N : Nb a m p q) (h : m * c < a * d) (dm : d < m) : q * c ≤ p * d := by
  have e := N.e
  have q1 := N.q1
  have qm := N.qm
  rcases Int.lt_or_le (p * d) (q * c) with w | w
  · exfalso
    have k : d = q * (a * d - m * c) + m * (q * c - p * d) := by
      have : d = d * (a * q - p * m) := by rw [e, Int.mul_one]
      grind
    have h1 : q * 1 ≤ q * (a * d - m * c) := Int.mul_le_mul_of_nonneg_left (by omega) (by omega)
    have h2 : m * 1 ≤ m * (q * c - p * d) := Int.mul_le_mul_of_nonneg_left (by omega) (by omega)
    omega
  · exact w
theorem Nb.high {a m p q c d : Int} (N : Nb a m p q) (h : a * d < m * c) (dm : d < m) : (a - p) * d ≤ (m - q) * c := by
  have e := N.e3
  have q1 := N.q1
  have qm := N.qm
  generalize hp' : a - p = p' at *
  generalize hq' : m - q = q' at *
  rcases Int.lt_or_le (q' * c) (p' * d) with w | w
  · exfalso
    have k : d = m * (p' * d - q' * c) + q' * (m * c - a * d) := by
      have : d = d * (p' * m - a * q') := by rw [e, Int.mul_one]
      grind
    have h1 : q' * 1 ≤ q' * (m * c - a * d) := Int.mul_le_mul_of_nonneg_left (by omega) (by omega)
    have h2 : m * 1 ≤ m * (p' * d - q' * c) := Int.mul_le_mul_of_nonneg_left (by omega) (by omega)
    omega
  · exact w
/-- a long piece of k blocks has a block of much -/
theorem block_hi {S : Nat → Int} {q : Nat} {p : Int} : ∀ (t i : Nat), 1 ≤ t → (t : Int) * p + 1 ≤ S (i + t * q) - S i → ∃ j, i ≤ j ∧ j + q ≤ i + t * q ∧ p + 1 ≤ S (j + q) - S j := by
  intro t
  induction t with
  | zero => intro i h; omega
  | succ t ih =>
    intro i _ h
    by_cases t0 : t = 0
    · subst t0
      refine ⟨i, Nat.le_refl _, by omega, ?_⟩
      rw [show i + (0 + 1) * q = i + q by omega] at h
      rw [show ((0 + 1 : Nat) : Int) * p = p by omega] at h
      exact h
    · by_cases g : p + 1 ≤ S (i + q) - S i
      · exact ⟨i, Nat.le_refl _, by rw [Nat.add_mul]; omega, g⟩
      · have e : i + (t + 1) * q = (i + q) + t * q := by rw [Nat.add_mul]; omega
        have e2 : ((t + 1 : Nat) : Int) * p = (t : Int) * p + p := by rw [Int.natCast_add, Int.add_mul]; omega
        obtain ⟨j, h1, h2, h3⟩ := ih (i + q) (by omega) (by rw [← e]; rw [e2] at h; omega)
        exact ⟨j, by omega, by omega, h3⟩
theorem block_lo {S : Nat → Int} {q : Nat} {p : Int} : ∀ (t i : Nat), 1 ≤ t → S (i + t * q) - S i ≤ (t : Int) * p - 1 → ∃ j, i ≤ j ∧ j + q ≤ i + t * q ∧ S (j + q) - S j ≤ p - 1 := by
  intro t
  induction t with
  | zero => intro i h; omega
  | succ t ih =>
    intro i _ h
    by_cases t0 : t = 0
    · subst t0
      refine ⟨i, Nat.le_refl _, by omega, ?_⟩
      rw [show i + (0 + 1) * q = i + q by omega] at h
      rw [show ((0 + 1 : Nat) : Int) * p = p by omega] at h
      exact h
    · by_cases g : S (i + q) - S i ≤ p - 1
      · exact ⟨i, Nat.le_refl _, by rw [Nat.add_mul]; omega, g⟩
      · have e : i + (t + 1) * q = (i + q) + t * q := by rw [Nat.add_mul]; omega
        have e2 : ((t + 1 : Nat) : Int) * p = (t : Int) * p + p := by rw [Int.natCast_add, Int.add_mul]; omega
        obtain ⟨j, h1, h2, h3⟩ := ih (i + q) (by omega) (by rw [← e]; rw [e2] at h; omega)
        exact ⟨j, by omega, by omega, h3⟩
theorem nofit_low {S : Nat → Int} {n : Nat} {a m p : Int} {Q : Nat} (N : Nb a m p Q) (nm : (n : Int) < m) (F : FitS S n a m) (no : ¬ FitS S n p Q) : ∃ i : Nat, i + Q ≤ n ∧ S (i + Q) - S i = p + 1 := by
  have e := N.e
  have q1 := N.q1
  have qm := N.qm
  obtain ⟨j, k, hj, hk, h⟩ : ∃ j k : Nat, j ≤ n ∧ k ≤ n ∧ p * ((j : Int) - k) ≤ (Q : Int) * (S j - S k - 1) := by
    apply Classical.byContradiction
    intro z
    apply no
    intro j k hj hk
    rcases Int.lt_or_le ((Q : Int) * (S j - S k - 1)) (p * ((j : Int) - k)) with w | w
    · exact w
    · exact (z ⟨j, k, hj, hk, w⟩).elim
  have f := F j k hj hk
  rcases Int.lt_trichotomy ((j : Int) - k) 0 with d | d | d
  · exfalso
    generalize S j - S k - 1 = c at *
    generalize (j : Int) - k = x at *
    have h1 : m * (p * x) ≤ m * (Q * c) := Int.mul_le_mul_of_nonneg_left h (by omega)
    have h2 : (Q : Int) * (m * c) < Q * (a * x) := Int.mul_lt_mul_of_pos_left f (by omega)
    have h3 : (Q : Int) * (a * x) = (p * m + 1) * x := by grind
    grind
  · exfalso
    have : j = k := by omega
    subst this
    rw [Int.sub_self, Int.sub_self, Int.mul_zero] at h
    omega
  · have lo := N.low f (by omega)
    have eq : (Q : Int) * (S j - S k - 1) = p * ((j : Int) - k) := by omega
    have dt : (j : Int) - k = Q * (a * ((j : Int) - k) - m * (S j - S k - 1)) := by
      generalize S j - S k - 1 = c at *
      generalize (j : Int) - k = x at *
      have e0 : x = x * (a * Q - p * m) := by rw [e, Int.mul_one]
      have e1 : x * (a * Q - p * m) = Q * (a * x) - m * (p * x) := by grind
      have e2 : (Q : Int) * (a * x - m * c) = Q * (a * x) - m * (Q * c) := by grind
      rw [eq] at e2
      omega
    obtain ⟨t, ht⟩ : ∃ t : Nat, a * ((j : Int) - k) - m * (S j - S k - 1) = t := ⟨(a * ((j : Int) - k) - m * (S j - S k - 1)).toNat, by omega⟩
    rw [ht] at dt
    have t1 : 1 ≤ t := by omega
    have jk : j = k + t * Q := by
      have : (j : Int) = k + ((t * Q : Nat) : Int) := by
        rw [Int.natCast_mul, Int.mul_comm (t : Int) Q]
        omega
      omega
    have ct : S j - S k - 1 = t * p := by
      rw [dt] at eq
      have : (Q : Int) * (S j - S k - 1) = Q * (t * p) := by grind
      exact Int.eq_of_mul_eq_mul_left (by omega) this
    subst jk
    obtain ⟨i, h1, h2, h3⟩ := block_hi (S := S) (q := Q) (p := p) t k t1 (by omega)
    refine ⟨i, by omega, ?_⟩
    have f2 := F (i + Q) i (by omega) (by omega)
    rw [show ((i + Q : Nat) : Int) - i = Q by omega] at f2
    have lo2 := N.low f2 qm
    have : (Q : Int) * (S (i + Q) - S i - 1) ≤ Q * p := by rw [Int.mul_comm (Q : Int) p]; exact lo2
    have := Int.le_of_mul_le_mul_left this (by omega)
    omega
theorem nofit_high {S : Nat → Int} {n : Nat} {a m p q : Int} {Q : Nat} (N : Nb a m p q) (hQ : (Q : Int) = m - q) (nm : (n : Int) < m) (F : FitS S n a m) (no : ¬ FitS S n (a - p) Q) : ∃ i : Nat, i + Q ≤ n ∧ S (i + Q) - S i = a - p - 1 := by
  have e := N.e3
  have q1 := N.q1
  have qm := N.qm
  have hi := @Nb.high a m p q
  rw [← hQ] at e
  obtain ⟨j, k, hj, hk, h⟩ : ∃ j k : Nat, j ≤ n ∧ k ≤ n ∧ (a - p) * ((j : Int) - k) ≤ (Q : Int) * (S j - S k - 1) := by
    apply Classical.byContradiction
    intro z
    apply no
    intro j k hj hk
    rcases Int.lt_or_le ((Q : Int) * (S j - S k - 1)) ((a - p) * ((j : Int) - k)) with w | w
    · exact w
    · exact (z ⟨j, k, hj, hk, w⟩).elim
  have f := F j k hj hk
  generalize hp' : a - p = p' at *
  rcases Int.lt_trichotomy ((j : Int) - k) 0 with d | d | d
  · have f' : a * ((k : Int) - j) < m * (S k - S j + 1) := by
      have e1 : m * (S j - S k - 1) = -(m * (S k - S j + 1)) := by grind
      have e2 : a * ((j : Int) - k) = -(a * ((k : Int) - j)) := by grind
      omega
    have h' : (Q : Int) * (S k - S j + 1) ≤ p' * ((k : Int) - j) := by
      have e1 : (Q : Int) * (S j - S k - 1) = -(Q * (S k - S j + 1)) := by grind
      have e2 : p' * ((j : Int) - k) = -(p' * ((k : Int) - j)) := by grind
      omega
    have lo := hi N f' (by omega)
    rw [← hQ] at lo
    have eq : (Q : Int) * (S k - S j + 1) = p' * ((k : Int) - j) := by omega
    have dt : (k : Int) - j = Q * (m * (S k - S j + 1) - a * ((k : Int) - j)) := by
      generalize S k - S j + 1 = c at *
      generalize (k : Int) - j = x at *
      have e0 : x = x * (p' * m - a * Q) := by rw [e, Int.mul_one]
      have e1 : x * (p' * m - a * Q) = m * (p' * x) - Q * (a * x) := by grind
      have e2 : (Q : Int) * (m * c - a * x) = m * (Q * c) - Q * (a * x) := by grind
      rw [eq] at e2
      omega
    obtain ⟨t, ht⟩ : ∃ t : Nat, m * (S k - S j + 1) - a * ((k : Int) - j) = t := ⟨(m * (S k - S j + 1) - a * ((k : Int) - j)).toNat, by omega⟩
    rw [ht] at dt
    have t1 : 1 ≤ t := by omega
    have jk : k = j + t * Q := by
      have : (k : Int) = j + ((t * Q : Nat) : Int) := by
        rw [Int.natCast_mul, Int.mul_comm (t : Int) Q]
        omega
      omega
    have ct : S k - S j + 1 = t * p' := by
      rw [dt] at eq
      have : (Q : Int) * (S k - S j + 1) = Q * (t * p') := by grind
      exact Int.eq_of_mul_eq_mul_left (by omega) this
    subst jk
    obtain ⟨i, h1, h2, h3⟩ := block_lo (S := S) (q := Q) (p := p') t j t1 (by omega)
    refine ⟨i, by omega, ?_⟩
    have f2 := F i (i + Q) (by omega) (by omega)
    have f3 : a * (Q : Int) < m * (S (i + Q) - S i + 1) := by
      rw [show (i : Int) - ((i + Q : Nat) : Int) = -(Q : Int) by omega] at f2
      have e1 : m * (S i - S (i + Q) - 1) = -(m * (S (i + Q) - S i + 1)) := by grind
      have e2 : a * -(Q : Int) = -(a * Q) := Int.mul_neg ..
      omega
    have lo2 := hi N f3 (by omega)
    rw [← hQ] at lo2
    have : (Q : Int) * p' ≤ Q * (S (i + Q) - S i + 1) := by rw [Int.mul_comm (Q : Int) p']; exact lo2
    have := Int.le_of_mul_le_mul_left this (by omega)
    omega
  · exfalso
    have : j = k := by omega
    subst this
    rw [Int.sub_self, Int.sub_self, Int.mul_zero] at h
    omega
  · exfalso
    generalize S j - S k - 1 = c at *
    generalize (j : Int) - k = x at *
    have h1 : m * (p' * x) ≤ m * (Q * c) := Int.mul_le_mul_of_nonneg_left h (by omega)
    have h2 : (Q : Int) * (m * c) < Q * (a * x) := Int.mul_lt_mul_of_pos_left f (by omega)
    have h3 : m * (p' * x) = (a * Q + 1) * x := by grind
    grind
/-- two pieces that overlap partly -/
theorem part_no {p q p' q' t c : Int} (e : p' * q - p * q' = 1) (q1 : 1 ≤ q) (q1' : 1 ≤ q') (t0 : 0 < t) (t1 : t ≤ q) (t2 : t ≤ q') (h1 : p * t ≤ q * c) (h2 : q' * c ≤ p' * t) (n1 : t = q → c = p + 1) (n2 : t = q' → c = p' - 1) : False := by
  have k : t = q * (p' * t - q' * c) + q' * (q * c - p * t) := by
    have : t = t * (p' * q - p * q') := by rw [e, Int.mul_one]
    grind
  generalize hX : p' * t - q' * c = X at *
  generalize hY : q * c - p * t = Y at *
  have X0 : 0 ≤ X := by omega
  have Y0 : 0 ≤ Y := by omega
  rcases Int.lt_or_le 0 X with w | w
  · have a1 : q * 1 ≤ q * X := Int.mul_le_mul_of_nonneg_left (by omega) (by omega)
    have a2 : 0 ≤ q' * Y := Int.mul_nonneg (by omega) Y0
    have tq : t = q := by omega
    have y0 : q' * Y = 0 := by omega
    have yz : Y = 0 := by
      rcases Int.mul_eq_zero.mp y0 with z | z
      · omega
      · exact z
    have cp := n1 tq
    subst cp
    rw [tq] at hY
    have : q * (p + 1) - p * q = q := by grind
    omega
  · have xz : X = 0 := by omega
    rw [xz, Int.mul_zero, Int.zero_add] at k
    have y1 : 0 < Y := by
      rcases Int.lt_or_le 0 Y with z | z
      · exact z
      · have : Y = 0 := by omega
        rw [this, Int.mul_zero] at k
        omega
    have a1 : q' * 1 ≤ q' * Y := Int.mul_le_mul_of_nonneg_left (by omega) (by omega)
    have tq : t = q' := by omega
    have cp := n2 tq
    subst cp
    rw [tq] at hX
    have : p' * q' - q' * (p' - 1) = q' := by grind
    omega
theorem slack_no {s1 s2 : Int} (h : s1 + s2 = 1) (a1 : 0 ≤ s1) (a2 : 0 ≤ s2) (z1 : s1 = 0 → False) (z2 : s2 = 0 → False) : False := by
  rcases Int.lt_or_le 0 s1 with g | g
  · exact z2 (by omega)
  · exact z1 (by omega)
/-- the least bottom of a slope that fits -/
theorem least_small {S : Nat → Int} {n : Nat} {a m : Int} (st : ∀ k, k < n → S k ≤ S (k + 1) ∧ S (k + 1) ≤ S k + 1) (m1 : 1 ≤ m) (a0 : 0 ≤ a) (am : a ≤ m) (F : FitS S n a m)
    (least : ∀ a' m' : Int, 1 ≤ m' → 0 ≤ a' → a' ≤ m' → FitS S n a' m' → m < m' ∨ (m = m' ∧ a ≤ a')) : m ≤ n + 1 := by
  by_cases n0 : n = 0
  · subst n0
    have := least 0 1 (by decide) (by decide) (by decide) fun j k hj hk => by
      obtain rfl : j = 0 := by omega
      obtain rfl : k = 0 := by omega
      omega
    omega
  rcases Int.lt_or_le (n + 1 : Int) m with big | big
  case inr => exact big
  exfalso
  have cn : ∀ p i : Nat, i + p ≤ n → 0 ≤ S (i + p) - S i ∧ S (i + p) - S i ≤ p := by
    intro p
    induction p with
    | zero => intro i _; rw [Nat.add_zero]; omega
    | succ p ih =>
      intro i hi
      have h1 := ih i (by omega)
      have h2 := st (i + p) (by omega)
      rw [show i + (p + 1) = i + p + 1 by omega]
      omega
  have g1 : Int.gcd a m = 1 := by
    have gm : (Int.gcd a m : Int) ∣ m := Int.gcd_dvd_right ..
    have ga : (Int.gcd a m : Int) ∣ a := Int.gcd_dvd_left ..
    have gp : 0 < (Int.gcd a m : Int) := by
      have : Int.gcd a m ≠ 0 := fun z => by
        have := Int.gcd_eq_zero_iff.mp z
        omega
      omega
    obtain ⟨m', hm'⟩ := gm
    obtain ⟨a', ha'⟩ := ga
    generalize hg : (Int.gcd a m : Int) = g at gp hm' ha'
    apply Classical.byContradiction
    intro z
    have g2 : 2 ≤ g := by
      rcases Int.lt_or_le 1 g with w | w
      · omega
      · exact (z (by omega)).elim
    have m'1 : 1 ≤ m' := by
      rcases Int.lt_or_le 0 m' with w | w
      · exact w
      · have : g * m' ≤ 0 := Int.mul_nonpos_of_nonneg_of_nonpos (by omega) w
        omega
    have a'0 : 0 ≤ a' := by
      rcases Int.lt_or_le a' 0 with w | w
      · have : g * a' ≤ g * (-1) := Int.mul_le_mul_of_nonneg_left (by omega) (by omega)
        omega
      · exact w
    have a'm : a' ≤ m' := by
      have : g * a' ≤ g * m' := by omega
      exact Int.le_of_mul_le_mul_left this gp
    have fit' : FitS S n a' m' := fun j k hj hk => by
      have f := F j k hj hk
      generalize S j - S k - 1 = c at *
      generalize (j : Int) - k = d at *
      have : g * (m' * c) < g * (a' * d) := by
        have e1 : g * (m' * c) = m * c := by rw [hm']; exact (Int.mul_assoc ..).symm
        have e2 : g * (a' * d) = a * d := by rw [ha']; exact (Int.mul_assoc ..).symm
        omega
      exact Int.lt_of_mul_lt_mul_left this (by omega)
    have := least a' m' m'1 a'0 a'm fit'
    have : 2 * m' ≤ g * m' := Int.mul_le_mul_of_nonneg_right g2 (by omega)
    omega
  obtain ⟨p, q, e, q1, qm⟩ := bez_one a0 (by omega) g1
  have N : Nb a m p q := ⟨e, q1, qm⟩
  have e2 := N.e2
  obtain ⟨Q, hQ⟩ : ∃ Q : Nat, q = Q := ⟨q.toNat, by omega⟩
  obtain ⟨R, hR⟩ : ∃ R : Nat, m - q = R := ⟨(m - q).toNat, by omega⟩
  have p0 : 0 ≤ p := by
    rcases Int.lt_or_le p 0 with w | w
    · have h1 : p * m ≤ (-1) * m := Int.mul_le_mul_of_nonneg_right (by omega) (by omega)
      have h2 : 0 ≤ a * q := Int.mul_nonneg a0 (by omega)
      omega
    · exact w
  have pq : p + 1 ≤ q := by
    rcases Int.lt_or_le p q with w | w
    · omega
    · have h1 : q * m ≤ p * m := Int.mul_le_mul_of_nonneg_right w (by omega)
      have h2 : a * q ≤ m * q := Int.mul_le_mul_of_nonneg_right am (by omega)
      have h3 : m * q = q * m := Int.mul_comm ..
      omega
  have p'0 : 0 ≤ a - p := by
    rcases Int.lt_or_le (a - p) 0 with w | w
    · have h1 : (a - p) * q ≤ (-1) * q := Int.mul_le_mul_of_nonneg_right (by omega) (by omega)
      have h2 : 0 ≤ p * (m - q) := Int.mul_nonneg p0 (by omega)
      omega
    · exact w
  have p'q : a - p ≤ m - q := by
    rcases Int.lt_or_le (m - q) (a - p) with w | w
    · have h1 : (m - q + 1) * q ≤ (a - p) * q := Int.mul_le_mul_of_nonneg_right (by omega) (by omega)
      have h2 : p * (m - q) ≤ (q - 1) * (m - q) := Int.mul_le_mul_of_nonneg_right (by omega) (by omega)
      have h3 : (m - q + 1) * q - (q - 1) * (m - q) = m := by grind
      omega
    · exact w
  have no1 : ¬ FitS S n p Q := fun z => by
    have := least p q q1 p0 (by omega) (by rw [hQ]; exact z)
    omega
  have no2 : ¬ FitS S n (a - p) R := fun z => by
    have := least (a - p) (m - q) (by omega) p'0 p'q (by rw [hR]; exact z)
    omega
  rw [hQ] at N
  obtain ⟨i, hi, ui⟩ := nofit_low N (by omega) F no1
  obtain ⟨j, hj, vj⟩ := nofit_high N (by rw [← hQ]; exact hR.symm) (by omega) F no2
  have Lw : ∀ i s : Nat, i + s ≤ n → q * (S (i + s) - S i - 1) ≤ p * s := fun i s h => by
    have f := F (i + s) i (by omega) (by omega)
    rw [show ((i + s : Nat) : Int) - i = s by omega] at f
    have := N.low f (by omega)
    rw [hQ]
    exact this
  have Up : ∀ i s : Nat, i + s ≤ n → (a - p) * s ≤ (m - q) * (S (i + s) - S i + 1) := fun i s h => by
    have f := F i (i + s) (by omega) (by omega)
    have f3 : a * (s : Int) < m * (S (i + s) - S i + 1) := by
      rw [show (i : Int) - ((i + s : Nat) : Int) = -(s : Int) by omega] at f
      have e1 : m * (S i - S (i + s) - 1) = -(m * (S (i + s) - S i + 1)) := by grind
      have e2 : a * -(s : Int) = -(a * s) := Int.mul_neg ..
      omega
    have := N.high f3 (by omega)
    rw [hQ]
    exact this
  generalize hp' : a - p = p' at *
  generalize hq' : m - q = q' at *
  have QR : n + 2 ≤ Q + R := by omega
  by_cases c1 : j ≤ i ∧ i + Q ≤ j + R
  · -- x within y
    obtain ⟨s1, h1⟩ : ∃ s : Nat, i = j + s := ⟨i - j, by omega⟩
    obtain ⟨s2, h2⟩ : ∃ s : Nat, j + R = i + Q + s := ⟨j + R - (i + Q), by omega⟩
    have u1 := Up j s1 (by omega)
    have u2 := Up (i + Q) s2 (by omega)
    have n1 := cn s1 j (by omega)
    have n2 := cn s2 (i + Q) (by omega)
    rw [← h1] at u1 n1
    rw [← h2] at u2 n2
    generalize hv1 : S i - S j = v1 at *
    generalize hv2 : S (j + R) - S (i + Q) = v2 at *
    have vs : v1 + v2 = p' - p - 2 := by omega
    have ss : (s1 : Int) + s2 = q' - q := by omega
    have slack : (q' * (v1 + 1) - p' * s1) + (q' * (v2 + 1) - p' * s2) = 1 := by
      have e5 : q' * (v1 + 1) + q' * (v2 + 1) = q' * (v1 + v2 + 2) := by grind
      have e6 : p' * (s1 : Int) + p' * s2 = p' * ((s1 : Int) + s2) := by grind
      rw [vs] at e5
      rw [ss] at e6
      have e7 : q' * (p' - p - 2 + 2) - p' * (q' - q) = p' * q - p * q' := by grind
      omega
    have key : ∀ (s : Nat) (v : Int), 0 ≤ v → (s : Int) < q' → q' * (v + 1) - p' * s = 0 → False := by
      intro s v v0 sq z
      have m1 : (s : Int) = q' * (q * (v + 1) - p * s) := by
        have e0 : (s : Int) = s * (p' * q - p * q') := by rw [e2, Int.mul_one]
        have e8 : (s : Int) * (p' * q - p * q') = q * (p' * s) - q' * (p * s) := by grind
        have e9 : p' * (s : Int) = q' * (v + 1) := by omega
        rw [e9] at e8
        have e10 : q' * (q * (v + 1) - p * s) = q * (q' * (v + 1)) - q' * (p * s) := by grind
        omega
      have s0 := mult_lt m1 (by omega) sq
      rw [s0, Int.mul_zero] at z
      have : q' * 1 ≤ q' * (v + 1) := Int.mul_le_mul_of_nonneg_left (by omega) (by omega)
      omega
    exact slack_no slack (by omega) (by omega) (key s1 v1 (by omega) (by omega)) (key s2 v2 (by omega) (by omega))
  by_cases c2 : i ≤ j ∧ j + R ≤ i + Q
  · -- y within x
    obtain ⟨s1, h1⟩ : ∃ s : Nat, j = i + s := ⟨j - i, by omega⟩
    obtain ⟨s2, h2⟩ : ∃ s : Nat, i + Q = j + R + s := ⟨i + Q - (j + R), by omega⟩
    have u1 := Lw i s1 (by omega)
    have u2 := Lw (j + R) s2 (by omega)
    have n1 := cn s1 i (by omega)
    have n2 := cn s2 (j + R) (by omega)
    rw [← h1] at u1 n1
    rw [← h2] at u2 n2
    generalize hv1 : S j - S i = v1 at *
    generalize hv2 : S (i + Q) - S (j + R) = v2 at *
    have vs : v1 + v2 = p - p' + 2 := by omega
    have ss : (s1 : Int) + s2 = q - q' := by omega
    have slack : (p * s1 - q * (v1 - 1)) + (p * s2 - q * (v2 - 1)) = 1 := by
      have e5 : q * (v1 - 1) + q * (v2 - 1) = q * (v1 + v2 - 2) := by grind
      have e6 : p * (s1 : Int) + p * s2 = p * ((s1 : Int) + s2) := by grind
      rw [vs] at e5
      rw [ss] at e6
      have e7 : p * (q - q') - q * (p - p' + 2 - 2) = p' * q - p * q' := by grind
      omega
    have key : ∀ (s : Nat) (v : Int), v ≤ s → (s : Int) < q → p * s - q * (v - 1) = 0 → False := by
      intro s v v0 sq z
      have m1 : (s : Int) = q * (p' * s - q' * (v - 1)) := by
        have e0 : (s : Int) = s * (p' * q - p * q') := by rw [e2, Int.mul_one]
        have e8 : (s : Int) * (p' * q - p * q') = q * (p' * s) - q' * (p * s) := by grind
        have e9 : p * (s : Int) = q * (v - 1) := by omega
        rw [e9] at e8
        have e10 : q * (p' * s - q' * (v - 1)) = q * (p' * s) - q' * (q * (v - 1)) := by grind
        omega
      have s0 := mult_lt m1 (by omega) sq
      rw [s0, Int.mul_zero] at z
      have : q * (v - 1) ≤ q * (-1) := Int.mul_le_mul_of_nonneg_left (by omega) (by omega)
      omega
    exact slack_no slack (by omega) (by omega) (key s1 v1 (by omega) (by omega)) (key s2 v2 (by omega) (by omega))
  by_cases c3 : i ≤ j
  · -- x first
    obtain ⟨s1, h1⟩ : ∃ s : Nat, j = i + s := ⟨j - i, by omega⟩
    obtain ⟨s2, h2⟩ : ∃ s : Nat, j + R = i + Q + s := ⟨j + R - (i + Q), by omega⟩
    have u1 := Lw i s1 (by omega)
    have u2 := Up (i + Q) s2 (by omega)
    rw [← h1] at u1
    rw [← h2] at u2
    have d1 : (s1 : Int) = q - (i + q - j) := by omega
    have d2 : (s2 : Int) = q' - (i + q - j) := by omega
    have w1 : S j - S i - 1 = p - (S (i + Q) - S j) := by omega
    have w2 : S (j + R) - S (i + Q) + 1 = p' - (S (i + Q) - S j) := by omega
    rw [d1, w1] at u1
    rw [d2, w2] at u2
    refine part_no (t := i + q - j) (c := S (i + Q) - S j) e2 q1 (by omega) (by omega) (by omega) (by omega) ?_ ?_ (fun z => ?_) (fun z => ?_)
    · generalize (i : Int) + q - j = t at *
      generalize S (i + Q) - S j = c at *
      have e5 : q * (p - c) = q * p - q * c := Int.mul_sub ..
      have e6 : p * (q - t) = q * p - p * t := by grind
      omega
    · generalize (i : Int) + q - j = t at *
      generalize S (i + Q) - S j = c at *
      have e5 : q' * (p' - c) = q' * p' - q' * c := Int.mul_sub ..
      have e6 : p' * (q' - t) = q' * p' - p' * t := by grind
      omega
    · have : j = i := by omega
      rw [this]
      exact ui
    · have : i + Q = j + R := by omega
      rw [this]
      exact vj
  · -- y first
    obtain ⟨s1, h1⟩ : ∃ s : Nat, i = j + s := ⟨i - j, by omega⟩
    obtain ⟨s2, h2⟩ : ∃ s : Nat, i + Q = j + R + s := ⟨i + Q - (j + R), by omega⟩
    have u1 := Up j s1 (by omega)
    have u2 := Lw (j + R) s2 (by omega)
    rw [← h1] at u1
    rw [← h2] at u2
    have d1 : (s1 : Int) = q' - (j + q' - i) := by omega
    have d2 : (s2 : Int) = q - (j + q' - i) := by omega
    have w1 : S i - S j + 1 = p' - (S (j + R) - S i) := by omega
    have w2 : S (i + Q) - S (j + R) - 1 = p - (S (j + R) - S i) := by omega
    rw [d1, w1] at u1
    rw [d2, w2] at u2
    refine part_no (t := j + q' - i) (c := S (j + R) - S i) e2 q1 (by omega) (by omega) (by omega) (by omega) ?_ ?_ (fun z => ?_) (fun z => ?_)
    · generalize (j : Int) + q' - i = t at *
      generalize S (j + R) - S i = c at *
      have e5 : q * (p - c) = q * p - q * c := Int.mul_sub ..
      have e6 : p * (q - t) = q * p - p * t := by grind
      omega
    · generalize (j : Int) + q' - i = t at *
      generalize S (j + R) - S i = c at *
      have e5 : q' * (p' - c) = q' * p' - q' * c := Int.mul_sub ..
      have e6 : p' * (q' - t) = q' * p' - p' * t := by grind
      omega
    · have : j + R = i + Q := by omega
      rw [this]
      exact ui
    · have : i = j := by omega
      rw [this]
      exact vj

--@ needs StepV SpoilV Hts Farey
/-- the text of a stair's steps -/
def tx (a b m : Int) (n : Nat) : List Nat := (List.range n).map fun i => if (a * ((i + 1 : Nat) : Int) + b) / m - (a * (i : Int) + b) / m = 1 then 104 else 108
theorem tx_len (a b m : Int) (n : Nat) : (tx a b m n).length = n := by
  unfold tx
  rw [List.length_map, List.length_range]
theorem tx_at {a b m : Int} {n i : Nat} (h : i < n) : (tx a b m n)[i]? = some (if (a * ((i + 1 : Nat) : Int) + b) / m - (a * (i : Int) + b) / m = 1 then 104 else 108) := by
  unfold tx
  rw [List.getElem?_map, List.getElem?_range h]
  rfl
theorem tx_ok (a b m : Int) (n : Nat) : lhT (tx a b m n) := fun c hc => by
  obtain ⟨i, _, rfl⟩ := List.mem_map.mp hc
  split
  · exact .inr rfl
  · exact .inl rfl
theorem step01 {a b m : Int} (m0 : 0 < m) (a0 : 0 ≤ a) (am : a ≤ m) (i : Nat) : (a * ((i + 1 : Nat) : Int) + b) / m - (a * (i : Int) + b) / m = 0 ∨ (a * ((i + 1 : Nat) : Int) + b) / m - (a * (i : Int) + b) / m = 1 := by
  have e : a * ((i + 1 : Nat) : Int) + b = (a * (i : Int) + b) + a := by
    rw [show ((i + 1 : Nat) : Int) = (i : Int) + 1 by omega]
    grind
  rw [e]
  generalize a * (i : Int) + b = z
  have h1 : z / m ≤ (z + a) / m := Int.ediv_le_ediv m0 (by omega)
  have h2 : (z + a) / m ≤ (z + m * 1) / m := Int.ediv_le_ediv m0 (by omega)
  rw [Int.add_mul_ediv_left z 1 (by omega)] at h2
  omega
theorem tx_hS {a b m : Int} (m0 : 0 < m) (a0 : 0 ≤ a) (am : a ≤ m) {n : Nat} : ∀ k : Nat, k ≤ n → hS (tx a b m n) k = (a * (k : Int) + b) / m - b / m
  | 0, _ => by
    rw [hS_0]
    show 0 = (a * ((0 : Nat) : Int) + b) / m - b / m
    rw [show a * ((0 : Nat) : Int) + b = b by show a * 0 + b = b; rw [Int.mul_zero, Int.zero_add]]
    omega
  | k + 1, h => by
    have st := step01 (b := b) m0 a0 am k
    rw [hS_step (tx_at (show k < n by omega)), tx_hS m0 a0 am k (by omega)]
    by_cases z : (a * ((k + 1 : Nat) : Int) + b) / m - (a * (k : Int) + b) / m = 1
    · rw [if_pos z, if_pos rfl]
      omega
    · rw [if_neg z, if_neg (by decide)]
      omega
theorem tx_eq {a b m : Int} {l : List Nat} (ok : lhT l) (h : ∀ k : Nat, k ≤ l.length → hS l k = (a * (k : Int) + b) / m - b / m) : tx a b m l.length = l := by
  refine List.ext_getElem? fun i => ?_
  by_cases hi : i < l.length
  · rw [tx_at hi, List.getElem?_eq_getElem hi]
    have h1 := h i (by omega)
    have h2 := h (i + 1) (by omega)
    rw [hS_step (List.getElem?_eq_getElem hi), h1] at h2
    rcases ok l[i] (List.getElem_mem hi) with z | z
    · rw [z] at h2 ⊢
      rw [if_neg (by decide)] at h2
      rw [if_neg (by omega)]
    · rw [z] at h2 ⊢
      rw [if_pos rfl] at h2
      rw [if_pos (by omega)]
  · rw [List.getElem?_eq_none (by rw [tx_len]; omega), List.getElem?_eq_none (by omega)]
/-- sums that are those of a stair from a place on: its slope fits -/
def OfS (S : Nat → Int) (n : Nat) (a b m : Int) : Prop := ∃ o : Nat, ∀ k : Nat, k ≤ n → S k = (a * ((o + k : Nat) : Int) + b) / m - (a * (o : Int) + b) / m
theorem OfS.fit {S : Nat → Int} {n : Nat} {a b m : Int} (m0 : 0 < m) (h : OfS S n a b m) : FitS S n a m := by
  obtain ⟨o, h⟩ := h
  intro j k hj hk
  rw [h j hj, h k hk]
  have e : (a * ((o + j : Nat) : Int) + b) - (a * ((o + k : Nat) : Int) + b) = a * ((j : Int) - k) := by
    rw [show ((o + j : Nat) : Int) = (o : Int) + j by omega, show ((o + k : Nat) : Int) = (o : Int) + k by omega]
    grind
  generalize a * ((o + j : Nat) : Int) + b = x at *
  generalize a * ((o + k : Nat) : Int) + b = y at *
  generalize (a * (o : Int) + b) / m = z at *
  have x1 := Int.mul_ediv_self_le (x := x) (k := m) (by omega)
  have y1 := Int.lt_mul_ediv_self_add (x := y) m0
  generalize x / m = u at *
  generalize y / m = v at *
  have e2 : m * (u - z - (v - z) - 1) = m * u - m * v - m := by grind
  omega
theorem fit_bal {S : Nat → Int} {n : Nat} {a m : Int} (m0 : 0 < m) (F : FitS S n a m) : BalS S n := by
  intro p i j hi hj
  have f1 := F (i + p) i hi (by omega)
  have f2 := F j (j + p) (by omega) hj
  rw [show ((i + p : Nat) : Int) - i = p by omega] at f1
  rw [show (j : Int) - ((j + p : Nat) : Int) = -(p : Int) by omega] at f2
  have e2 : a * -(p : Int) = -(a * p) := Int.mul_neg ..
  have e1 : m * (S j - S (j + p) - 1) = -(m * (S (j + p) - S j + 1)) := by grind
  have h : m * (S (i + p) - S i - 1) < m * (S (j + p) - S j + 1) := by omega
  have := Int.lt_of_mul_lt_mul_left h (by omega)
  omega
theorem hS_drop (l : List Nat) (o k : Nat) : hS (l.drop o) k = hS l (o + k) - hS l o := by
  have := hS_piece l o k
  rw [← this]
  unfold hS
  rw [List.drop_take, show o + k - o = k by omega]
theorem hS_take {l : List Nat} {o k : Nat} (h : k ≤ o) : hS (l.take o) k = hS l k := by
  unfold hS
  rw [List.take_take, Nat.min_eq_left h]
theorem StF.b01 {l : List Nat} {a b m : Int} (F : StF l a b m) : 0 ≤ b ∧ b < m := by
  have m0 := F.m0
  have h := fit_height (show 0 < m by omega) F.fit F.hb F.hx 0 (Nat.zero_le _)
  rw [hS_0, show a * ((0 : Nat) : Int) + b = b by show a * 0 + b = b; rw [Int.mul_zero, Int.zero_add]] at h
  have h1 := Int.mul_ediv_self_le (x := b) (k := m) (by omega)
  have h2 := Int.lt_mul_ediv_self_add (x := b) (show 0 < m by omega)
  rw [h, Int.mul_zero] at h1 h2
  omega
theorem StF.text {l : List Nat} {a b m : Int} (F : StF l a b m) (ok : lhT l) : tx a b m l.length = l := by
  have m0 := F.m0
  have b01 := F.b01
  refine tx_eq ok fun k hk => ?_
  rw [fit_height (show 0 < m by omega) F.fit F.hb F.hx k hk, Int.ediv_eq_zero_of_lt b01.1 b01.2]
  omega
/-- another stair with that text is no less -/
theorem StF.first {l : List Nat} {a b m a' b' m' : Int} (F : StF l a b m) (m0 : 1 ≤ m') (a0 : 0 ≤ a') (am : a' ≤ m') (b0 : 0 ≤ b') (bm : b' < m') (h : tx a' b' m' l.length = l) : m < m' ∨ (m = m' ∧ (a < a' ∨ (a = a' ∧ b ≤ b'))) := by
  have hk : ∀ k : Nat, k ≤ l.length → hS l k = (a' * (k : Int) + b') / m' := fun k hk => by
    have := tx_hS (b := b') (show 0 < m' by omega) a0 am k hk
    rw [h, Int.ediv_eq_zero_of_lt b0 bm] at this
    omega
  have fit : FitS (hS l) l.length a' m' := OfS.fit (b := b') (by omega) ⟨0, fun k hk' => by
    rw [hk k hk', Nat.zero_add, show a' * ((0 : Nat) : Int) + b' = b' by show a' * 0 + b' = b'; rw [Int.mul_zero, Int.zero_add], Int.ediv_eq_zero_of_lt b0 bm]
    omega⟩
  rcases F.least a' m' m0 a0 am fit with z | ⟨z1, z2⟩
  · exact .inl z
  · refine .inr ⟨z1, ?_⟩
    rcases Int.lt_or_le a a' with w | w
    · exact .inl w
    · have ea : a = a' := by omega
      refine .inr ⟨ea, ?_⟩
      obtain ⟨k, kl, e⟩ := F.hx
      have g := hk k kl
      have := Int.mul_ediv_self_le (x := a' * (k : Int) + b') (k := m') (by omega)
      rw [← g] at this
      rw [e, z1, ea]
      omega
def sing (cs : List Nat) : List (List Nat) := cs.map fun c => [c]
theorem join_sing : ∀ cs : List Nat, TL.joinL [] (sing cs) = cs
  | [] => rfl
  | [c] => rfl
  | c :: d :: cs => by
    have ih := join_sing (d :: cs)
    show [c] ++ ([] ++ TL.joinL [] (sing (d :: cs))) = _
    rw [ih]
    rfl
theorem wgt_sing : ∀ cs : List Nat, wgt (sing cs) = 2 * cs.length
  | [] => rfl
  | c :: cs => by
    show 1 + 1 + wgt (sing cs) = _
    rw [wgt_sing cs, List.length_cons]
    omega
theorem hts_step {a b m : Int} (m0 : 0 < m) (a0 : 0 ≤ a) (am : a ≤ m) {n i : Nat} {x y : Int} (hx : (hts a b m 0 n)[i]? = some x) (hy : ((hts a b m 0 n).drop 1)[i]? = some y) : y - x = 0 ∨ y - x = 1 := by
  rw [List.getElem?_drop] at hy
  unfold hts at hx hy
  have li := (List.getElem?_eq_some_iff.mp hy).1
  rw [List.length_map, List.length_range] at li
  rw [List.getElem?_map, List.getElem?_range (by omega)] at hx hy
  have hx : (a * (0 + (i : Int)) + b) / m = x := Option.some.inj hx
  have hy : (a * (0 + ((1 + i : Nat) : Int)) + b) / m = y := Option.some.inj hy
  have e : a * (0 + ((1 + i : Nat) : Int)) + b = (a * (0 + (i : Int)) + b) + a := by
    rw [show ((1 + i : Nat) : Int) = 1 + (i : Int) by omega]
    grind
  rw [e] at hy
  generalize a * (0 + (i : Int)) + b = z at hx hy
  have h1 : z / m ≤ (z + a) / m := Int.ediv_le_ediv m0 (by omega)
  have h2 : (z + a) / m ≤ (z + m * 1) / m := Int.ediv_le_ediv m0 (by omega)
  rw [Int.add_mul_ediv_left z 1 (by omega)] at h2
  omega
theorem hts_tx (a b m : Int) (n : Nat) : (((hts a b m 0 (n + 1)).zip ((hts a b m 0 (n + 1)).drop 1)).map fun q => if q.2 - q.1 = 1 then 104 else (108 : Nat)) = tx a b m n := by
  have hat : ∀ k, k ≤ n → (hts a b m 0 (n + 1))[k]? = some ((a * (k : Int) + b) / m) := fun k hk => by
    unfold hts
    rw [List.getElem?_map, List.getElem?_range (by omega)]
    show some ((a * (0 + (k : Int)) + b) / m) = _
    rw [Int.zero_add]
  refine List.ext_getElem? fun i => ?_
  by_cases hi : i < n
  · have g2 : ((hts a b m 0 (n + 1)).drop 1)[i]? = some ((a * ((i + 1 : Nat) : Int) + b) / m) := by
      rw [List.getElem?_drop, show 1 + i = i + 1 by omega]
      exact hat (i + 1) (by omega)
    have gz : ((hts a b m 0 (n + 1)).zip ((hts a b m 0 (n + 1)).drop 1))[i]? = some ((a * (i : Int) + b) / m, (a * ((i + 1 : Nat) : Int) + b) / m) := List.getElem?_zip_eq_some.mpr ⟨hat i (by omega), g2⟩
    rw [List.getElem?_map, gz, tx_at hi]
    rfl
  · rw [List.getElem?_eq_none (by rw [List.length_map, List.length_zip, List.length_drop, hts_len]; omega), List.getElem?_eq_none (by rw [tx_len]; omega)]
theorem lhT.take {l : List Nat} (h : lhT l) (k : Nat) : lhT (l.take k) := fun c hc => h c (List.mem_of_mem_take hc)
theorem lhT.drop {l : List Nat} (h : lhT l) (k : Nat) : lhT (l.drop k) := fun c hc => h c (List.mem_of_mem_drop hc)

def sp_law_text (_ : PySem.W.Frag) : Sp := fun vs H Q _ => ∃ (p : Addr) (a b m n : Int), vs = [.ref p, .int n] ∧ H p = some (.tup [.int a, .int b, .int m]) ∧ 0 < m ∧ 0 ≤ a ∧ a ≤ m ∧ Sz 2000 m ∧ 0 ≤ n ∧ n ≤ 300 ∧ ∀ H', Ex H H' → Q (.str (SX.S (tx a b m n.toNat))) H'
theorem use_law_text {K : PySem.W.Frag} {H : Hp} {Q : VK} {E : XK} {p : Addr} {a b m n : Int} (hp : H p = some (.tup [.int a, .int b, .int m])) (m0 : 0 < m) (a0 : 0 ≤ a) (am : a ≤ m) (zm : Sz 2000 m) (n0 : 0 ≤ n) (n1 : n ≤ 300) (q : ∀ H', Ex H H' → Q (.str (SX.S (tx a b m n.toNat))) H') : sp_law_text K [.ref p, .int n] H Q E := ⟨p, a, b, m, n, rfl, hp, m0, a0, am, zm, n0, n1, q⟩
abbrev s_law_text : Stmt := topS 18
abbrev nm_law_text : List Str := ["stair", "n", "there", "one", "two"]
theorem sc_law_text : FnScope nm_law_text ["stair", "n"] (defScope s_law_text) := ⟨rfl, rfl, rfl, by decide +kernel, rfl, by decide +kernel, by decide +kernel⟩
theorem st_law_text {v0 v1 : V} : start nm_law_text [v0, v1] = [some v0, some v1, none, none, none] := rfl
section
variable {P : Program} {w : World} {K : PySem.W.Frag} {mg : Str → Option Value} {base : Heap}
theorem ok_law_text (D : DefAt K mg "_law_text" s_law_text ["stair", "n"]) (B_zip : mg "zip" = none) (G__law_heights : Has P w K mg base CX0 2 "_law_heights" ["stair", "k", "n"] (sp_law_heights K)) : Has P w K mg base CX0 3 "_law_text" ["stair", "n"] (sp_law_text K) := by
  refine D.ok sc_law_text (by rintro _ _ _ _ ⟨_, _, _, _, _, rfl, _⟩; rfl) (fun f cdv A outer s H vs Q E hr h => ?_)
  obtain ⟨p, a, b, m, n, rfl, hp, m0, a0, am, zm, n0, n1, q⟩ := h
  obtain ⟨N, rfl⟩ : ∃ N : Nat, n = (N : Int) := ⟨n.toNat, by omega⟩
  refine ⟨_, (pss_cons (ps_set (i := 2) sc_law_text.nd rfl (Or.inl rfl) (pcall G__law_heights (hr.mono (by decide)) (pa_cons (pv 0) (pa_cons pe_int (pa_cons (pe_op op_add (pv 1) pe_int) pa_nil)))))
      (pss_one (ps_ret (pe_bm PySem.F.plainAttrs_str PySem.F.slot_str_join PySem.F.type_str_join mt_joinR pe_str (pa_cons (pe_lc rfl sc_law_text.nd (pi_zip (by rfl) B_zip (pa_cons (pv 2) (pa_cons (pe_slice sl_list (pv 2) (po_some pe_int) po_none) pa_nil))) (blkOk_by (own := [("one", 3), ("two", 4)]) (N := nm_law_text) (sc := defScope s_law_text) (by decide +kernel)) (fun _ _ _ _ _ => (pg_tupK (K := K) (n := 2) (by rfl) (pgs_cons (pg_name (i := 3) sc_law_text.nd rfl (Or.inl rfl)) (pgs_cons (pg_name (i := 4) sc_law_text.nd rfl (Or.inl rfl)) pgs_nil)))) (fun _ _ _ _ _ => pts_nil) (fun _ _ _ _ _ => (pe_ix (ix_listK (K := K)) (pe_lst (pa_cons pe_str (pa_cons pe_str pa_nil))) (pe_op op_sub (pv 4) (pv 3)) (fun _ _ => rfl)))) pa_nil))))), ?_⟩
  rw [st_law_text]
  try dsimp only [Cx.nox, Cx.wish, Cx.blk, cx_K]
  walk_at "go"
  refine use_law_heightsB hp m0 (zm.le (by omega) am) zm ((Sz.lit : Sz 200 0).mono (by decide)) (by omega) (by omega) fun p10 H10 np10 e10 h10 => ?_
  rw [show (((N : Nat) : Int) + 1).toNat = N + 1 by omega] at h10
  walk_at "go"
  refine r_slL h10 fun p11 H11 np11 e11 h11 => ?_
  rw [cut_1 _ (by rw [List.length_map, hts_len]; omega), ← List.map_drop] at h11
  have h10 := e11.at h10
  walk_at "go"
  refine ⟨p10, p11, _, _, rfl, SqL.of h10, SqL.of h11, ?_⟩
  refine lc_zipI (fun x y => .str (SX.S [if y - x = 1 then 104 else 108])) (SqL.of h10) (SqL.of h11) (by rw [hts_len]; omega) (by intros; rfl) (fun i x y gx gy G eG QE kE => ?_) (fun p12 H12 np12 e12 h12 => ?_)
  · have st := hts_step m0 a0 am gx gy
    walk_at "go"
    rename_i l13 H13 nl13 e13 h13
    rcases st with z | z
    · rw [z] at kE ⊢
      refine r_ixL (SqL.of h13) (v := .str "l") rfl ?_
      rw [L_l]
      exact kE _ e13
    · rw [z] at kE ⊢
      refine r_ixL (SqL.of h13) (v := .str "h") rfl ?_
      rw [L_h]
      exact kE _ e13
  have htx := hts_tx a b m N
  have h12 : H12 p12 = some (.lst (wstrs (sing (tx a b m N)))) := by
    rw [h12, ← htx]
    unfold wstrs sing
    rw [List.map_map, List.map_map]
    rfl
  have wg := wgt_sing (tx a b m N)
  rw [tx_len] at wg
  walk_at "go"
  rw [join_sing]
  have e := q _ (e10.trans (e11.trans e12))
  rw [Int.toNat_natCast] at e
  exact e

end
abbrev MOST_SIGNS_val : Int := 200
def sp_need_steps (_ : PySem.W.Frag) : Sp := fun vs H Q _ => ∃ l : List Nat, vs = [.str (SX.S l)] ∧ l.length ≤ 200 ∧ lhT l ∧ ∀ H', Ex H H' → Q .non H'
theorem use_need_steps {K : PySem.W.Frag} {H : Hp} {Q : VK} {E : XK} {l : List Nat} (n : l.length ≤ 200) (ok : lhT l) (q : ∀ H', Ex H H' → Q .non H') : sp_need_steps K [.str (SX.S l)] H Q E := ⟨l, rfl, n, ok, q⟩
theorem lh_in (c : Nat) : decide (c ∈ [108, 104]) = decide (c = 108 ∨ c = 104) := decide_eq_decide.mpr (by simp)
abbrev s_need_steps : Stmt := topS 5
abbrev nm_need_steps : List Str := ["text", "sign"]
theorem sc_need_steps : FnScope nm_need_steps ["text"] (defScope s_need_steps) := ⟨rfl, rfl, rfl, by decide +kernel, rfl, by decide +kernel, by decide +kernel⟩
theorem st_need_steps {v0 : V} : start nm_need_steps [v0] = [some v0, none] := rfl
section
variable {P : Program} {w : World} {K : PySem.W.Frag} {mg : Str → Option Value} {base : Heap}
theorem ok_need_steps (D : DefAt K mg "need_steps" s_need_steps ["text"]) (B_all : mg "all" = none) (B_len : mg "len" = none) (B_isinstance : mg "isinstance" = none) (B_str : mg "str" = none) (T_MOST_SIGNS : ∃ t, mg "MOST_SIGNS" = some (.int MOST_SIGNS_val t)) : Has P w K mg base CX0 2 "need_steps" ["text"] (sp_need_steps K) := by
  refine D.ok sc_need_steps (by rintro _ _ _ _ ⟨_, rfl, _⟩; rfl) (fun f cdv A outer s H vs Q E hr h => ?_)
  obtain ⟨_, T_MOST_SIGNS⟩ := T_MOST_SIGNS
  obtain ⟨l, rfl, n, ok, q⟩ := h
  have hl : l.length ≤ 1000000 := by omega
  refine ⟨_, (pss_one (ps_if (PW.pt (pw_or (pt_not (pt_val (pe_callB call_isi (by rfl) B_isinstance (by decide +kernel) (pa_cons (pv 0) (pa_cons (pe_bltn (v := .ty "str") (by rfl) B_str (by decide +kernel) rfl) pa_nil))))) (pw_or (pt_cmpR op_gt (pe_callB cl_lenS (by rfl) B_len (by decide +kernel) (pa_cons (pv 0) pa_nil)) (pe_glob (v := .int (200)) rfl T_MOST_SIGNS ⟨_, rfl⟩) (nomark _)) (pw_or1 (pt_not (pt_val (pe_callB (cr_all rfl) (by rfl) B_all (by decide +kernel) (pa_cons (pe_lc rfl sc_need_steps.nd (pi_str (pv 0)) (blkOk_by (own := [("sign", 1)]) (N := nm_need_steps) (sc := defScope s_need_steps) (by decide +kernel)) (fun _ _ _ _ _ => (pg_name (i := 1) sc_need_steps.nd rfl (Or.inl rfl))) (fun _ _ _ _ _ => pts_nil) (fun _ _ _ _ _ => (pe_cmpR op_inS (pv 1) pe_str (by rfl)))) pa_nil)))))))) (pss_one ps_never) pss_nil)), ?_⟩
  rw [st_need_steps]
  try dsimp only [Cx.nox, Cx.wish, Cx.blk, cx_K]
  walk_at "go"
  refine lc_strF (fun _ => true) (fun c => .bl (decide (c = 108 ∨ c = 104))) hl (fun _ => rfl) (fun z hz H1 e1 QE kE => tYes_k (kE _ Ex.refl)) (fun z hz _ H1 e1 QE kE => ?_) (fun p H1 np e1 hp => ?_)
  · walk_at "go"
    have e := kE _ Ex.refl
    rw [lh_in]
    exact e
  · walk_at "go"
    rw [List.filter_eq_self.mpr (fun _ _ => rfl)] at hp
    have hp : H1 p = some (.lst ((l.map fun c => decide (c = 108 ∨ c = 104)).map V.bl)) := by
      rw [hp, List.map_map]
      rfl
    refine r_all (SqL.of hp) ?_
    have ea : (l.map fun c => decide (c = 108 ∨ c = 104)).all id = true := by
      rw [List.all_map, List.all_eq_true]
      intro c hc
      exact decide_eq_true (ok c hc)
    rw [ea]
    walk_at "go"
    exact q _ e1

end
def sp_sums_in (_ : PySem.W.Frag) : Sp := fun vs H Q _ => ∃ l : List Nat, vs = [.str (SX.S l)] ∧ l.length ≤ 90000 ∧ ∀ p H', H p = none → Ex H H' → H' p = some (.lst (sumV (hS l) l.length)) → Q (.ref p) H'
theorem use_sums_in {K : PySem.W.Frag} {H : Hp} {Q : VK} {E : XK} {l : List Nat} (n : l.length ≤ 90000) (q : ∀ p H', H p = none → Ex H H' → H' p = some (.lst (sumV (hS l) l.length)) → Q (.ref p) H') : sp_sums_in K [.str (SX.S l)] H Q E := ⟨l, rfl, n, q⟩
theorem sumV_snoc (S : Nat → Int) (n : Nat) : sumV S (n + 1) = sumV S n ++ [.int (S (n + 1))] := by
  unfold sumV
  rw [List.range_succ (n := n + 1), List.map_append]
  rfl
theorem sumV_last (S : Nat → Int) (n : Nat) : atI (sumV S n) (-1) = some (.int (S n)) := by
  have e : sumV S n = (((List.range n).map S) ++ [S n]).map V.int := by
    unfold sumV
    rw [List.range_succ, List.map_append, List.map_append, List.map_map]
    rfl
  rw [e]
  exact at_lastI _ _
abbrev s_sums_in : Stmt := topS 6
abbrev nm_sums_in : List Str := ["text", "found", "sign"]
theorem sc_sums_in : FnScope nm_sums_in ["text"] (defScope s_sums_in) := ⟨rfl, rfl, rfl, by decide +kernel, rfl, by decide +kernel, by decide +kernel⟩
theorem st_sums_in {v0 : V} : start nm_sums_in [v0] = [some v0, none, none] := rfl
section
variable {P : Program} {w : World} {K : PySem.W.Frag} {mg : Str → Option Value} {base : Heap}
theorem ok_sums_in (D : DefAt K mg "sums_in" s_sums_in ["text"]) (B_int : mg "int" = none) : Has P w K mg base CX0 2 "sums_in" ["text"] (sp_sums_in K) := by
  refine D.ok sc_sums_in (by rintro _ _ _ _ ⟨_, rfl, _⟩; rfl) (fun f cdv A outer s H vs Q E hr h => ?_)
  obtain ⟨l, rfl, n, q⟩ := h
  refine ⟨_, (pss_cons (ps_set (i := 1) sc_sums_in.nd rfl (Or.inl rfl) (pe_lst (pa_cons pe_int pa_nil)))
      (pss_cons (ps_for PassesOwn.never rfl (pi_str (pv 0)) (pg_name (i := 2) sc_sums_in.nd rfl (Or.inl rfl))
        (pss_one (ps_expr (pe_bm PySem.F.plainAttrs_list PySem.F.slot_list_append PySem.F.type_list_append mt_append (pv 1) (pa_cons (pe_op op_add (pe_ix ix_list (pv 1) (pe_un un_neg pe_int) (fun _ _ => rfl)) (pe_callTy cl_int1 (by rfl) B_int (by decide +kernel) (pa_cons (pe_cmpR op_eq (pv 2) pe_str (nomark _)) pa_nil))) pa_nil)))))
      (pss_one (ps_ret (pv 1))))), ?_⟩
  rw [st_sums_in]
  try dsimp only [Cx.nox, Cx.wish, Cx.blk, cx_K]
  walk_at "go"
  rename_i p H1 n1 e1 h1
  refine for_strL (fun j σ H' => Ex H H' ∧ H' p = some (.lst (sumV (hS l) j)) ∧ ∃ o : Option V, σ = [some (.str (SX.S l)), some (.ref p), o]) ⟨e1, h1, none, rfl⟩ ?_ ?_
  · rintro j c σ H2 hc ⟨e2, h2, o, rfl⟩
    have lj : j < l.length := (List.getElem?_eq_some_iff.mp hc).1
    walk_at "go"
    refine r_ixL (SqL.of h2) (sumV_last _ _) ?_
    walk_at "go"
    refine r_app h2 (by rw [sumV_len]; omega) fun H3 k3 h3 => ?_
    walk_at "go"
    refine ⟨e2.kpd n1 k3, ?_, _, rfl⟩
    rw [h3, sumV_snoc, hS_step hc]
    by_cases z : c = 104
    · subst z
      rw [if_pos rfl, decide_eq_true rfl]
      rfl
    · rw [if_neg z, decide_eq_false (by simpa using z)]
      rfl
  · rintro σ H2 ⟨e2, h2, o, rfl⟩
    walk_at "go"
    exact q _ _ n1 e2 h2

end
def sp_unlike_pieces (_ : PySem.W.Frag) : Sp := fun vs H Q _ => ∃ (p : Addr) (S : Nat → Int) (n : Nat), vs = [.ref p] ∧ H p = some (.lst (sumV S n)) ∧ n ≤ 300 ∧ (BalS S n → ∀ H', Ex H H' → Q .non H') ∧
  ∀ (i j r : Nat) t H', 1 ≤ r → i + r ≤ n → j + r ≤ n → S (j + r) - S j + 1 < S (i + r) - S i → Ex H H' → H' t = some (.tup [.int i, .int j, .int r]) → Q (.ref t) H'
theorem use_unlike_pieces {K : PySem.W.Frag} {H : Hp} {Q : VK} {E : XK} {p : Addr} {S : Nat → Int} {n : Nat} (hp : H p = some (.lst (sumV S n))) (hn : n ≤ 300) (q1 : BalS S n → ∀ H', Ex H H' → Q .non H')
  (q2 : ∀ (i j r : Nat) t H', 1 ≤ r → i + r ≤ n → j + r ≤ n → S (j + r) - S j + 1 < S (i + r) - S i → Ex H H' → H' t = some (.tup [.int i, .int j, .int r]) → Q (.ref t) H') : sp_unlike_pieces K [.ref p] H Q E := ⟨p, S, n, rfl, hp, hn, q1, q2⟩
theorem mem_cnt {f : Nat → Int} {N : Nat} {x : Int} (h : x ∈ (List.range N).map f) : ∃ j, j < N ∧ f j = x := by
  obtain ⟨j, hj, e⟩ := List.mem_map.mp h
  exact ⟨j, List.mem_range.mp hj, e⟩
abbrev s_unlike_pieces : Stmt := topS 7
abbrev nm_unlike_pieces : List Str := ["sums", "many", "counts", "k"]
theorem sc_unlike_pieces : FnScope nm_unlike_pieces ["sums"] (defScope s_unlike_pieces) := ⟨rfl, rfl, rfl, by decide +kernel, rfl, by decide +kernel, by decide +kernel⟩
theorem st_unlike_pieces {v0 : V} : start nm_unlike_pieces [v0] = [some v0, none, none, none] := rfl
section
variable {P : Program} {w : World} {K : PySem.W.Frag} {mg : Str → Option Value} {base : Heap}
theorem ok_unlike_pieces (D : DefAt K mg "unlike_pieces" s_unlike_pieces ["sums"]) (B_range : mg "range" = none) (B_len : mg "len" = none) (B_max : mg "max" = none) (B_min : mg "min" = none) : Has P w K mg base CX0 2 "unlike_pieces" ["sums"] (sp_unlike_pieces K) := by
  refine D.ok sc_unlike_pieces (by rintro _ _ _ _ ⟨_, _, _, rfl, _⟩; rfl) (fun f cdv A outer s H vs Q E hr h => ?_)
  obtain ⟨p, S, n, rfl, hp, hn, q1, q2⟩ := h
  have hlen : ((sumV S n).length : Int) = n + 1 := by rw [sumV_len]; omega
  refine ⟨_, (pss_cons (ps_for PassesOwn.never rfl (pi_rng2 rfl B_range (pa_cons pe_int (pa_cons (pe_callB cl_len (by rfl) B_len (by decide +kernel) (pa_cons (pv 0) pa_nil)) pa_nil))) (pg_name (i := 1) sc_unlike_pieces.nd rfl (Or.inr rfl))
        (pss_cons (ps_setLc (i := 2) rfl sc_unlike_pieces.nd rfl rfl (sw_true rfl rfl rfl (by decide +kernel)) (pi_range1 rfl B_range (pa_cons (pe_op op_sub (pe_callB cl_len (by rfl) B_len (by decide +kernel) (pa_cons (pv 0) pa_nil)) (pv 1)) pa_nil)) (blkOk_by (own := [("k", 3)]) (N := nm_unlike_pieces) (sc := defScope s_unlike_pieces) (by decide +kernel)) (fun _ _ _ _ _ => (pg_name (i := 3) sc_unlike_pieces.nd rfl (Or.inl rfl))) (fun _ _ _ _ _ => pts_nil) (fun _ _ _ _ _ => (pe_op op_sub (pe_ix (ix_listK (K := K)) (pv 0) (pe_op op_add (pv 3) (pv 1)) (fun _ _ => rfl)) (pe_ix (ix_listK (K := K)) (pv 0) (pv 3) (fun _ _ => rfl)))))
        (pss_one (ps_if (pt_cmpR op_gt (pe_op op_sub (pe_callB (cr_max rfl) (by rfl) B_max (by decide +kernel) (pa_cons (pv 2) pa_nil)) (pe_callB (cr_min rfl) (by rfl) B_min (by decide +kernel) (pa_cons (pv 2) pa_nil))) pe_int (nomark _)) (pss_one (ps_ret (pe_tup (pa_cons (pe_bm PySem.F.plainAttrs_list PySem.F.slot_list_index PySem.F.type_list_index mt_index (pv 2) (pa_cons (pe_callB (cr_max rfl) (by rfl) B_max (by decide +kernel) (pa_cons (pv 2) pa_nil)) pa_nil)) (pa_cons (pe_bm PySem.F.plainAttrs_list PySem.F.slot_list_index PySem.F.type_list_index mt_index (pv 2) (pa_cons (pe_callB (cr_min rfl) (by rfl) B_min (by decide +kernel) (pa_cons (pv 2) pa_nil)) pa_nil)) (pa_cons (pv 1) pa_nil)))))) pss_nil))))
      (pss_one (ps_ret pe_non))), ?_⟩
  rw [st_unlike_pieces]
  try dsimp only [Cx.nox, Cx.wish, Cx.blk, cx_K]
  walk_at "go"
  rw [sumV_len]
  refine r_rngL ?_
  refine for_rng (fun j σ H' => Ex H H' ∧ (∀ r i i' : Nat, r < 1 + j → i + r ≤ n → i' + r ≤ n → S (i + r) - S i ≤ S (i' + r) - S i' + 1) ∧ ∃ o1 o2 o3 : Option V, σ = [some (.ref p), o1, o2, o3]) ⟨Ex.refl, ?_, _, _, _, rfl⟩ ?_ ?_
  · intro r i i' hr _ _
    obtain rfl : r = 0 := by omega
    rw [Nat.add_zero, Nat.add_zero]
    omega
  · rintro j σ H1 hj ⟨e1, bal, o1, o2, o3, rfl⟩
    have hj' : j < n := by omega
    have hp1 := e1.at hp
    obtain ⟨N, hN⟩ : ∃ N : Nat, N = n - j := ⟨_, rfl⟩
    walk_at "go"
    rw [sumV_len]
    rw [show ((n + 1 : Nat) : Int) - (1 + (j : Int)) = (N : Int) by omega]
    refine r_rng1 (by omega) (by omega) ?_
    rw [Int.toNat_natCast]
    refine lc_rngP (fun k => .int (S (k + (1 + j)) - S k)) (by omega) (fun _ => rfl) (fun k hk G eG QE kE => ?_) (fun p2 H2 n2 e2 h2 => ?_)
    · walk_at "go"
      refine r_ixL (SqL.of (eG.at hp1)) (sumV_at (k := k + (1 + j)) (by omega) (by omega)) ?_
      walk_at "go"
      refine r_ixL (SqL.of (eG.at hp1)) (sumV_at (k := k) (by omega) (by omega)) ?_
      walk_at "go"
      exact kE _ Ex.refl
    have x2 := e1.trans e2
    generalize hf : (fun k : Nat => S (k + (1 + j)) - S k) = f at *
    have hfk : ∀ k, f k = S (k + (1 + j)) - S k := fun k => by rw [← hf]
    have h2 : H2 p2 = some (.lst (((List.range N).map f).map V.int)) := by
      rw [h2, ← cnts_map]
      rw [← hf]
    have lN : ((List.range N).map f).length = N := by rw [List.length_map, List.length_range]
    walk_at "go"
    refine ⟨p2, _, rfl, SqL.of h2, by rw [lN]; omega, fun mx mem all => ?_⟩
    walk_at "go"
    refine ⟨p2, _, rfl, SqL.of h2, by rw [lN]; omega, fun mn mem' all' => ?_⟩
    walk_at "go"
    refine if_2 (fun h0 => ?_) (fun h0 => ?_)
    · have h0 := of_decide_eq_true h0
      walk_at "go"
      refine ⟨p2, _, rfl, SqL.of h2, by rw [lN]; omega, fun mx2 mem2 all2 => ?_⟩
      obtain ⟨i1, hi1, ei1, no1⟩ := first_idx (mem_cnt mem2)
      walk_at "go"
      refine r_idx (SqL.of h2) hi1 ei1 no1 ?_
      walk_at "go"
      refine ⟨p2, _, rfl, SqL.of h2, by rw [lN]; omega, fun mn2 mem3 all3 => ?_⟩
      obtain ⟨i2, hi2, ei2, no2⟩ := first_idx (mem_cnt mem3)
      walk_at "go"
      refine r_idx (SqL.of h2) hi2 ei2 no2 ?_
      walk_at "go"
      rename_i t H3 n3 e3 h3
      have c1 := all2 mx mem
      have c2 := all3 mn mem'
      rw [hfk] at ei1 ei2
      refine q2 i1 i2 (1 + j) t H3 (by omega) (by omega) (by omega) (by omega) (x2.trans e3) ?_
      rw [h3]
      have : (1 + (j : Int)) = ((1 + j : Nat) : Int) := by omega
      rw [this]
    · have h0 := of_decide_eq_false h0
      walk_at "go"
      refine ⟨x2, fun r i i' hr hi hi' => ?_, _, _, _, rfl⟩
      by_cases z : r < 1 + j
      · exact bal r i i' z hi hi'
      · obtain rfl : r = 1 + j := by omega
        have c1 := all _ (List.mem_map.mpr ⟨i, List.mem_range.mpr (by omega), rfl⟩)
        have c2 := all' _ (List.mem_map.mpr ⟨i', List.mem_range.mpr (by omega), rfl⟩)
        rw [hfk] at c1 c2
        omega
  · rintro σ H1 ⟨e1, bal, o1, o2, o3, rfl⟩
    walk_at "go"
    exact q1 (fun r i i' h1 h2 => bal r i i' (by omega) h1 h2) _ e1

end
structure LessJ (S : Nat → Int) (n J : Nat) (l0 l1 : Int) : Prop where
  pos : 1 ≤ l1
  le : l1 ≤ max n 1
  up : ∀ p i : Nat, 1 ≤ p → p ≤ J → i + p ≤ n → (S (i + p) - S i - 1) * l1 ≤ l0 * p
  at_ : (l0 = -1 ∧ l1 = 1) ∨ ∃ p i : Nat, 1 ≤ p ∧ i + p ≤ n ∧ l1 = p ∧ l0 = S (i + p) - S i - 1
structure MoreJ (S : Nat → Int) (n J : Nat) (r0 r1 : Int) : Prop where
  pos : 1 ≤ r1
  le : r1 ≤ max n 1
  dn : ∀ p i : Nat, 1 ≤ p → p ≤ J → i + p ≤ n → r0 * p ≤ (S (i + p) - S i + 1) * r1
  at_ : (r0 = 2 ∧ r1 = 1) ∨ ∃ p i : Nat, 1 ≤ p ∧ i + p ≤ n ∧ r1 = p ∧ r0 = S (i + p) - S i + 1
theorem LessJ.keep {S : Nat → Int} {n J : Nat} {l0 l1 : Int} (L : LessJ S n J l0 l1) (h : ∀ i, i + (1 + J) ≤ n → (S (i + (1 + J)) - S i - 1) * l1 ≤ l0 * ((1 + J : Nat) : Int)) : LessJ S n (J + 1) l0 l1 :=
  ⟨L.pos, L.le, fun p i h1 h2 h3 => by
    by_cases z : p ≤ J
    · exact L.up p i h1 z h3
    · obtain rfl : p = 1 + J := by omega
      exact h i h3, L.at_⟩
theorem LessJ.new {S : Nat → Int} {n J : Nat} {l0 l1 : Int} (L : LessJ S n J l0 l1) {c : Int} {i0 : Nat} (hi : i0 + (1 + J) ≤ n) (hc : c = S (i0 + (1 + J)) - S i0) (mx : ∀ i, i + (1 + J) ≤ n → S (i + (1 + J)) - S i ≤ c) (g : l0 * ((1 + J : Nat) : Int) < (c - 1) * l1) : LessJ S n (J + 1) (c - 1) ((1 + J : Nat) : Int) := by
  refine ⟨by omega, by omega, fun p i h1 h2 h3 => ?_, .inr ⟨1 + J, i0, by omega, hi, rfl, by omega⟩⟩
  by_cases z : p ≤ J
  · have u := L.up p i h1 z h3
    have lp := L.pos
    have y0 : (0 : Int) ≤ ((1 + J : Nat) : Int) := by omega
    generalize S (i + p) - S i - 1 = x at *
    generalize ((1 + J : Nat) : Int) = y at *
    have p0 : (0 : Int) < p := by omega
    have s1 : x * l1 * y ≤ l0 * p * y := Int.mul_le_mul_of_nonneg_right u y0
    have s2 : l0 * y * p < (c - 1) * l1 * p := Int.mul_lt_mul_of_pos_right g p0
    have s3 : (x * y) * l1 < ((c - 1) * p) * l1 := by grind
    exact Int.le_of_lt (Int.lt_of_mul_lt_mul_right s3 (by omega))
  · obtain rfl : p = 1 + J := by omega
    have := mx i h3
    exact Int.mul_le_mul_of_nonneg_right (by omega) (by omega)
theorem MoreJ.keep {S : Nat → Int} {n J : Nat} {r0 r1 : Int} (L : MoreJ S n J r0 r1) (h : ∀ i, i + (1 + J) ≤ n → r0 * ((1 + J : Nat) : Int) ≤ (S (i + (1 + J)) - S i + 1) * r1) : MoreJ S n (J + 1) r0 r1 :=
  ⟨L.pos, L.le, fun p i h1 h2 h3 => by
    by_cases z : p ≤ J
    · exact L.dn p i h1 z h3
    · obtain rfl : p = 1 + J := by omega
      exact h i h3, L.at_⟩
theorem MoreJ.new {S : Nat → Int} {n J : Nat} {r0 r1 : Int} (L : MoreJ S n J r0 r1) {c : Int} {i0 : Nat} (hi : i0 + (1 + J) ≤ n) (hc : c = S (i0 + (1 + J)) - S i0) (mn : ∀ i, i + (1 + J) ≤ n → c ≤ S (i + (1 + J)) - S i) (g : (c + 1) * r1 < r0 * ((1 + J : Nat) : Int)) : MoreJ S n (J + 1) (c + 1) ((1 + J : Nat) : Int) := by
  refine ⟨by omega, by omega, fun p i h1 h2 h3 => ?_, .inr ⟨1 + J, i0, by omega, hi, rfl, by omega⟩⟩
  have y0 : (0 : Int) ≤ ((1 + J : Nat) : Int) := by omega
  by_cases z : p ≤ J
  · have u := L.dn p i h1 z h3
    have lp := L.pos
    generalize S (i + p) - S i + 1 = x at *
    generalize ((1 + J : Nat) : Int) = y at *
    have p0 : (0 : Int) < p := by omega
    have s1 : r0 * p * y ≤ x * r1 * y := Int.mul_le_mul_of_nonneg_right u y0
    have s2 : (c + 1) * r1 * p < r0 * y * p := Int.mul_lt_mul_of_pos_right g p0
    have s3 : ((c + 1) * p) * r1 < (x * y) * r1 := by grind
    exact Int.le_of_lt (Int.lt_of_mul_lt_mul_right s3 (by omega))
  · obtain rfl : p = 1 + J := by omega
    have := mn i h3
    exact Int.mul_le_mul_of_nonneg_right (by omega) (by omega)
def sp_slopes_around (_ : PySem.W.Frag) : Sp := fun vs H Q _ => ∃ (p : Addr) (S : Nat → Int) (n : Nat), vs = [.ref p] ∧ H p = some (.lst (sumV S n)) ∧ n ≤ 300 ∧ (∀ k, k ≤ n → 0 ≤ S k ∧ S k ≤ 1000) ∧
  ∀ t u v l0 l1 r0 r1 H', LessS S n l0 l1 → MoreS S n r0 r1 → Ex H H' → H' u = some (.tup [.int l0, .int l1]) → H' v = some (.tup [.int r0, .int r1]) → H' t = some (.tup [.ref u, .ref v]) → Q (.ref t) H'
theorem use_slopes_around {K : PySem.W.Frag} {H : Hp} {Q : VK} {E : XK} {p : Addr} {S : Nat → Int} {n : Nat} (hp : H p = some (.lst (sumV S n))) (hn : n ≤ 300) (bd : ∀ k, k ≤ n → 0 ≤ S k ∧ S k ≤ 1000)
  (q : ∀ t u v l0 l1 r0 r1 H', LessS S n l0 l1 → MoreS S n r0 r1 → Ex H H' → H' u = some (.tup [.int l0, .int l1]) → H' v = some (.tup [.int r0, .int r1]) → H' t = some (.tup [.ref u, .ref v]) → Q (.ref t) H') : sp_slopes_around K [.ref p] H Q E := ⟨p, S, n, rfl, hp, hn, bd, q⟩
theorem mem_cnt' {f : Nat → Int} {N : Nat} {x : Int} (h : x ∈ (List.range N).map f) : ∃ j, j < N ∧ f j = x := by
  obtain ⟨j, hj, e⟩ := List.mem_map.mp h
  exact ⟨j, List.mem_range.mp hj, e⟩
abbrev s_slopes_around : Stmt := topS 8
abbrev nm_slopes_around : List Str := ["sums", "less", "more", "many", "counts", "k"]
theorem sc_slopes_around : FnScope nm_slopes_around ["sums"] (defScope s_slopes_around) := ⟨rfl, rfl, rfl, by decide +kernel, rfl, by decide +kernel, by decide +kernel⟩
theorem st_slopes_around {v0 : V} : start nm_slopes_around [v0] = [some v0, none, none, none, none, none] := rfl
section
variable {P : Program} {w : World} {K : PySem.W.Frag} {mg : Str → Option Value} {base : Heap}
theorem ok_slopes_around (D : DefAt K mg "slopes_around" s_slopes_around ["sums"]) (B_range : mg "range" = none) (B_len : mg "len" = none) (B_max : mg "max" = none) (B_min : mg "min" = none) : Has P w K mg base CX0 2 "slopes_around" ["sums"] (sp_slopes_around K) := by
  refine D.ok sc_slopes_around (by rintro _ _ _ _ ⟨_, _, _, rfl, _⟩; rfl) (fun f cdv A outer s H vs Q E hr h => ?_)
  obtain ⟨p, S, n, rfl, hp, hn, bd, q⟩ := h
  have hlen : ((sumV S n).length : Int) = n + 1 := by rw [sumV_len]; omega
  refine ⟨_, (pss_cons (ps_set (i := 1) sc_slopes_around.nd rfl (Or.inl rfl) (pe_tup (pa_cons (pe_op op_sub pe_int pe_int) (pa_cons pe_int pa_nil))))
      (pss_cons (ps_set (i := 2) sc_slopes_around.nd rfl (Or.inl rfl) (pe_tup (pa_cons pe_int (pa_cons pe_int pa_nil))))
      (pss_cons (ps_for PassesOwn.never rfl (pi_rng2 rfl B_range (pa_cons pe_int (pa_cons (pe_callB cl_len (by rfl) B_len (by decide +kernel) (pa_cons (pv 0) pa_nil)) pa_nil))) (pg_name (i := 3) sc_slopes_around.nd rfl (Or.inr rfl))
        (pss_cons (ps_setLc (i := 4) rfl sc_slopes_around.nd rfl rfl (sw_true rfl rfl rfl (by decide +kernel)) (pi_range1 rfl B_range (pa_cons (pe_op op_sub (pe_callB cl_len (by rfl) B_len (by decide +kernel) (pa_cons (pv 0) pa_nil)) (pv 3)) pa_nil)) (blkOk_by (own := [("k", 5)]) (N := nm_slopes_around) (sc := defScope s_slopes_around) (by decide +kernel)) (fun _ _ _ _ _ => (pg_name (i := 5) sc_slopes_around.nd rfl (Or.inl rfl))) (fun _ _ _ _ _ => pts_nil) (fun _ _ _ _ _ => (pe_op op_sub (pe_ix (ix_listK (K := K)) (pv 0) (pe_op op_add (pv 5) (pv 3)) (fun _ _ => rfl)) (pe_ix (ix_listK (K := K)) (pv 0) (pv 5) (fun _ _ => rfl)))))
        (pcut (ps_if (pt_cmpR op_gt (pe_op op_mulX (pe_op op_sub (pe_callB (cr_max rfl) (by rfl) B_max (by decide +kernel) (pa_cons (pv 4) pa_nil)) pe_int) (pe_ix ix_tup (pv 1) pe_int (fun _ _ => rfl))) (pe_op op_mulX (pe_ix ix_tup (pv 1) pe_int (fun _ _ => rfl)) (pv 3)) (nomark _)) (pss_one (ps_set (i := 1) sc_slopes_around.nd rfl (Or.inl rfl) (pe_tup (pa_cons (pe_op op_sub (pe_callB (cr_max rfl) (by rfl) B_max (by decide +kernel) (pa_cons (pv 4) pa_nil)) pe_int) (pa_cons (pv 3) pa_nil))))) pss_nil)
        (pss_one (ps_if (pt_cmpR op_lt (pe_op op_mulX (pe_op op_add (pe_callB (cr_min rfl) (by rfl) B_min (by decide +kernel) (pa_cons (pv 4) pa_nil)) pe_int) (pe_ix ix_tup (pv 2) pe_int (fun _ _ => rfl))) (pe_op op_mulX (pe_ix ix_tup (pv 2) pe_int (fun _ _ => rfl)) (pv 3)) (nomark _)) (pss_one (ps_set (i := 2) sc_slopes_around.nd rfl (Or.inl rfl) (pe_tup (pa_cons (pe_op op_add (pe_callB (cr_min rfl) (by rfl) B_min (by decide +kernel) (pa_cons (pv 4) pa_nil)) pe_int) (pa_cons (pv 3) pa_nil))))) pss_nil)))))
      (pss_one (ps_ret (pe_tup (pa_cons (pv 1) (pa_cons (pv 2) pa_nil)))))))), ?_⟩
  rw [st_slopes_around]
  try dsimp only [Cx.nox, Cx.wish, Cx.blk, cx_K]
  walk_at "go"
  rename_i u H1 n1 e1 h1 v H2 n2 e2 h2
  have h1 := e2.at h1
  have x2 := e1.trans e2
  rw [sumV_len]
  refine r_rngL ?_
  refine for_rng (fun j σ H' => Ex H H' ∧ ∃ (u v : Addr) (l0 l1 r0 r1 : Int) (o3 o4 o5 : Option V), σ = [some (.ref p), some (.ref u), some (.ref v), o3, o4, o5] ∧ H' u = some (.tup [.int l0, .int l1]) ∧ H' v = some (.tup [.int r0, .int r1]) ∧ LessJ S n j l0 l1 ∧ MoreJ S n j r0 r1) ⟨x2, u, v, _, _, _, _, _, _, _, rfl, h1, h2, ⟨by decide, by omega, fun p i a b => by omega, .inl ⟨rfl, rfl⟩⟩, ⟨by decide, by omega, fun p i a b => by omega, .inl ⟨rfl, rfl⟩⟩⟩ ?_ ?_
  · clear h1 h2 x2 e1 e2 n1 n2
    rintro j σ H1 hj ⟨e1, u, v, l0, l1, r0, r1, o3, o4, o5, rfl, hu, hv, L, M⟩
    have hj' : j < n := by omega
    have hp1 := e1.at hp
    obtain ⟨N, hN⟩ : ∃ N : Nat, N = n - j := ⟨_, rfl⟩
    walk_at "go"
    rw [sumV_len]
    rw [show ((n + 1 : Nat) : Int) - (1 + (j : Int)) = (N : Int) by omega]
    refine r_rng1 (by omega) (by omega) ?_
    rw [Int.toNat_natCast]
    refine lc_rngP (fun k => .int (S (k + (1 + j)) - S k)) (by omega) (fun _ => rfl) (fun k hk G eG QE kE => ?_) (fun p2 H2 n2 e2 h2 => ?_)
    · walk_at "go"
      refine r_ixL (SqL.of (eG.at hp1)) (sumV_at (k := k + (1 + j)) (by omega) (by omega)) ?_
      walk_at "go"
      refine r_ixL (SqL.of (eG.at hp1)) (sumV_at (k := k) (by omega) (by omega)) ?_
      walk_at "go"
      exact kE _ Ex.refl
    have x2 := e1.trans e2
    have hu := e2.at hu
    have hv := e2.at hv
    have cb : ∀ k, k < N → -1000 ≤ S (k + (1 + j)) - S k ∧ S (k + (1 + j)) - S k ≤ 1000 := fun k hk => by
      have := bd (k + (1 + j)) (by omega)
      have := bd k (by omega)
      omega
    generalize hf : (fun k : Nat => S (k + (1 + j)) - S k) = f at *
    have hfk : ∀ k, f k = S (k + (1 + j)) - S k := fun k => by rw [← hf]
    have h2 : H2 p2 = some (.lst (((List.range N).map f).map V.int)) := by
      rw [h2, ← cnts_map]
      rw [← hf]
    have lN : ((List.range N).map f).length = N := by rw [List.length_map, List.length_range]
    have lp := L.pos
    have ll := L.le
    have rp := M.pos
    have rl := M.le
    have cn : ∀ p i : Nat, i + p ≤ n → -1000 ≤ S (i + p) - S i ∧ S (i + p) - S i ≤ 1000 := fun p i hi => by
      have := bd (i + p) hi
      have := bd i (by omega)
      omega
    have zl1 : Sz 200 l1 := Sz.small (by omega)
    have zr1 : Sz 200 r1 := Sz.small (by omega)
    have zl0 : Sz 200 l0 := by
      rcases L.at_ with ⟨rfl, _⟩ | ⟨p, i, _, hi, _, rfl⟩
      · exact Sz.small (by decide)
      · have := cn p i hi
        exact Sz.small (by omega)
    have zr0 : Sz 200 r0 := by
      rcases M.at_ with ⟨rfl, _⟩ | ⟨p, i, _, hi, _, rfl⟩
      · exact Sz.small (by decide)
      · have := cn p i hi
        exact Sz.small (by omega)
    have zj : Sz 200 (1 + (j : Int)) := Sz.small (by omega)
    walk_at "go"
    refine r_cut (fun σ' H' => Ex H H' ∧ H' p2 = some (.lst (((List.range N).map f).map V.int)) ∧ ∃ (u : Addr) (l0 l1 : Int) (o5 : Option V), σ' = [some (.ref p), some (.ref u), some (.ref v), some (.int (1 + j)), some (.ref p2), o5] ∧ H' u = some (.tup [.int l0, .int l1]) ∧ H' v = some (.tup [.int r0, .int r1]) ∧ LessJ S n (j + 1) l0 l1) ?_ ?_
    · walk_at "go"
      refine ⟨p2, _, rfl, SqL.of h2, by rw [lN]; omega, fun mx mem all => ?_⟩
      obtain ⟨i1, hi1, ei1⟩ := mem_cnt' mem
      have all1 : ∀ i, i + (1 + j) ≤ n → S (i + (1 + j)) - S i ≤ mx := fun i hi => by
        have := all _ (List.mem_map.mpr ⟨i, List.mem_range.mpr (by omega), rfl⟩)
        rw [hfk] at this
        exact this
      have zm : Sz 200 (mx - 1) := Sz.small (by
        have := cb i1 hi1
        rw [hfk] at ei1
        omega)
      rw [hfk] at ei1
      walk_at "go"
      refine if_2 (fun h0 => ?_) (fun h0 => ?_)
      · have h0 := of_decide_eq_true h0
        walk_at "go"
        refine ⟨p2, _, rfl, SqL.of h2, by rw [lN]; omega, fun mx2 mem2 all2 => ?_⟩
        have e12 : mx2 = mx := by
          have c1 := all2 mx mem
          have c2 := all mx2 mem2
          omega
        subst e12
        walk_at "go"
        rename_i t H3 n3 e3 h3
        have h3 : H3 t = some (.tup [.int (mx2 - 1), .int ((1 + j : Nat) : Int)]) := by
          rw [h3, show (1 + (j : Int)) = ((1 + j : Nat) : Int) by omega]
        exact ⟨x2.trans e3, e3.at h2, _, _, _, _, rfl, h3, e3.at hv, L.new (by omega) ei1.symm all1 (by rw [show ((1 + j : Nat) : Int) = 1 + (j : Int) by omega]; exact h0)⟩
      · have h0 := of_decide_eq_false h0
        walk_at "go"
        refine ⟨x2, h2, _, _, _, _, rfl, hu, hv, L.keep fun i hi => ?_⟩
        have a1 := all1 i hi
        have s1 : (S (i + (1 + j)) - S i - 1) * l1 ≤ (mx - 1) * l1 := Int.mul_le_mul_of_nonneg_right (by omega) (by omega)
        rw [show ((1 + j : Nat) : Int) = 1 + (j : Int) by omega]
        omega
    · clear hu L zl0 zl1 lp ll x2
      rintro σ' H3 ⟨x3, h3, u, l0, l1, o5, rfl, hu, hv, L⟩
      walk_at "go"
      refine ⟨p2, _, rfl, SqL.of h3, by rw [lN]; omega, fun mn mem all => ?_⟩
      obtain ⟨i1, hi1, ei1⟩ := mem_cnt' mem
      have all1 : ∀ i, i + (1 + j) ≤ n → mn ≤ S (i + (1 + j)) - S i := fun i hi => by
        have := all _ (List.mem_map.mpr ⟨i, List.mem_range.mpr (by omega), rfl⟩)
        rw [hfk] at this
        exact this
      have zm : Sz 200 (mn + 1) := Sz.small (by
        have := cb i1 hi1
        rw [hfk] at ei1
        omega)
      rw [hfk] at ei1
      walk_at "go"
      refine if_2 (fun h0 => ?_) (fun h0 => ?_)
      · have h0 := of_decide_eq_true h0
        walk_at "go"
        refine ⟨p2, _, rfl, SqL.of h3, by rw [lN]; omega, fun mn2 mem2 all2 => ?_⟩
        have e12 : mn2 = mn := by
          have c1 := all2 mn mem
          have c2 := all mn2 mem2
          omega
        subst e12
        walk_at "go"
        rename_i t H4 n4 e4 h4
        have h4 : H4 t = some (.tup [.int (mn2 + 1), .int ((1 + j : Nat) : Int)]) := by
          rw [h4, show (1 + (j : Int)) = ((1 + j : Nat) : Int) by omega]
        exact ⟨x3.trans e4, _, _, _, _, _, _, _, _, _, rfl, e4.at hu, h4, L, M.new (by omega) ei1.symm all1 (by rw [show ((1 + j : Nat) : Int) = 1 + (j : Int) by omega]; exact h0)⟩
      · have h0 := of_decide_eq_false h0
        walk_at "go"
        refine ⟨x3, _, _, _, _, _, _, _, _, _, rfl, hu, hv, L, M.keep fun i hi => ?_⟩
        have a1 := all1 i hi
        have s1 : (mn + 1) * r1 ≤ (S (i + (1 + j)) - S i + 1) * r1 := Int.mul_le_mul_of_nonneg_right (by omega) (by omega)
        rw [show ((1 + j : Nat) : Int) = 1 + (j : Int) by omega]
        omega
  · clear h1 h2 x2 e1 e2 n1 n2
    rintro σ H1 ⟨e1, u, v, l0, l1, r0, r1, o3, o4, o5, rfl, hu, hv, L, M⟩
    walk_at "go"
    rename_i t H3 n3 e3 h3
    exact q _ _ _ _ _ _ _ _ ⟨L.pos, L.le, fun p i h1 h2 => L.up p i h1 (by omega) h2, L.at_⟩ ⟨M.pos, M.le, fun p i h1 h2 => M.dn p i h1 (by omega) h2, M.at_⟩ (e1.trans e3) (e3.at hu) (e3.at hv) h3

end
def sp_stair_of (_ : PySem.W.Frag) : Sp := fun vs H Q _ => ∃ l : List Nat, vs = [.str (SX.S l)] ∧ l.length ≤ 200 ∧ lhT l ∧
  (∀ t s a b m H', BalS (hS l) l.length → StF l a b m → Ex H H' → H' s = some (.tup [.int a, .int b, .int m]) → H' t = some (.tup [.str "stair", .ref s]) → Q (.ref t) H') ∧
  ∀ (i j r : Nat) t H', 1 ≤ r → i + r ≤ l.length → j + r ≤ l.length → hS l (j + r) - hS l j + 1 < hS l (i + r) - hS l i → Ex H H' → H' t = some (.tup [.str "pieces", .int i, .int j, .int r]) → Q (.ref t) H'
theorem use_stair_of {K : PySem.W.Frag} {H : Hp} {Q : VK} {E : XK} {l : List Nat} (n : l.length ≤ 200) (ok : lhT l)
  (q1 : ∀ t s a b m H', BalS (hS l) l.length → StF l a b m → Ex H H' → H' s = some (.tup [.int a, .int b, .int m]) → H' t = some (.tup [.str "stair", .ref s]) → Q (.ref t) H')
  (q2 : ∀ (i j r : Nat) t H', 1 ≤ r → i + r ≤ l.length → j + r ≤ l.length → hS l (j + r) - hS l j + 1 < hS l (i + r) - hS l i → Ex H H' → H' t = some (.tup [.str "pieces", .int i, .int j, .int r]) → Q (.ref t) H') : sp_stair_of K [.str (SX.S l)] H Q E := ⟨l, rfl, n, ok, q1, q2⟩
abbrev s_stair_of : Stmt := topS 9
abbrev nm_stair_of : List Str := ["text", "sums", "pieces", "less", "more", "m", "a", "k", "there"]
theorem sc_stair_of : FnScope nm_stair_of ["text"] (defScope s_stair_of) := ⟨rfl, rfl, rfl, by decide +kernel, rfl, by decide +kernel, by decide +kernel⟩
theorem st_stair_of {v0 : V} : start nm_stair_of [v0] = [some v0, none, none, none, none, none, none, none, none] := rfl
section
variable {P : Program} {w : World} {K : PySem.W.Frag} {mg : Str → Option Value} {base : Heap}
theorem ok_stair_of (D : DefAt K mg "stair_of" s_stair_of ["text"]) (B_max : mg "max" = none) (B_enumerate : mg "enumerate" = none) (G_need_steps : Has P w K mg base CX0 2 "need_steps" ["text"] (sp_need_steps K)) (G_sums_in : Has P w K mg base CX0 2 "sums_in" ["text"] (sp_sums_in K)) (G_unlike_pieces : Has P w K mg base CX0 2 "unlike_pieces" ["sums"] (sp_unlike_pieces K)) (G_slopes_around : Has P w K mg base CX0 2 "slopes_around" ["sums"] (sp_slopes_around K)) : Has P w K mg base CX0 3 "stair_of" ["text"] (sp_stair_of K) := by
  refine D.ok sc_stair_of (by rintro _ _ _ _ ⟨_, rfl, _⟩; rfl) (fun f cdv A outer s H vs Q E hr h => ?_)
  obtain ⟨l, rfl, n, ok, q1, q2⟩ := h
  refine ⟨_, (pss_cons (ps_expr (pcall G_need_steps (hr.mono (by decide)) (pa_cons (pv 0) pa_nil)))
      (pss_cons (ps_set (i := 1) sc_stair_of.nd rfl (Or.inl rfl) (pcall G_sums_in (hr.mono (by decide)) (pa_cons (pv 0) pa_nil)))
      (pss_cons (ps_set (i := 2) sc_stair_of.nd rfl (Or.inl rfl) (pcall G_unlike_pieces (hr.mono (by decide)) (pa_cons (pv 1) pa_nil)))
      (pss_cons (ps_if (pt_cmpR op_notNn (pv 2) pe_non (nomark _)) (pss_one (ps_ret (pe_op op_catA (pe_tup (pa_cons pe_str pa_nil)) (pv 2)))) pss_nil)
      (pss_cons (ps_asg (pcall G_slopes_around (hr.mono (by decide)) (pa_cons (pv 1) pa_nil)) (pg_tup (by rfl) (pgs_cons (pg_name (i := 3) sc_stair_of.nd rfl (Or.inl rfl)) (pgs_cons (pg_name (i := 4) sc_stair_of.nd rfl (Or.inl rfl)) pgs_nil))))
      (pss_cons (ps_set (i := 5) sc_stair_of.nd rfl (Or.inr rfl) pe_int)
      (pss_cons (ps_set (i := 6) sc_stair_of.nd rfl (Or.inr rfl) pe_int)
      (pss_cons (ps_while PassesOwn.never (PW.pt (pw_or (pt_cmpR op_le (pe_op op_mulX (pv 6) (pe_ix ix_tup (pv 3) pe_int (fun _ _ => rfl))) (pe_op op_mulX (pe_ix ix_tup (pv 3) pe_int (fun _ _ => rfl)) (pv 5)) (nomark _)) (pw_or1 (pt_cmpR op_ge (pe_op op_mulX (pv 6) (pe_ix ix_tup (pv 4) pe_int (fun _ _ => rfl))) (pe_op op_mulX (pe_ix ix_tup (pv 4) pe_int (fun _ _ => rfl)) (pv 5)) (nomark _))))) (pss_cons (ps_aug (i := 6) sc_stair_of.nd rfl (Or.inr rfl) pe_int ip_add)
        (pss_one (ps_if (pt_cmpR op_gt (pv 6) (pv 5) (nomark _)) (pss_cons (ps_aug (i := 5) sc_stair_of.nd rfl (Or.inr rfl) pe_int ip_add)
          (pss_one (ps_set (i := 6) sc_stair_of.nd rfl (Or.inr rfl) pe_int))) pss_nil))))
      (pss_one (ps_ret (pe_tup (pa_cons pe_str (pa_cons (pe_tup (pa_cons (pv 6) (pa_cons (pe_callB (cr_max rfl) (by rfl) B_max (by decide +kernel) (pa_cons (pe_lc rfl sc_stair_of.nd (pi_enum (by rfl) B_enumerate (pa_cons (pv 1) pa_nil)) (blkOk_by (own := [("k", 7), ("there", 8)]) (N := nm_stair_of) (sc := defScope s_stair_of) (by decide +kernel)) (fun _ _ _ _ _ => (pg_tupK (K := K) (n := 2) (by rfl) (pgs_cons (pg_name (i := 7) sc_stair_of.nd rfl (Or.inl rfl)) (pgs_cons (pg_name (i := 8) sc_stair_of.nd rfl (Or.inl rfl)) pgs_nil)))) (fun _ _ _ _ _ => pts_nil) (fun _ _ _ _ _ => (pe_op op_sub (pe_op op_mulX (pv 5) (pv 8)) (pe_op op_mulX (pv 6) (pv 7))))) pa_nil)) (pa_cons (pv 5) pa_nil)))) pa_nil))))))))))))), ?_⟩
  rw [st_stair_of]
  try dsimp only [Cx.nox, Cx.wish, Cx.blk, cx_K]
  walk_at "go"
  refine use_need_steps n ok fun H1 e1 => ?_
  walk_at "go"
  refine use_sums_in (by omega) fun p H2 n2 e2 h2 => ?_
  have x2 := e1.trans e2
  clear e1 e2
  walk_at "go"
  refine use_unlike_pieces h2 (by omega) (fun B H3 e3 => ?_) (fun i j r t H3 r0 hi hj hlt e3 ht => ?_)
  · have h3 := e3.at h2
    have x3 := x2.trans e3
    clear x2 h2 e3
    walk_at "go"
    refine use_slopes_around h3 (by omega) (fun k hk => by have := hS_bd l k; omega) fun t u v l0 l1 r0 r1 H4 L M e4 hu hv ht => ?_
    have h4 := e4.at h3
    have x4 := x3.trans e4
    clear x3 h3 e4
    obtain ⟨A, MM, A0, AM, M1, M2, f1, f2⟩ := mediant B (hS_st l) L M
    have zl1 : Sz 200 l1 := Sz.small (by have := L.pos; have := L.le; omega)
    have zr1 : Sz 200 r1 := Sz.small (by have := M.pos; have := M.le; omega)
    have zl0 : Sz 200 l0 := by
      rcases L.at_ with ⟨rfl, _⟩ | ⟨p, i, _, hi, _, rfl⟩
      · exact Sz.small (by decide)
      · have := hS_bd l (i + p)
        have := hS_bd l i
        exact Sz.small (by omega)
    have zr0 : Sz 200 r0 := by
      rcases M.at_ with ⟨rfl, _⟩ | ⟨p, i, _, hi, _, rfl⟩
      · exact Sz.small (by decide)
      · have := hS_bd l (i + p)
        have := hS_bd l i
        exact Sz.small (by omega)
    have fitA := fit_of L M (by omega) f1 f2
    walk_at "go"
    refine while_m (fun μ σ H' => H' = H4 ∧ ∃ (a m : Int), σ = [some (.str (SX.S l)), some (.ref p), some .non, some (.ref u), some (.ref v), some (.int m), some (.int a), none, none] ∧ 1 ≤ m ∧ 0 ≤ a ∧ a ≤ m ∧ (m < MM ∨ (m = MM ∧ a ≤ A)) ∧ μ = ((MM - m) * 1000 + (A - a) + 1000).toNat ∧
      ∀ a' m' : Int, 1 ≤ m' → 0 ≤ a' → a' ≤ m' → (m' < m ∨ (m' = m ∧ a' < a)) → ¬ FitS (hS l) l.length a' m') ((MM - 1) * 1000 + (A - 0) + 1000).toNat ⟨rfl, 0, 1, rfl, by decide, by decide, by decide, by omega, rfl, fun a' m' h1 h2 h3 h4 => by omega⟩ ?_
    rintro μ σ H' ⟨rfl, a, m, rfl, m0, a0, am, le, rfl, no⟩
    have za : Sz 200 a := Sz.small (by omega)
    have zm : Sz 200 m := Sz.small (by omega)
    walk_at "go"
    refine if_2 (fun h0 => ?_) (fun h0 => ?_)
    · have h0 := of_decide_eq_true h0
      walk_at "go"
      refine ⟨_, fun _ _ h => h, ?_⟩
      walk_at "go"
      have nf : ¬ FitS (hS l) l.length a m := fun F => by
        have := fit_less L (by omega) a0 F
        omega
      have lt : m < MM ∨ (m = MM ∧ a < A) := by
        rcases le with h | ⟨h1, h2⟩
        · exact .inl h
        · refine .inr ⟨h1, ?_⟩
          rcases Int.lt_or_le a A with h | h
          · exact h
          · obtain rfl : a = A := by omega
            subst h1
            exact (nf fitA).elim
      refine if_2 (fun h5 => ?_) (fun h5 => ?_)
      · have h5 := of_decide_eq_true h5
        walk_at "go"
        refine ⟨_, ?_, rfl, 0, m + 1, rfl, by omega, by omega, by omega, by omega, rfl, fun a' m' g1 g2 g3 g4 => ?_⟩
        · omega
        · rcases g4 with g4 | ⟨g4, g5⟩
          · by_cases z : m' < m ∨ (m' = m ∧ a' < a)
            · exact no a' m' g1 g2 g3 z
            · obtain rfl : m' = m := by omega
              obtain rfl : a' = a := by omega
              exact nf
          · omega
      · have h5 := of_decide_eq_false h5
        walk_at "go"
        refine ⟨_, ?_, rfl, a + 1, m, rfl, by omega, by omega, by omega, by omega, rfl, fun a' m' g1 g2 g3 g4 => ?_⟩
        · omega
        · by_cases z : m' < m ∨ (m' = m ∧ a' < a)
          · exact no a' m' g1 g2 g3 z
          · obtain rfl : m' = m := by omega
            obtain rfl : a' = a := by omega
            exact nf
    have h0 := of_decide_eq_false h0
    walk_at "go"
    refine if_2 (fun h1 => ?_) (fun h1 => ?_)
    · have h1 := of_decide_eq_true h1
      walk_at "go"
      refine ⟨_, fun _ _ h => h, ?_⟩
      walk_at "go"
      have nf : ¬ FitS (hS l) l.length a m := fun F => by
        have := fit_more M (by omega) am F
        omega
      have lt : m < MM ∨ (m = MM ∧ a < A) := by
        rcases le with h | ⟨h1, h2⟩
        · exact .inl h
        · refine .inr ⟨h1, ?_⟩
          rcases Int.lt_or_le a A with h | h
          · exact h
          · obtain rfl : a = A := by omega
            subst h1
            exact (nf fitA).elim
      refine if_2 (fun h5 => ?_) (fun h5 => ?_)
      · have h5 := of_decide_eq_true h5
        walk_at "go"
        refine ⟨_, ?_, rfl, 0, m + 1, rfl, by omega, by omega, by omega, by omega, rfl, fun a' m' g1 g2 g3 g4 => ?_⟩
        · omega
        · rcases g4 with g4 | ⟨g4, g5⟩
          · by_cases z : m' < m ∨ (m' = m ∧ a' < a)
            · exact no a' m' g1 g2 g3 z
            · obtain rfl : m' = m := by omega
              obtain rfl : a' = a := by omega
              exact nf
          · omega
      · have h5 := of_decide_eq_false h5
        walk_at "go"
        refine ⟨_, ?_, rfl, a + 1, m, rfl, by omega, by omega, by omega, by omega, rfl, fun a' m' g1 g2 g3 g4 => ?_⟩
        · omega
        · by_cases z : m' < m ∨ (m' = m ∧ a' < a)
          · exact no a' m' g1 g2 g3 z
          · obtain rfl : m' = m := by omega
            obtain rfl : a' = a := by omega
            exact nf
    have h1 := of_decide_eq_false h1
    have F : FitS (hS l) l.length a m := fit_of L M (by omega) (by omega) (by omega)
    walk_at "go"
    refine r_iEnum ?_
    have h4i : H' p = some (.lst (((List.range (l.length + 1)).map (hS l)).map V.int)) := by
      rw [h4]
      unfold sumV
      rw [List.map_map]
      rfl
    walk_at "go"
    refine ⟨_, _, rfl, SqL.of h4i, ?_⟩
    refine lc_enumI (fun k => .int (m * hS l k - a * k)) (SqL.of h4i) (by rw [List.length_map, List.length_range]; omega) (fun _ _ => rfl) (fun k x hx G eG QE kE => ?_) (fun p5 H5 n5 e5 h5 => ?_)
    · have kl : k < l.length + 1 := by
        have := (List.getElem?_eq_some_iff.mp hx).1
        rw [List.length_map, List.length_range] at this
        exact this
      rw [List.getElem?_map, List.getElem?_range kl] at hx
      obtain rfl : hS l k = x := Option.some.inj hx
      have := hS_bd l k
      have zx : Sz 200 (hS l k) := Sz.small (by omega)
      have zk : Sz 200 (k : Int) := Sz.small (by omega)
      walk_at "go"
      exact kE _ Ex.refl
    · have h5 : H5 p5 = some (.lst (((List.range (l.length + 1)).map fun k : Nat => m * hS l k - a * k).map V.int)) := by
        rw [h5, List.length_map, List.length_range, cnts_map]
      walk_at "go"
      refine ⟨p5, (List.range (l.length + 1)).map fun k : Nat => m * hS l k - a * k, rfl, SqL.of h5, by rw [List.length_map, List.length_range]; omega, fun b mem all => ?_⟩
      obtain ⟨k, hk, ek⟩ := List.mem_map.mp mem
      have hk := List.mem_range.mp hk
      walk_at "go"
      rename_i s H6 n6 e6 h6 t H7 n7 e7 h7
      refine q1 _ _ a b m _ B ⟨m0, by omega, a0, am, F, fun k2 hk2 => all _ (List.mem_map.mpr ⟨k2, List.mem_range.mpr (by omega), rfl⟩), ⟨k, by omega, ek.symm⟩, fun a' m' g1 g2 g3 g4 => ?_⟩ (x4.trans (e5.trans (e6.trans e7))) (e7.at h6) h7
      by_cases z : m' < m ∨ (m' = m ∧ a' < a)
      · exact (no a' m' g1 g2 g3 z g4).elim
      · omega
  · walk_at "go"
    rename_i t4 H4 n4 e4 h4 t5 H5 n5 e5 h5
    exact q2 i j r _ _ r0 hi hj hlt ((x2.trans e3).trans (e4.trans e5)) h5

end
def sp_law_whole (_ : PySem.W.Frag) : Sp := fun vs H Q _ => ∃ v : V, vs = [v] ∧ Kd1 H v ∧ Q (.bl (isW v)) H
theorem use_law_whole {K : PySem.W.Frag} {H : Hp} {Q : VK} {E : XK} {i : Int} (k : Q (.bl true) H) : sp_law_whole K [.int i] H Q E := ⟨.int i, rfl, .inl ⟨i, rfl⟩, k⟩
theorem use_law_wholeV {K : PySem.W.Frag} {H : Hp} {Q : VK} {E : XK} {v : V} (h : Kd1 H v) (k : Q (.bl (isW v)) H) : sp_law_whole K [v] H Q E := ⟨v, rfl, h, k⟩
abbrev s_law_whole : Stmt := topS 16
abbrev nm_law_whole : List Str := ["thing"]
theorem sc_law_whole : FnScope nm_law_whole ["thing"] (defScope s_law_whole) := ⟨rfl, rfl, rfl, by decide +kernel, rfl, by decide +kernel, by decide +kernel⟩
theorem st_law_whole {v0 : V} : start nm_law_whole [v0] = [some v0] := rfl
section
variable {P : Program} {w : World} {K : PySem.W.Frag} {mg : Str → Option Value} {base : Heap}
theorem ok_law_whole (D : DefAt K mg "_law_whole" s_law_whole ["thing"]) (B_isinstance : mg "isinstance" = none) (B_int : mg "int" = none) (B_bool : mg "bool" = none) : Has P w K mg base CX0 2 "_law_whole" ["thing"] (sp_law_whole K) := by
  refine D.ok sc_law_whole (by rintro _ _ _ _ ⟨_, rfl, _⟩; rfl) (fun f cdv A outer s H vs Q E hr h => ?_)
  obtain ⟨v, rfl, h, k⟩ := h
  refine ⟨_, (pss_one (ps_ret (pe_and (pe_callB call_isi (by rfl) B_isinstance (by decide +kernel) (pa_cons (pv 0) (pa_cons (pe_bltn (v := .ty "int") (by rfl) B_int (by decide +kernel) rfl) pa_nil))) (pe_one (pe_not (pe_callB call_isi (by rfl) B_isinstance (by decide +kernel) (pa_cons (pv 0) (pa_cons (pe_bltn (v := .ty "bool") (by rfl) B_bool (by decide +kernel) rfl) pa_nil)))))))), ?_⟩
  rw [st_law_whole]
  try dsimp only [Cx.nox, Cx.wish, Cx.blk, cx_K]
  rcases h with ⟨i, rfl⟩ | ⟨b, rfl⟩ | rfl | ⟨z, rfl⟩ | ⟨p, xs, rfl, hp⟩ | ⟨p, xs, rfl, hp⟩
  · walk_at "go"
    exact k
  · walk_at "go"
    refine r_isi (.bl b) (b := true) (kit_ty (by decide +kernel)) ?_
    walk_at "go"
    exact k
  · walk_at "go"
    refine r_isi .non (b := false) (kit_ty (by decide +kernel)) ?_
    walk_at "go"
    exact k
  · walk_at "go"
    refine r_isi (.str z) (b := false) (kit_ty (by decide +kernel)) ?_
    walk_at "go"
    exact k
  · walk_at "go"
    refine r_isi (.lst hp) (b := false) (kit_ty (by decide +kernel)) ?_
    walk_at "go"
    exact k
  · walk_at "go"
    refine r_isi (.tup hp) (b := false) (kit_ty (by decide +kernel)) ?_
    walk_at "go"
    exact k

end
def sp_law_common (_ : PySem.W.Frag) : Sp := fun vs H Q _ => ∃ (x y : Int), vs = [.int x, .int y] ∧ Q (.int (Int.gcd x y : Int)) H
theorem use_law_common {K : PySem.W.Frag} {H : Hp} {Q : VK} {E : XK} {x y : Int} (q : Q (.int (Int.gcd x y : Int)) H) : sp_law_common K [.int x, .int y] H Q E := ⟨x, y, rfl, q⟩
abbrev s_law_common : Stmt := topS 17
abbrev nm_law_common : List Str := ["one", "other"]
theorem sc_law_common : FnScope nm_law_common ["one", "other"] (defScope s_law_common) := ⟨rfl, rfl, rfl, by decide +kernel, rfl, by decide +kernel, by decide +kernel⟩
theorem st_law_common {v0 v1 : V} : start nm_law_common [v0, v1] = [some v0, some v1] := rfl
section
variable {P : Program} {w : World} {K : PySem.W.Frag} {mg : Str → Option Value} {base : Heap}
theorem ok_law_common (D : DefAt K mg "_law_common" s_law_common ["one", "other"]) (B_abs : mg "abs" = none) : Has P w K mg base CX0 2 "_law_common" ["one", "other"] (sp_law_common K) := by
  refine D.ok sc_law_common (by rintro _ _ _ _ ⟨_, _, rfl, _⟩; rfl) (fun f cdv A outer s H vs Q E hr h => ?_)
  obtain ⟨x, y, rfl, q⟩ := h
  refine ⟨_, (pss_cons (ps_set (i := 0) sc_law_common.nd rfl (Or.inl rfl) (pe_callB cl_abs (by rfl) B_abs (by decide +kernel) (pa_cons (pv 0) pa_nil)))
      (pss_cons (ps_set (i := 1) sc_law_common.nd rfl (Or.inl rfl) (pe_callB cl_abs (by rfl) B_abs (by decide +kernel) (pa_cons (pv 1) pa_nil)))
      (pss_cons (ps_while PassesOwn.never (pt_cmpR op_gt (pv 1) pe_int (nomark _)) (pss_one (ps_par (i := 0) (j := 1) (by rfl) sc_law_common.nd rfl rfl (by decide) rfl rfl (pa_cons (pv 1) (pa_cons (pe_op op_mod (pv 0) (pv 1)) pa_nil)) (by rfl))))
      (pss_one (ps_ret (pv 0)))))), ?_⟩
  rw [st_law_common]
  try dsimp only [Cx.nox, Cx.wish, Cx.blk, cx_K]
  walk_at "go"
  refine while_m (fun μ σ H' => H' = H ∧ ∃ (u v : Nat), σ = [some (.int (u : Int)), some (.int (v : Int))] ∧ μ = v ∧ Nat.gcd u v = Int.gcd x y) y.natAbs ⟨rfl, x.natAbs, y.natAbs, rfl, rfl, rfl⟩ ?_
  rintro v σ H1 ⟨eH, u, v', rfl, rfl, e⟩
  walk_at "go"
  refine if_2 (fun hx => ?_) (fun hx => ?_)
  · have hx := of_decide_eq_true hx
    refine r_body (fun σ H' => H' = H ∧ σ = [some (.int (v : Int)), some (.int ((u % v : Nat) : Int))]) ?_ ?_
    · rintro σ H2 ⟨e2, rfl⟩
      exact ⟨u % v, Nat.mod_lt _ (by omega), e2, v, u % v, rfl, rfl, by rw [gcd_step, e]⟩
    walk_at "go"
    exact ⟨eH, rfl⟩
  · have hx := of_decide_eq_false hx
    walk_at "go"
    have ev : v = 0 := by omega
    subst ev
    rw [Nat.gcd_zero_right] at e
    rw [e, eH]
    exact q

end
def sp_law_first (_ : PySem.W.Frag) : Sp := fun vs H Q _ => ∃ (l : List Nat) (a b m : Int), vs = [.str (SX.S l), .int 13] ∧ l.length ≤ 300 ∧ lhT l ∧ StF l a b m ∧ m ≤ 13 ∧ ∀ t H', Ex H H' → H' t = some (.tup [.int a, .int b, .int m]) → Q (.ref t) H'
theorem use_law_first {K : PySem.W.Frag} {H : Hp} {Q : VK} {E : XK} {l : List Nat} {a b m : Int} (n : l.length ≤ 300) (ok : lhT l) (F : StF l a b m) (m13 : m ≤ 13) (q : ∀ t H', Ex H H' → H' t = some (.tup [.int a, .int b, .int m]) → Q (.ref t) H') : sp_law_first K [.str (SX.S l), .int 13] H Q E := ⟨l, a, b, m, rfl, n, ok, F, m13, q⟩
abbrev s_law_first : Stmt := topS 19
abbrev nm_law_first : List Str := ["text", "most", "m", "a", "b"]
theorem sc_law_first : FnScope nm_law_first ["text", "most"] (defScope s_law_first) := ⟨rfl, rfl, rfl, by decide +kernel, rfl, by decide +kernel, by decide +kernel⟩
theorem st_law_first {v0 v1 : V} : start nm_law_first [v0, v1] = [some v0, some v1, none, none, none] := rfl
section
variable {P : Program} {w : World} {K : PySem.W.Frag} {mg : Str → Option Value} {base : Heap}
theorem ok_law_first (D : DefAt K mg "_law_first" s_law_first ["text", "most"]) (B_range : mg "range" = none) (B_len : mg "len" = none) (G__law_text : Has P w K mg base CX0 3 "_law_text" ["stair", "n"] (sp_law_text K)) : Has P w K mg base CX0 4 "_law_first" ["text", "most"] (sp_law_first K) := by
  refine D.ok sc_law_first (by rintro _ _ _ _ ⟨_, _, _, _, rfl, _⟩; rfl) (fun f cdv A outer s H vs Q E hr h => ?_)
  obtain ⟨l, a, b, m, rfl, n, ok, F, m13, q⟩ := h
  have hl : l.length ≤ 1000000 := by omega
  have m0 := F.m0
  have a0 := F.a0
  have am := F.am
  have b01 := F.b01
  have ftx := F.text ok
  refine ⟨_, (pss_cons (ps_for PassesOwn.never rfl (pi_rng2 rfl B_range (pa_cons pe_int (pa_cons (pe_op op_add (pv 1) pe_int) pa_nil))) (pg_name (i := 2) sc_law_first.nd rfl (Or.inl rfl))
        (pss_one (ps_for PassesOwn.never rfl (pi_range1 rfl B_range (pa_cons (pe_op op_add (pv 2) pe_int) pa_nil)) (pg_name (i := 3) sc_law_first.nd rfl (Or.inl rfl))
          (pss_one (ps_for PassesOwn.never rfl (pi_range1 rfl B_range (pa_cons (pv 2) pa_nil)) (pg_name (i := 4) sc_law_first.nd rfl (Or.inl rfl))
            (pss_one (ps_if (pt_cmpR op_eq (pcall G__law_text (hr.mono (by decide)) (pa_cons (pe_tup (pa_cons (pv 3) (pa_cons (pv 4) (pa_cons (pv 2) pa_nil)))) (pa_cons (pe_callB cl_lenS (by rfl) B_len (by decide +kernel) (pa_cons (pv 0) pa_nil)) pa_nil))) (pv 0) (nomark _)) (pss_one (ps_ret (pe_tup (pa_cons (pv 3) (pa_cons (pv 4) (pa_cons (pv 2) pa_nil)))))) pss_nil)))))))
      (pss_one (ps_ret pe_non))), ?_⟩
  rw [st_law_first]
  try dsimp only [Cx.nox, Cx.wish, Cx.blk, cx_K]
  walk_at "go"
  refine r_rngL ?_
  refine for_rng (fun i σ H' => Ex H H' ∧ 1 + (i : Int) ≤ m ∧ ∃ o2 o3 o4 : Option V, σ = [some (.str (SX.S l)), some (.int 13), o2, o3, o4]) ⟨Ex.refl, by omega, _, _, _, rfl⟩ ?_ ?_
  · rintro i σ H1 hi ⟨e1, le1, o2, o3, o4, rfl⟩
    walk_at "go"
    refine r_rng1 (by omega) (by omega) ?_
    refine for_rng (fun j σ H' => Ex H H' ∧ (1 + (i : Int) < m ∨ (1 + (i : Int) = m ∧ (j : Int) ≤ a)) ∧ ∃ o3 o4 : Option V, σ = [some (.str (SX.S l)), some (.int 13), some (.int (1 + i)), o3, o4]) ⟨e1, by omega, _, _, rfl⟩ ?_ ?_
    · rintro j σ H2 hj ⟨e2, le2, o3, o4, rfl⟩
      walk_at "go"
      refine r_rng1 (by omega) (by omega) ?_
      refine for_rng (fun k σ H' => Ex H H' ∧ (1 + (i : Int) < m ∨ (1 + (i : Int) = m ∧ ((j : Int) < a ∨ ((j : Int) = a ∧ (k : Int) ≤ b)))) ∧ ∃ o4 : Option V, σ = [some (.str (SX.S l)), some (.int 13), some (.int (1 + i)), some (.int (0 + j)), o4]) ⟨e2, by omega, _, rfl⟩ ?_ ?_
      · rintro k σ H3 hk ⟨e3, le3, o4, rfl⟩
        walk_at "go"
        rename_i p4 H4 n4 e4 h4
        refine use_law_text h4 (by omega) (by omega) (by omega) ((Sz.small (by omega) : Sz 200 (1 + (i : Int))).mono (by decide)) (by omega) (by omega) fun H5 e5 => ?_
        rw [Int.toNat_natCast]
        walk_at "go"
        refine if_2 (fun h0 => ?_) (fun h0 => ?_)
        · have h0 := of_decide_eq_true h0
          walk_at "go"
          rename_i t6 H6 n6 e6 h6
          have fi := F.first (a' := 0 + (j : Int)) (b' := 0 + (k : Int)) (m' := 1 + (i : Int)) (by omega) (by omega) (by omega) (by omega) (by omega) h0
          have ea : (0 + (j : Int)) = a := by omega
          have eb : (0 + (k : Int)) = b := by omega
          have em : (1 + (i : Int)) = m := by omega
          rw [ea, eb, em] at h6
          exact q _ _ (e3.trans (e4.trans (e5.trans e6))) h6
        · have h0 := of_decide_eq_false h0
          walk_at "go"
          refine ⟨e3.trans (e4.trans e5), ?_, _, rfl⟩
          rcases le3 with z | ⟨z, z2 | ⟨z2, z3⟩⟩
          · exact .inl z
          · exact .inr ⟨z, .inl z2⟩
          · refine .inr ⟨z, .inr ⟨z2, ?_⟩⟩
            rcases Int.lt_or_le (k : Int) b with w | w
            · omega
            · exfalso
              apply h0
              rw [show (0 + (j : Int)) = a by omega, show (0 + (k : Int)) = b by omega, show (1 + (i : Int)) = m by omega]
              exact ftx
      · rintro σ H3 ⟨e3, le3, o4, rfl⟩
        walk_at "go"
        refine ⟨e3, by omega, _, _, rfl⟩
    · rintro σ H2 ⟨e2, le2, o3, o4, rfl⟩
      walk_at "go"
      refine ⟨e2, by omega, _, _, _, rfl⟩
  · rintro σ H1 ⟨e1, le1, o2, o3, o4, rfl⟩
    exfalso
    omega

end
def sp_law (K : PySem.W.Frag) : Sp := fun vs H Q _ => ∃ (a : Addr) (ns : List Int), vs = [.ref a] ∧ SqL K H a (ns.map V.int) ∧ ns.length ≤ 63 ∧ ∀ H', Q (.bl true) H'
/-- a piece of a stair's text -/
def PcT (a b m : Int) (z : List Nat) : Prop := z.length ≤ 200 ∧ lhT z ∧ OfS (hS z) z.length a b m
abbrev s_law : Stmt := topS 20
abbrev nm_law : List Str := ["script", "k", "draws", "m", "a", "stair", "n", "text", "at", "some", "found", "one", "begin", "bottom", "number"]
theorem sc_law : FnScope nm_law ["script"] (defScope s_law) := ⟨rfl, rfl, rfl, by decide +kernel, rfl, by decide +kernel, by decide +kernel⟩
theorem st_law {v0 : V} : start nm_law [v0] = [some v0, none, none, none, none, none, none, none, none, none, none, none, none, none, none] := rfl
section
variable {P : Program} {w : World} {K : PySem.W.Frag} {mg : Str → Option Value} {base : Heap}
theorem ok_law  {f : Addr} {fd : FuncData} (F : Fun K "law" "law" s_law f fd) (B_range : mg "range" = none) (B_max : mg "max" = none) (B_min : mg "min" = none) (B_len : mg "len" = none) (B_isinstance : mg "isinstance" = none) (B_tuple : mg "tuple" = none) (G__law_draws : Has P w K mg base CX0 2 "_law_draws" ["script", "k"] (sp_law_draws K)) (G__law_bottom : Has P w K mg base CX0 4 "_law_bottom" ["draws"] (sp_law_bottom K)) (G__law_draw : Has P w K mg base CX0 2 "_law_draw" ["draws", "many"] (sp_law_draw K)) (G__law_text : Has P w K mg base CX0 3 "_law_text" ["stair", "n"] (sp_law_text K)) (G_stair_of : Has P w K mg base CX0 3 "stair_of" ["text"] (sp_stair_of K)) (G__law_whole : Has P w K mg base CX0 2 "_law_whole" ["thing"] (sp_law_whole K)) (G__law_common : Has P w K mg base CX0 2 "_law_common" ["one", "other"] (sp_law_common K)) (G__law_first : Has P w K mg base CX0 4 "_law_first" ["text", "most"] (sp_law_first K)) : FnOk P w K mg base CX0 5 f fd ["script"] (sp_law K) := by
  refine F.ok sc_law (by rintro _ _ _ _ ⟨_, _, rfl, _⟩; rfl) (fun cdv A outer s H vs Q E hr h => ?_)
  obtain ⟨a, ns, rfl, hS_, hlen, q⟩ := h
  have d1 : decide (lit "stair" = lit "stair") = true := by decide +kernel
  refine ⟨_, (pss_cons (ps_for PassesOwn.never rfl (pi_range1 rfl B_range (pa_cons (pe_callB (cl_max2 rfl) (by rfl) B_max (by decide +kernel) (pa_cons pe_int (pa_cons (pe_callB (cl_min2 rfl) (by rfl) B_min (by decide +kernel) (pa_cons pe_int (pa_cons (pe_callB cl_len (by rfl) B_len (by decide +kernel) (pa_cons (pv 0) pa_nil)) pa_nil))) pa_nil))) pa_nil)) (pg_name (i := 1) sc_law.nd rfl (Or.inl rfl))
        (pss_cons (ps_set (i := 2) sc_law.nd rfl (Or.inl rfl) (pcall G__law_draws (hr.mono (by decide)) (pa_cons (pv 0) (pa_cons (pv 1) pa_nil))))
        (pss_cons (ps_set (i := 3) sc_law.nd rfl (Or.inl rfl) (pcall G__law_bottom (hr.mono (by decide)) (pa_cons (pv 2) pa_nil)))
        (pss_cons (ps_set (i := 4) sc_law.nd rfl (Or.inl rfl) (pcall G__law_draw (hr.mono (by decide)) (pa_cons (pv 2) (pa_cons (pe_op op_add (pv 3) pe_int) pa_nil))))
        (pss_cons (ps_set (i := 5) sc_law.nd rfl (Or.inl rfl) (pe_tup (pa_cons (pv 4) (pa_cons (pcall G__law_draw (hr.mono (by decide)) (pa_cons (pv 2) (pa_cons (pv 3) pa_nil))) (pa_cons (pv 3) pa_nil)))))
        (pss_cons (ps_set (i := 6) sc_law.nd rfl (Or.inl rfl) (pe_ix ix_list (pe_lst (pa_cons (pcall G__law_draw (hr.mono (by decide)) (pa_cons (pv 2) (pa_cons pe_int pa_nil))) (pa_cons (pcall G__law_draw (hr.mono (by decide)) (pa_cons (pv 2) (pa_cons pe_int pa_nil))) pa_nil))) (pcall G__law_draw (hr.mono (by decide)) (pa_cons (pv 2) (pa_cons pe_int pa_nil))) (fun _ _ => rfl)))
        (pss_cons (ps_set (i := 7) sc_law.nd rfl (Or.inl rfl) (pcall G__law_text (hr.mono (by decide)) (pa_cons (pv 5) (pa_cons (pv 6) pa_nil))))
        (pss_cons (ps_set (i := 8) sc_law.nd rfl (Or.inl rfl) (pcall G__law_draw (hr.mono (by decide)) (pa_cons (pv 2) (pa_cons (pe_op op_add (pv 6) pe_int) pa_nil))))
        (pss_one (ps_for PassesOwn.never rfl (pi_list (pe_lst (pa_cons (pv 7) (pa_cons (pe_slice sl_str (pv 7) (po_some (pv 8)) po_none) (pa_cons (pe_slice sl_str (pv 7) po_none (po_some (pv 8))) pa_nil))))) (pg_name (i := 9) sc_law.nd rfl (Or.inl rfl))
          (pss_cons (ps_set (i := 10) sc_law.nd rfl (Or.inl rfl) (pcall G_stair_of (hr.mono (by decide)) (pa_cons (pv 9) pa_nil)))
          (pss_cons (ps_if (PW.pt (pw_or (pt_not (pt_val (pe_callB call_isi (by rfl) B_isinstance (by decide +kernel) (pa_cons (pv 10) (pa_cons (pe_bltn (v := .ty "tuple") (by rfl) B_tuple (by decide +kernel) rfl) pa_nil))))) (pw_or (pt_cmpR op_ne (pe_callB cl_len (by rfl) B_len (by decide +kernel) (pa_cons (pv 10) pa_nil)) pe_int (nomark _)) (pw_or1 (pt_cmpR op_ne (pe_ix ix_tup (pv 10) pe_int (fun _ _ => rfl)) pe_str (nomark _)))))) (pss_one (ps_ret pe_bl)) pss_nil)
          (pss_cons (ps_asg (pe_ix ix_tup (pv 10) pe_int (fun _ _ => rfl)) (pg_tup (by rfl) (pgs_cons (pg_name (i := 11) sc_law.nd rfl (Or.inl rfl)) (pgs_cons (pg_name (i := 12) sc_law.nd rfl (Or.inl rfl)) (pgs_cons (pg_name (i := 13) sc_law.nd rfl (Or.inl rfl)) pgs_nil)))))
          (pss_cons (ps_if (PW.pt (pw_or (pt_not (pt_val (pe_callB call_isi (by rfl) B_isinstance (by decide +kernel) (pa_cons (pe_ix ix_tup (pv 10) pe_int (fun _ _ => rfl)) (pa_cons (pe_bltn (v := .ty "tuple") (by rfl) B_tuple (by decide +kernel) rfl) pa_nil))))) (pw_or1 (pt_cmpR op_in_seq pe_bl (pe_lc rfl sc_law.nd (pi_tup (pe_ix ix_tup (pv 10) pe_int (fun _ _ => rfl))) (blkOk_by (own := [("number", 14)]) (N := nm_law) (sc := defScope s_law) (by decide +kernel)) (fun _ _ _ _ _ => (pg_name (i := 14) sc_law.nd rfl (Or.inl rfl))) (fun _ _ _ _ _ => pts_nil) (fun _ _ _ _ _ => (pcall G__law_whole (hr.mono (by decide)) (pa_cons (pv 14) pa_nil)))) (by rfl))))) (pss_one (ps_ret pe_bl)) pss_nil)
          (pss_cons (ps_if (PW.pt (pw_or (pt_not (pt_chain op_le op_le pe_int (pv 11) (pv 13))) (pw_or (pt_not (pt_chain op_le op_lt pe_int (pv 12) (pv 13))) (pw_or1 (pt_cmpR op_ne (pcall G__law_text (hr.mono (by decide)) (pa_cons (pe_ix ix_tup (pv 10) pe_int (fun _ _ => rfl)) (pa_cons (pe_callB cl_lenS (by rfl) B_len (by decide +kernel) (pa_cons (pv 9) pa_nil)) pa_nil))) (pv 9) (nomark _)))))) (pss_one (ps_ret pe_bl)) pss_nil)
          (pss_cons (ps_if (PW.pt (pw_or (pt_cmpR op_gt (pv 13) (pe_op op_fdivW (pv 3) (pcall G__law_common (hr.mono (by decide)) (pa_cons (pv 4) (pa_cons (pv 3) pa_nil)))) (nomark _)) (pw_or1 (pt_cmpR op_gt (pv 13) (pe_op op_add (pe_callB cl_lenS (by rfl) B_len (by decide +kernel) (pa_cons (pv 9) pa_nil)) pe_int) (nomark _))))) (pss_one (ps_ret pe_bl)) pss_nil)
          (pss_one (ps_if (PW.pt (pw_and (pt_cmpR op_lt (pe_callB cl_lenS (by rfl) B_len (by decide +kernel) (pa_cons (pv 9) pa_nil)) pe_int (nomark _)) (pw_and1 (pt_cmpR (op_neD hr.units) (pe_ix ix_tup (pv 10) pe_int (fun _ _ => rfl)) (pcall G__law_first (hr.mono (by decide)) (pa_cons (pv 9) (pa_cons pe_int pa_nil))) (nomark _))))) (pss_one (ps_ret pe_bl)) pss_nil))))))))))))))))))
      (pss_one (ps_ret pe_bl))), ?_⟩
  rw [st_law]
  try dsimp only [Cx.nox, Cx.wish, Cx.blk, cx_K]
  walk_at "go"
  rw [List.length_map]
  refine r_rng1 (by omega) (by omega) ?_
  refine for_rng (fun i σ H' => ∃ o1 o2 o3 o4 o5 o6 o7 o8 o9 o10 o11 o12 o13 o14 : Option V, σ = [some (.ref a), o1, o2, o3, o4, o5, o6, o7, o8, o9, o10, o11, o12, o13, o14] ∧ Ex H H') ⟨_, _, _, _, _, _, _, _, _, _, _, _, _, _, rfl, Ex.refl⟩ ?_ ?_
  · rintro i σ H0 hi ⟨o1, o2, o3, o4, o5, o6, o7, o8, o9, o10, o11, o12, o13, o14, rfl, e0⟩
    walk_at "go"
    refine use_law_draws (sql_up e0 hS_) (by omega) (by omega) fun d H1 nd e1 D1 => ?_
    have w1 : Lw H0 d H1 := ⟨e1, nd, D1⟩
    clear e1 nd
    walk_at "go"
    refine use_law_bottom D1 fun m H2 m0 m1 k2 D2 => ?_
    have w2 := w1.kp k2 D2
    clear k2 w1 D1
    have zm : Sz 200 m := by
      show m.natAbs < 2 ^ 200
      omega
    walk_at "go"
    refine use_law_draw D2 (by omega) (by walk_at "szm") fun a1 H3 c3 d3 k3 D3 => ?_
    have w3 := w2.kp k3 D3
    clear k3 w2 D2
    walk_at "go"
    refine use_law_draw D3 (by omega) (by walk_at "szm") fun b1 H4 c4 d4 k4 D4 => ?_
    have w4 := w3.kp k4 D4
    clear k4 w3 D3
    walk_at "go"
    rename_i p5 H5 n5 e5 h5
    have w5 := w4.ex e5
    have dp5 := w4.D.free n5
    clear w4 D4 e5 n5
    refine use_law_draw w5.D (by decide) (by walk_at "szm") fun n1 H6 c6 d6 k6 D6 => ?_
    have w6 := w5.kp k6 D6
    have h5 := k6.tup w5.D h5
    clear k6 w5
    walk_at "go"
    refine use_law_draw D6 (by decide) (by walk_at "szm") fun n2 H7 c7 d7 k7 D7 => ?_
    have w7 := w6.kp k7 D7
    have h5 := k7.tup D6 h5
    clear k7 w6 D6
    walk_at "go"
    rename_i l8 H8 nl8 e8 h8
    have w8 := w7.ex e8
    have h5 := e8.at h5
    refine use_law_draw w8.D (by decide) (by walk_at "szm") fun x9 H9 c9 d9 k9 D9 => ?_
    have w9 := w8.kp k9 D9
    have h5 := k9.tup w8.D h5
    have h9 := k9 _ _ (D7.free nl8) h8
    walk_at "go"
    obtain ⟨v, gv, hv⟩ := at_2 (x := V.int n1) (y := V.int n2) c9 d9
    refine r_ixL (SqL.of h9) gv ?_
    obtain ⟨N, rfl, n1'⟩ : ∃ N : Nat, v = .int (N : Int) ∧ N ≤ 200 := by
      rcases hv with rfl | rfl
      · exact ⟨n1.toNat, by rw [Int.toNat_of_nonneg c6], by omega⟩
      · exact ⟨n2.toNat, by rw [Int.toNat_of_nonneg c7], by omega⟩
    clear gv hv h9 h8 k9 e8 w8 w7 D7 nl8 c6 d6 c7 d7 c9 d9
    walk_at "go"
    refine use_law_text h5 m0 c3 (by omega) (zm.mono (by decide)) (by omega) (by omega) fun H10 e10 => ?_
    rw [Int.toNat_natCast]
    have w10 := w9.ex e10
    clear w9 e10 D9 h5
    have ltx := tx_len a1 b1 m N
    have oktx := tx_ok a1 b1 m N
    have htx : ∀ k : Nat, k ≤ N → hS (tx a1 b1 m N) k = (a1 * (k : Int) + b1) / m - b1 / m := tx_hS m0 c3 (by omega)
    generalize tx a1 b1 m N = t at ltx oktx htx ⊢
    have tl : t.length ≤ 1000000 := by omega
    have D10 := w10.D
    walk_at "go"
    refine use_law_draw D10 (by omega) (Sz.mono (n := 200) (Sz.small (by omega)) (by decide)) fun at1 H11 c11 d11 k11 D11 => ?_
    have w11 := w10.kp k11 D11
    clear w10 D10 k11
    walk_at "go"
    rename_i l12 H12 nl12 e12 h12
    have w12 := w11.ex e12
    have z0 : a1 * ((0 : Nat) : Int) + b1 = b1 := by show a1 * 0 + b1 = b1; rw [Int.mul_zero, Int.zero_add]
    have g1 : PcT a1 b1 m t := ⟨by omega, oktx, 0, fun k hk => by rw [htx k (by omega), Nat.zero_add, z0]⟩
    have g2 : PcT a1 b1 m (t.drop at1.toNat) := ⟨by rw [List.length_drop]; omega, lhT.drop oktx _, at1.toNat, fun k hk => by
      rw [List.length_drop] at hk
      rw [hS_drop, htx _ (by omega), htx _ (by omega)]
      omega⟩
    have g3 : PcT a1 b1 m (t.take at1.toNat) := ⟨by rw [List.length_take]; omega, lhT.take oktx _, 0, fun k hk => by
      rw [List.length_take] at hk
      rw [hS_take (by omega), htx k (by omega), Nat.zero_add, z0]⟩
    clear w11 D11 nl12 e12 htx
    refine for_lst (xs := [V.str (SX.S t), V.str (SX.S (t.drop at1.toNat)), V.str (SX.S (t.take at1.toNat))]) (fun j σ H' => Ex H12 H' ∧ ∃ o9 o10 o11 o12 o13 o14 : Option V, σ = [some (.ref a), some (.int (0 + i)), some (.ref d), some (.int m), some (.int a1), some (.ref p5), some (.int (N : Int)), some (.str (SX.S t)), some (.int at1), o9, o10, o11, o12, o13, o14]) ⟨Ex.refl, _, _, _, _, _, _, rfl⟩ (fun j σ H' _ p => SqL.of (p.1.at h12)) ?_ ?_
    · rintro j x σ G hx ⟨x13, o9, o10, o11, o12, o13, o14, rfl⟩
      obtain ⟨z, rfl, lz, okz, ofz⟩ : ∃ z, x = .str (SX.S z) ∧ PcT a1 b1 m z := by
        match j, hx with
        | 0, hx => cases hx; exact ⟨_, rfl, g1⟩
        | 1, hx => cases hx; exact ⟨_, rfl, g2⟩
        | 2, hx => cases hx; exact ⟨_, rfl, g3⟩
        | _ + 3, hx => simp at hx
      clear hx g1 g2 g3
      have fz := ofz.fit m0
      have Bz := fit_bal m0 fz
      walk_at "go"
      refine use_stair_of lz okz (fun tt s a2 b2 m2 G1 _ F x14 hs ht => ?_) (fun i2 j2 r tt G1 r0 hi2 hj2 hlt _ _ => ?_)
      case refine_2 =>
        exfalso
        have := Bz r i2 j2 hi2 hj2
        omega
      have F0 := F.m0
      have F1 := F.a0
      have F2 := F.am
      have F3 := F.b01
      have F4 := F.m1
      have F5 := least_small (hS_st z) F.m0 F.a0 F.am F.fit F.least
      have F6 : m2 ≤ m / (Int.gcd a1 m : Int) := by
        have gm : (Int.gcd a1 m : Int) ∣ m := Int.gcd_dvd_right ..
        have ga : (Int.gcd a1 m : Int) ∣ a1 := Int.gcd_dvd_left ..
        have gp : 0 < (Int.gcd a1 m : Int) := by
          have : Int.gcd a1 m ≠ 0 := fun z => by
            have := Int.gcd_eq_zero_iff.mp z
            omega
          omega
        obtain ⟨m', hm'⟩ := gm
        obtain ⟨a', ha'⟩ := ga
        generalize (Int.gcd a1 m : Int) = g at *
        have e1 : m / g = m' := by rw [hm', Int.mul_ediv_cancel_left _ (by omega)]
        rw [e1]
        have m'1 : 1 ≤ m' := by
          rcases Int.lt_or_le 0 m' with w | w
          · exact w
          · have : g * m' ≤ 0 := Int.mul_nonpos_of_nonneg_of_nonpos (by omega) w
            omega
        have a'0 : 0 ≤ a' := by
          rcases Int.lt_or_le a' 0 with w | w
          · have : g * a' ≤ g * (-1) := Int.mul_le_mul_of_nonneg_left (by omega) (by omega)
            omega
          · exact w
        have a'm : a' ≤ m' := by
          have : g * a' ≤ g * m' := by omega
          exact Int.le_of_mul_le_mul_left this gp
        have fit' : FitS (hS z) z.length a' m' := fun j k hj hk => by
          have f := fz j k hj hk
          generalize hS z j - hS z k - 1 = c at *
          generalize (j : Int) - k = d at *
          have : g * (m' * c) < g * (a' * d) := by
            have e1 : g * (m' * c) = m * c := by rw [hm']; exact (Int.mul_assoc ..).symm
            have e2 : g * (a' * d) = a1 * d := by rw [ha']; exact (Int.mul_assoc ..).symm
            omega
          exact Int.lt_of_mul_lt_mul_left this (by omega)
        have := F.least a' m' m'1 a'0 a'm fit'
        omega
      have gpos : 0 < (Int.gcd a1 m : Int) := by
        have : Int.gcd a1 m ≠ 0 := fun z => by
          have := Int.gcd_eq_zero_iff.mp z
          omega
        omega
      have ftx := F.text okz
      have lz' : z.length ≤ 1000000 := by omega
      have x15 := x13.trans x14
      clear Bz fz ofz x13 x14
      walk_at "go"
      refine lc_tupP (fun _ => .bl true) (SqT.of hs) (by show 3 ≤ 100000; decide) (fun _ => rfl) (fun jj x hx G2 e2 QE kE => ?_) (fun p6 G6 n6 x6 h6 => ?_)
      · obtain ⟨y, rfl⟩ : ∃ y : Int, x = .int y := by
          have mem := List.mem_of_getElem? hx
          simp only [List.mem_cons, List.not_mem_nil, or_false] at mem
          rcases mem with rfl | rfl | rfl
          · exact ⟨_, rfl⟩
          · exact ⟨_, rfl⟩
          · exact ⟨_, rfl⟩
        walk_at "go"
        refine use_law_whole ?_
        exact kE _ Ex.refl
      have h6 : G6 p6 = some (.lst [.bl true, .bl true, .bl true]) := h6
      have hs := x6.at hs
      have ht := x6.at ht
      have x16 := x15.trans x6
      clear x15 x6
      walk_at "go"
      refine r_inL (SqL.of h6) rfl rfl ?_
      rw [show inV (.bl false) [.bl true, .bl true, .bl true] = false from rfl]
      clear h6
      walk_at "go"
      refine use_law_text hs (by omega) F1 F2 ((Sz.small (by omega) : Sz 200 m2).mono (by decide)) (by omega) (by omega) fun G7 x7 => ?_
      rw [Int.toNat_natCast, ftx]
      have hs := x7.at hs
      have ht := x7.at ht
      have x17 := x16.trans x7
      clear x16 x7
      clear m1
      walk_at "go"
      refine use_law_common ?_
      have zg : Sz 200 (Int.gcd a1 m : Int) := zm.le (by omega) (Int.le_of_dvd (by omega) (Int.gcd_dvd_right ..))
      refine r_div (divW gpos zg (by decide)) ?_
      walk_at "go"
      by_cases l13 : z.length < 13
      · walk_at "go"
        refine use_law_first (by omega) okz F (by omega) fun t8 G8 x8 h8 => ?_
        have hs := x8.at hs
        walk_at "go"
        exact ⟨x17.trans x8, _, _, _, _, _, _, rfl⟩
      · walk_at "go"
        exact ⟨x17, _, _, _, _, _, _, rfl⟩
    · rintro σ G ⟨x13, o9, o10, o11, o12, o13, o14, rfl⟩
      walk_at "go"
      exact ⟨_, _, _, _, _, _, _, _, _, _, _, _, _, _, rfl, e0.trans (w12.e.trans x13)⟩
  · rintro σ H0 ⟨o1, o2, o3, o4, o5, o6, o7, o8, o9, o10, o11, o12, o13, o14, rfl, e0⟩
    walk_at "go"
    exact q _

end
end Sd
namespace Sd
open PySem PySem.Spec PyProof.Rows L2
theorem all_mk {l : PySem.W.OpenLaw} {w : World} {K : PySem.W.Frag} {h : Heap} {mg : Str → Option Value} {fa : Addr} (X : K.In h) (G : h.Ns mainGlobals mg) (hfa : mg "law" = some (.ref fa))
    {f0 f1 f2 f3 f4 f5 f6 f7 f8 f9 f10 f11 f12 f13 f14 : Addr}
    {od0 an0 od1 an1 od2 an2 od3 an3 od4 an4 od5 an5 od6 an6 od7 an7 od8 an8 od9 an9 od10 an10 od11 an11 od12 an12 od13 an13 od14 an14 : Option Addr}
    {sl0 sl1 sl2 sl3 sl4 sl5 sl6 sl7 sl8 sl9 sl10 sl11 sl12 sl13 sl14 : Array (Option Value)}
    {oc0 kV0 dc0 pm0 cd0 ct0 oc1 kV1 dc1 pm1 cd1 ct1 oc2 kV2 dc2 pm2 cd2 ct2 oc3 kV3 dc3 pm3 cd3 ct3 oc4 kV4 dc4 pm4 cd4 ct4 oc5 kV5 dc5 pm5 cd5 ct5 oc6 kV6 dc6 pm6 cd6 ct6 oc7 kV7 dc7 pm7 cd7 ct7 oc8 kV8 dc8 pm8 cd8 ct8 oc9 kV9 dc9 pm9 cd9 ct9 oc10 kV10 dc10 pm10 cd10 ct10 oc11 kV11 dc11 pm11 cd11 ct11 oc12 kV12 dc12 pm12 cd12 ct12 oc13 kV13 dc13 pm13 cd13 ct13 oc14 kV14 dc14 pm14 cd14 ct14 : Value}
    {tk_MOST_SIGNS : Tok}
    (a0 : PySem.W.nsIn K mainGlobals "_law_draws" = some (some (.ref f0))) (l0 : K.lookup f0 = some ⟨oc0, od0, .func (PySem.W.fnOf "_law_draws" "_law_draws" (defArgs s_law_draws) (defBody s_law_draws) (defScope s_law_draws) .none kV0 dc0 pm0 an0 cd0 ct0), sl0⟩) (c0 : PySem.W.codeIn K cd0 "_law_draws" = true) (k0 : PySem.W.keepIn K (.ref f0) = true)
    (a1 : PySem.W.nsIn K mainGlobals "_law_draw" = some (some (.ref f1))) (l1 : K.lookup f1 = some ⟨oc1, od1, .func (PySem.W.fnOf "_law_draw" "_law_draw" (defArgs s_law_draw) (defBody s_law_draw) (defScope s_law_draw) .none kV1 dc1 pm1 an1 cd1 ct1), sl1⟩) (c1 : PySem.W.codeIn K cd1 "_law_draw" = true) (k1 : PySem.W.keepIn K (.ref f1) = true)
    (a2 : PySem.W.nsIn K mainGlobals "_law_figures" = some (some (.ref f2))) (l2 : K.lookup f2 = some ⟨oc2, od2, .func (PySem.W.fnOf "_law_figures" "_law_figures" (defArgs s_law_figures) (defBody s_law_figures) (defScope s_law_figures) .none kV2 dc2 pm2 an2 cd2 ct2), sl2⟩) (c2 : PySem.W.codeIn K cd2 "_law_figures" = true) (k2 : PySem.W.keepIn K (.ref f2) = true)
    (a3 : PySem.W.nsIn K mainGlobals "_law_bottom" = some (some (.ref f3))) (l3 : K.lookup f3 = some ⟨oc3, od3, .func (PySem.W.fnOf "_law_bottom" "_law_bottom" (defArgs s_law_bottom) (defBody s_law_bottom) (defScope s_law_bottom) .none kV3 dc3 pm3 an3 cd3 ct3), sl3⟩) (c3 : PySem.W.codeIn K cd3 "_law_bottom" = true) (k3 : PySem.W.keepIn K (.ref f3) = true)
    (a4 : PySem.W.nsIn K mainGlobals "_law_heights" = some (some (.ref f4))) (l4 : K.lookup f4 = some ⟨oc4, od4, .func (PySem.W.fnOf "_law_heights" "_law_heights" (defArgs s_law_heights) (defBody s_law_heights) (defScope s_law_heights) .none kV4 dc4 pm4 an4 cd4 ct4), sl4⟩) (c4 : PySem.W.codeIn K cd4 "_law_heights" = true) (k4 : PySem.W.keepIn K (.ref f4) = true)
    (a5 : PySem.W.nsIn K mainGlobals "_law_text" = some (some (.ref f5))) (l5 : K.lookup f5 = some ⟨oc5, od5, .func (PySem.W.fnOf "_law_text" "_law_text" (defArgs s_law_text) (defBody s_law_text) (defScope s_law_text) .none kV5 dc5 pm5 an5 cd5 ct5), sl5⟩) (c5 : PySem.W.codeIn K cd5 "_law_text" = true) (k5 : PySem.W.keepIn K (.ref f5) = true)
    (a6 : PySem.W.nsIn K mainGlobals "need_steps" = some (some (.ref f6))) (l6 : K.lookup f6 = some ⟨oc6, od6, .func (PySem.W.fnOf "need_steps" "need_steps" (defArgs s_need_steps) (defBody s_need_steps) (defScope s_need_steps) .none kV6 dc6 pm6 an6 cd6 ct6), sl6⟩) (c6 : PySem.W.codeIn K cd6 "need_steps" = true) (k6 : PySem.W.keepIn K (.ref f6) = true)
    (a7 : PySem.W.nsIn K mainGlobals "sums_in" = some (some (.ref f7))) (l7 : K.lookup f7 = some ⟨oc7, od7, .func (PySem.W.fnOf "sums_in" "sums_in" (defArgs s_sums_in) (defBody s_sums_in) (defScope s_sums_in) .none kV7 dc7 pm7 an7 cd7 ct7), sl7⟩) (c7 : PySem.W.codeIn K cd7 "sums_in" = true) (k7 : PySem.W.keepIn K (.ref f7) = true)
    (a8 : PySem.W.nsIn K mainGlobals "unlike_pieces" = some (some (.ref f8))) (l8 : K.lookup f8 = some ⟨oc8, od8, .func (PySem.W.fnOf "unlike_pieces" "unlike_pieces" (defArgs s_unlike_pieces) (defBody s_unlike_pieces) (defScope s_unlike_pieces) .none kV8 dc8 pm8 an8 cd8 ct8), sl8⟩) (c8 : PySem.W.codeIn K cd8 "unlike_pieces" = true) (k8 : PySem.W.keepIn K (.ref f8) = true)
    (a9 : PySem.W.nsIn K mainGlobals "slopes_around" = some (some (.ref f9))) (l9 : K.lookup f9 = some ⟨oc9, od9, .func (PySem.W.fnOf "slopes_around" "slopes_around" (defArgs s_slopes_around) (defBody s_slopes_around) (defScope s_slopes_around) .none kV9 dc9 pm9 an9 cd9 ct9), sl9⟩) (c9 : PySem.W.codeIn K cd9 "slopes_around" = true) (k9 : PySem.W.keepIn K (.ref f9) = true)
    (a10 : PySem.W.nsIn K mainGlobals "stair_of" = some (some (.ref f10))) (l10 : K.lookup f10 = some ⟨oc10, od10, .func (PySem.W.fnOf "stair_of" "stair_of" (defArgs s_stair_of) (defBody s_stair_of) (defScope s_stair_of) .none kV10 dc10 pm10 an10 cd10 ct10), sl10⟩) (c10 : PySem.W.codeIn K cd10 "stair_of" = true) (k10 : PySem.W.keepIn K (.ref f10) = true)
    (a11 : PySem.W.nsIn K mainGlobals "_law_whole" = some (some (.ref f11))) (l11 : K.lookup f11 = some ⟨oc11, od11, .func (PySem.W.fnOf "_law_whole" "_law_whole" (defArgs s_law_whole) (defBody s_law_whole) (defScope s_law_whole) .none kV11 dc11 pm11 an11 cd11 ct11), sl11⟩) (c11 : PySem.W.codeIn K cd11 "_law_whole" = true) (k11 : PySem.W.keepIn K (.ref f11) = true)
    (a12 : PySem.W.nsIn K mainGlobals "_law_common" = some (some (.ref f12))) (l12 : K.lookup f12 = some ⟨oc12, od12, .func (PySem.W.fnOf "_law_common" "_law_common" (defArgs s_law_common) (defBody s_law_common) (defScope s_law_common) .none kV12 dc12 pm12 an12 cd12 ct12), sl12⟩) (c12 : PySem.W.codeIn K cd12 "_law_common" = true) (k12 : PySem.W.keepIn K (.ref f12) = true)
    (a13 : PySem.W.nsIn K mainGlobals "_law_first" = some (some (.ref f13))) (l13 : K.lookup f13 = some ⟨oc13, od13, .func (PySem.W.fnOf "_law_first" "_law_first" (defArgs s_law_first) (defBody s_law_first) (defScope s_law_first) .none kV13 dc13 pm13 an13 cd13 ct13), sl13⟩) (c13 : PySem.W.codeIn K cd13 "_law_first" = true) (k13 : PySem.W.keepIn K (.ref f13) = true)
    (a14 : PySem.W.nsIn K mainGlobals "law" = some (some (.ref f14))) (l14 : K.lookup f14 = some ⟨oc14, od14, .func (PySem.W.fnOf "law" "law" (defArgs s_law) (defBody s_law) (defScope s_law) .none kV14 dc14 pm14 an14 cd14 ct14), sl14⟩) (c14 : PySem.W.codeIn K cd14 "law" = true) (k14 : PySem.W.keepIn K (.ref f14) = true)
    (z_abs : PySem.W.nsIn K mainGlobals "abs" = some none)
    (z_all : PySem.W.nsIn K mainGlobals "all" = some none)
    (z_bool : PySem.W.nsIn K mainGlobals "bool" = some none)
    (z_enumerate : PySem.W.nsIn K mainGlobals "enumerate" = some none)
    (z_int : PySem.W.nsIn K mainGlobals "int" = some none)
    (z_isinstance : PySem.W.nsIn K mainGlobals "isinstance" = some none)
    (z_len : PySem.W.nsIn K mainGlobals "len" = some none)
    (z_max : PySem.W.nsIn K mainGlobals "max" = some none)
    (z_min : PySem.W.nsIn K mainGlobals "min" = some none)
    (z_range : PySem.W.nsIn K mainGlobals "range" = some none)
    (z_str : PySem.W.nsIn K mainGlobals "str" = some none)
    (z_tuple : PySem.W.nsIn K mainGlobals "tuple" = some none)
    (z_zip : PySem.W.nsIn K mainGlobals "zip" = some none)
    (q_MOST_SIGNS : PySem.W.nsIn K mainGlobals "MOST_SIGNS" = some (some (.int MOST_SIGNS_val tk_MOST_SIGNS)))
    : ∃ fd : FuncData, (∀ (s : Shared) (v : Value), BindsTo s fd ⟨[v], []⟩ [("script", v)]) ∧ ∀ base : Heap, K.In base → base.Ns mainGlobals mg → FnOk l.prog w K mg base CX0 5 fa fd ["script"] (sp_law K) := by
  have D_law_draws : DefAt K mg "_law_draws" s_law_draws ["script", "k"] := def_mk X G a0 l0 c0 k0 fun _ _ _ _ _ _ us hl => match us, hl with | [_, _], _ => rfl
  have D_law_draw : DefAt K mg "_law_draw" s_law_draw ["draws", "many"] := def_mk X G a1 l1 c1 k1 fun _ _ _ _ _ _ us hl => match us, hl with | [_, _], _ => rfl
  have D_law_figures : DefAt K mg "_law_figures" s_law_figures ["draws", "most"] := def_mk X G a2 l2 c2 k2 fun _ _ _ _ _ _ us hl => match us, hl with | [_, _], _ => rfl
  have D_law_bottom : DefAt K mg "_law_bottom" s_law_bottom ["draws"] := def_mk X G a3 l3 c3 k3 fun _ _ _ _ _ _ us hl => match us, hl with | [_], _ => rfl
  have D_law_heights : DefAt K mg "_law_heights" s_law_heights ["stair", "k", "n"] := def_mk X G a4 l4 c4 k4 fun _ _ _ _ _ _ us hl => match us, hl with | [_, _, _], _ => rfl
  have D_law_text : DefAt K mg "_law_text" s_law_text ["stair", "n"] := def_mk X G a5 l5 c5 k5 fun _ _ _ _ _ _ us hl => match us, hl with | [_, _], _ => rfl
  have D_need_steps : DefAt K mg "need_steps" s_need_steps ["text"] := def_mk X G a6 l6 c6 k6 fun _ _ _ _ _ _ us hl => match us, hl with | [_], _ => rfl
  have D_sums_in : DefAt K mg "sums_in" s_sums_in ["text"] := def_mk X G a7 l7 c7 k7 fun _ _ _ _ _ _ us hl => match us, hl with | [_], _ => rfl
  have D_unlike_pieces : DefAt K mg "unlike_pieces" s_unlike_pieces ["sums"] := def_mk X G a8 l8 c8 k8 fun _ _ _ _ _ _ us hl => match us, hl with | [_], _ => rfl
  have D_slopes_around : DefAt K mg "slopes_around" s_slopes_around ["sums"] := def_mk X G a9 l9 c9 k9 fun _ _ _ _ _ _ us hl => match us, hl with | [_], _ => rfl
  have D_stair_of : DefAt K mg "stair_of" s_stair_of ["text"] := def_mk X G a10 l10 c10 k10 fun _ _ _ _ _ _ us hl => match us, hl with | [_], _ => rfl
  have D_law_whole : DefAt K mg "_law_whole" s_law_whole ["thing"] := def_mk X G a11 l11 c11 k11 fun _ _ _ _ _ _ us hl => match us, hl with | [_], _ => rfl
  have D_law_common : DefAt K mg "_law_common" s_law_common ["one", "other"] := def_mk X G a12 l12 c12 k12 fun _ _ _ _ _ _ us hl => match us, hl with | [_, _], _ => rfl
  have D_law_first : DefAt K mg "_law_first" s_law_first ["text", "most"] := def_mk X G a13 l13 c13 k13 fun _ _ _ _ _ _ us hl => match us, hl with | [_, _], _ => rfl
  have D_law : DefAt K mg "law" s_law ["script"] := def_mk X G a14 l14 c14 k14 fun _ _ _ _ _ _ us hl => match us, hl with | [_], _ => rfl
  have e := hfa.symm.trans (PySem.W.mg_of X G a14)
  cases e
  refine ⟨PySem.W.fnOf "law" "law" (defArgs s_law) (defBody s_law) (defScope s_law) .none kV14 dc14 pm14 an14 cd14 ct14, fun s v => .of_eq rfl, fun base _ _ => ?_⟩
  have B_abs := PySem.W.mg_none_of X G z_abs
  have B_all := PySem.W.mg_none_of X G z_all
  have B_bool := PySem.W.mg_none_of X G z_bool
  have B_enumerate := PySem.W.mg_none_of X G z_enumerate
  have B_int := PySem.W.mg_none_of X G z_int
  have B_isinstance := PySem.W.mg_none_of X G z_isinstance
  have B_len := PySem.W.mg_none_of X G z_len
  have B_max := PySem.W.mg_none_of X G z_max
  have B_min := PySem.W.mg_none_of X G z_min
  have B_range := PySem.W.mg_none_of X G z_range
  have B_str := PySem.W.mg_none_of X G z_str
  have B_tuple := PySem.W.mg_none_of X G z_tuple
  have B_zip := PySem.W.mg_none_of X G z_zip
  have T_MOST_SIGNS : ∃ t, mg "MOST_SIGNS" = some (.int MOST_SIGNS_val t) := ⟨_, PySem.W.mg_of X G q_MOST_SIGNS⟩
  have G_law_draws := ok_law_draws (P := l.prog) (w := w) (base := base) D_law_draws B_len B_int
  have G_law_draw := ok_law_draw (P := l.prog) (w := w) (base := base) D_law_draw
  have G_law_figures := ok_law_figures (P := l.prog) (w := w) (base := base) D_law_figures B_range G_law_draw
  have G_law_bottom := ok_law_bottom (P := l.prog) (w := w) (base := base) D_law_bottom B_abs G_law_draw G_law_figures
  have G_law_heights := ok_law_heights (P := l.prog) (w := w) (base := base) D_law_heights B_range
  have G_law_text := ok_law_text (P := l.prog) (w := w) (base := base) D_law_text B_zip G_law_heights
  have G_need_steps := ok_need_steps (P := l.prog) (w := w) (base := base) D_need_steps B_all B_len B_isinstance B_str T_MOST_SIGNS
  have G_sums_in := ok_sums_in (P := l.prog) (w := w) (base := base) D_sums_in B_int
  have G_unlike_pieces := ok_unlike_pieces (P := l.prog) (w := w) (base := base) D_unlike_pieces B_range B_len B_max B_min
  have G_slopes_around := ok_slopes_around (P := l.prog) (w := w) (base := base) D_slopes_around B_range B_len B_max B_min
  have G_stair_of := ok_stair_of (P := l.prog) (w := w) (base := base) D_stair_of B_max B_enumerate G_need_steps G_sums_in G_unlike_pieces G_slopes_around
  have G_law_whole := ok_law_whole (P := l.prog) (w := w) (base := base) D_law_whole B_isinstance B_int B_bool
  have G_law_common := ok_law_common (P := l.prog) (w := w) (base := base) D_law_common B_abs
  have G_law_first := ok_law_first (P := l.prog) (w := w) (base := base) D_law_first B_range B_len G_law_text
  exact ok_law (fun_mk (st := s_law) l14 c14 k14) B_range B_max B_min B_len B_isinstance B_tuple G_law_draws G_law_bottom G_law_draw G_law_text G_stair_of G_law_whole G_law_common G_law_first
theorem walk {l : PySem.W.OpenLaw} {q : Program} {loose : List Str} {XP : (Str → Option Value) → Heap → Prop} {YP : World → Heap → Prop} {d : DefRec} {K : Params → PySem.W.Frag} (hn : l.most = some 63) (hdf : d.params.defaults = [])
    (hY : ∀ (w : World) (h : Heap), YP w h → (K w.params).In h)
    (F : ∀ (w : World) (mg : Str → Option Value) (fa : Addr) (h : Heap), (K w.params).In h → h.Ns mainGlobals mg → mg d.name = some (.ref fa) →
      ∃ fd : FuncData, (∀ (s : Shared) (u : Value), BindsTo s fd ⟨[u], []⟩ [("script", u)]) ∧ ∀ base : Heap, (K w.params).In base → base.Ns mainGlobals mg → FnOk l.prog w (K w.params) mg base CX0 5 fa fd ["script"] (sp_law (K w.params))) :
    PySem.W.WalkO q loose XP YP l.row.toRowW d [] (fun f vs => PySem.call f vs) :=
  L2.walk_of (n := 63) (k := 5) (x := "script") (CX := fun _ => CX0) (sp := fun w => sp_law (K w.params)) hn (by decide) hdf ⟨rfl, by decide, by decide⟩ hY F (fun _ _ a ns hl _ hS => ⟨a, ns, rfl, hS, hl, fun _ => rfl⟩) fun _ _ _ _ _ z => z
end Sd
open PySem PySem.W PyProof.Rows
set_option maxRecDepth 100000 in
set_option maxHeartbeats 0 in
theorem PySem.Challenge.cw_stairsum_k25_whole_stairs_of_texts_holds : PySem.Challenge.rw_stairsum_k25_whole_stairs_of_texts.Holds := by
  w_on; o_law; k_head; (case hw => w_witness2)
  k_fill
  refine Sd.walk (l := PySem.Challenge.rw_stairsum_k25_whole_stairs_of_texts) rfl rfl (fun w h Y => PySem.W.kIn_of Y) ?F
  case F =>
    intro w mg fa h KX G hmg
    refine' Sd.all_mk KX G hmg ?a0 ?l0 ?c0 ?k0 ?a1 ?l1 ?c1 ?k1 ?a2 ?l2 ?c2 ?k2 ?a3 ?l3 ?c3 ?k3 ?a4 ?l4 ?c4 ?k4 ?a5 ?l5 ?c5 ?k5 ?a6 ?l6 ?c6 ?k6 ?a7 ?l7 ?c7 ?k7 ?a8 ?l8 ?c8 ?k8 ?a9 ?l9 ?c9 ?k9 ?a10 ?l10 ?c10 ?k10 ?a11 ?l11 ?c11 ?k11 ?a12 ?l12 ?c12 ?k12 ?a13 ?l13 ?c13 ?k13 ?a14 ?l14 ?c14 ?k14 ?z_abs ?z_all ?z_bool ?z_enumerate ?z_int ?z_isinstance ?z_len ?z_max ?z_min ?z_range ?z_str ?z_tuple ?z_zip ?q_MOST_SIGNS
    (case a0 => k_is)
    (case l0 => k_is)
    (case c0 => k_is)
    (case k0 => k_is)
    (case a1 => k_is)
    (case l1 => k_is)
    (case c1 => k_is)
    (case k1 => k_is)
    (case a2 => k_is)
    (case l2 => k_is)
    (case c2 => k_is)
    (case k2 => k_is)
    (case a3 => k_is)
    (case l3 => k_is)
    (case c3 => k_is)
    (case k3 => k_is)
    (case a4 => k_is)
    (case l4 => k_is)
    (case c4 => k_is)
    (case k4 => k_is)
    (case a5 => k_is)
    (case l5 => k_is)
    (case c5 => k_is)
    (case k5 => k_is)
    (case a6 => k_is)
    (case l6 => k_is)
    (case c6 => k_is)
    (case k6 => k_is)
    (case a7 => k_is)
    (case l7 => k_is)
    (case c7 => k_is)
    (case k7 => k_is)
    (case a8 => k_is)
    (case l8 => k_is)
    (case c8 => k_is)
    (case k8 => k_is)
    (case a9 => k_is)
    (case l9 => k_is)
    (case c9 => k_is)
    (case k9 => k_is)
    (case a10 => k_is)
    (case l10 => k_is)
    (case c10 => k_is)
    (case k10 => k_is)
    (case a11 => k_is)
    (case l11 => k_is)
    (case c11 => k_is)
    (case k11 => k_is)
    (case a12 => k_is)
    (case l12 => k_is)
    (case c12 => k_is)
    (case k12 => k_is)
    (case a13 => k_is)
    (case l13 => k_is)
    (case c13 => k_is)
    (case k13 => k_is)
    (case a14 => k_is)
    (case l14 => k_is)
    (case c14 => k_is)
    (case k14 => k_is)
    (case z_abs => k_is)
    (case z_all => k_is)
    (case z_bool => k_is)
    (case z_enumerate => k_is)
    (case z_int => k_is)
    (case z_isinstance => k_is)
    (case z_len => k_is)
    (case z_max => k_is)
    (case z_min => k_is)
    (case z_range => k_is)
    (case z_str => k_is)
    (case z_tuple => k_is)
    (case z_zip => k_is)
    (case q_MOST_SIGNS => k_is)

