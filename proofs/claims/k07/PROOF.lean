import PyProof.Rows.All
import Wide.All
import OpenK.AllK
import Wide.FinOn
import HandS.ForMost
import HandS.Conv
import KE.Datum
import HandS.DeepEq
import HandS.Exc
import HandS.ExcOwn
import HandS.TryOnly
import HandS.TryMany
import HandS.WordsExc
import HandS.IsInst
import HandS.Wide
import HandS.Nested
import HandS.HeadHook4
import HandS.HeadWalk
import HandS.Head0
import HandS.Head1
import HandS.Head2
import HandS.HeadEnd
import PySem.Challenge.RW_anewhall_k07_knots_of_names
set_option Elab.async false
set_option linter.all false
set_option maxRecDepth 100000
set_option maxHeartbeats 4000000
/-! ## the layer of this proof: a def's promise by one word, readings by named steps -/
namespace L2.An
open PySem PySem.Spec PyProof.Rows

/-! ### defs -/
section
variable (P : Program) (w : World) (K : PySem.W.Frag) (mg : Str → Option Value) (base : Heap)
/-- the def at f keeps the promise -/
def Ok (k : Nat) (f : Addr) (ps : List Str) (sp : Sp) : Prop :=
  ∃ fd, FnOk P w K mg base (L2.CX P w) k f fd ps sp ∧ Binds K fd ps [] ∧ PySem.W.keepIn K (.ref f) = true ∧ ∃ oc od osl, K.lookup f = some ⟨oc, od, .func fd, osl⟩
end
section
variable {P : Program} {w : World} {K : PySem.W.Frag} {mg : Str → Option Value} {base : Heap} {k j : Nat} {f : Addr} {ps : List Str} {sp sp' : Sp}
theorem Ok.mono (o : Ok P w K mg base j f ps sp) (h : j ≤ k) : Ok P w K mg base k f ps sp := let ⟨fd, F, b, kp⟩ := o; ⟨fd, F.mono h, b, kp⟩
theorem Ok.imp (o : Ok P w K mg base k f ps sp) (h : ∀ vs H Q E, sp' vs H Q E → sp vs H Q E) : Ok P w K mg base k f ps sp' := let ⟨fd, F, b, kp⟩ := o; ⟨fd, F.imp h, b, kp⟩
/-- a def of the text as the head tells it -/
abbrev Def (K : PySem.W.Frag) (x qual : Str) (st : Stmt) (f : Addr) : Prop := ∃ fd, FunD K x qual (defArgs st) (defBody st) (defScope st) [] [] f fd
theorem def_lk {x qual : Str} {st : Stmt} {fd : FuncData} (F : FunD K x qual (defArgs st) (defBody st) (defScope st) [] [] f fd) : ∃ oc od osl, K.lookup f = some ⟨oc, od, .func fd, osl⟩ := by
  obtain ⟨oc, od, dV, kV, doc, pm, an, cdv, ct, osl, e, lk, _⟩ := F.ex
  exact ⟨oc, od, osl, e ▸ lk⟩
theorem ok_law_at {x qual : Str} {st : Stmt} (D : Def K x qual st f)
    (hb : ∀ (kV doc pm : Value) (an : Option Addr) (cdv ct : Value) (us : List Value), us.length = ps.length → bindArgs (PySem.W.fnOf x qual (defArgs st) (defBody st) (defScope st) .none kV doc pm an cdv ct) ⟨us, []⟩ = pure (ps.zip us))
    (hl : ps.length = 1) (F : ∀ base : Heap, Ok P w K mg base k f ps sp) : ∃ fd : FuncData, (∀ base : Heap, FnOk P w K mg base (L2.CX P w) k f fd ps sp) ∧ ∀ (s : Shared) (u : Value), BindsTo s fd ⟨[u], []⟩ (ps.zip [u]) := by
  obtain ⟨fd, D⟩ := D
  obtain ⟨oc, od, osl, lk⟩ := def_lk D
  refine ⟨fd, fun base => ?_, fun s u => FunD.bindsA D hb s [u] hl.symm⟩
  obtain ⟨fd2, F2, _, _, oc2, od2, osl2, lk2⟩ := F base
  rw [lk] at lk2
  cases lk2
  exact F2
theorem cx_never {P : Program} {w : World} {o : List Env} {H : Hp} {s s' : Shared} {u : Value} (z : L2.CX P w o H s (fun _ _ _ => False) u s') : False := by
  obtain ⟨_, _, _, _, _, _, _, _, _, _, _, _, z⟩ := z
  exact z
/-- a def that lets nothing out -/
theorem ok0 {x qual : Str} {st : Stmt} {N : List Str} (D : Def K x qual st f) (S : FnScope N ps (defScope st))
    (hb : ∀ (kV doc pm : Value) (an : Option Addr) (cdv ct : Value) (us : List Value), us.length = ps.length → bindArgs (PySem.W.fnOf x qual (defArgs st) (defBody st) (defScope st) .none kV doc pm an cdv ct) ⟨us, []⟩ = pure (ps.zip us))
    (len : ∀ vs H Q E, sp vs H Q E → vs.length = ps.length)
    (hbody : ∀ (cdv : Value) (A : Around) (outer : List Env) (s : Shared) (H : Hp) (vs : List V) (Q : VK) (E : XK), Room k (A.deeper (envOfC qual (defScope st) s.heap.objs.size f cdv)) → sp vs H Q E →
      ∃ t, PSs (cxOf (L2.CX P w) P w K mg base N qual (defScope st) f cdv A outer s H E).nox (defBody st) t ∧ t { nx := fun _ H' => Q .non H', rt := Q } (start N vs) H) : Ok P w K mg base (k + 1) f ps sp := by
  obtain ⟨fd, F⟩ := D
  refine ⟨fd, F.ok S len fun cdv A outer s H vs Q E hr h => ?_, FunD.bindsN F hb, F.kp, def_lk F⟩
  obtain ⟨t, ht, q⟩ := hbody cdv A outer s H vs Q E hr h
  exact ⟨t, ht.nox, q⟩
end

/-! ### calls of defs: the promise, what is let out by W -/
def tCW (sp : Sp) (W : WX) (t : TA) : TE := fun σ H Q => t σ H fun vs H1 => sp vs H1 Q (fun cls d H' => W cls d σ H')
section
variable {X : Cx} {W : WX} {k : Nat} {f : Addr} {ps : List Str} {sp : Sp} {x : Str} {p pos : Pos} {e : Expr} {es : List Expr} {t : TA}
theorem an_call (F : Ok X.prog X.w X.K X.mg X.base k f ps sp) (hr : Room k X.A) (tk : Takes X W) (hm : X.mg x = some (.ref f)) (ha : PA X (e :: es) t) (hg : Gl X x := by rfl)
    (hdb : (x == ("__debug__" : Str)) = false := by decide) (he : starEach (e :: es) X.env = (false, eval e X.env) :: starEach es X.env := by rfl) (hpl : (backTo pos (starEach es X.env)).any (·.1) = false := by rfl) :
    PE X (.Call (.Name x p) (e :: es) [] pos) (tCW sp W t) := by
  obtain ⟨fd, F, b, kp, _⟩ := F
  exact pe_callS (E := WE W) F hr hg hm kp b (passAt tk) ha hdb he hpl
end

def skv (l : List (Str × V)) : List (Key × V) := l.map fun p => (Sum.inr p.1, p.2)
abbrev dS (l : List (Str × V)) : HO := .dK (skv l)
/-! ### expressions: steps -/
section
variable {σ : St} {H : Hp} {Q : VK} {i : Nat} {v x y : V} {ta tb te : TE} {r : R2} {K : PySem.W.Frag}
theorem e_var (h : σ[i]? = some (some v)) (q : Q v H) : tVar i σ H Q := ⟨v, h, q⟩
theorem e_c (q : Q v H) : tC v σ H Q := q
theorem e_op (h : ta σ H fun x H1 => tb σ H1 fun y H2 => r x y H2 Q) : tOp r ta tb σ H Q := h
theorem e_un {r : V → Hp → VK → Prop} (h : ta σ H fun x H1 => r x H1 Q) : tUn r ta σ H Q := h
theorem e_I0 {g : Int → Int → V} {a b : Int} (q : Q (g a b) H) : rI0 g (.int a) (.int b) H Q := ⟨a, b, rfl, rfl, q⟩
theorem e_I {C : Int → Int → Prop} {g : Int → Int → V} {a b : Int} (c : C a b) (q : Q (g a b) H) : rI C g (.int a) (.int b) H Q := ⟨a, b, rfl, rfl, c, q⟩
theorem e_eqI {a b : Int} (q : Q (.bl (decide (a = b))) H) : rEq (.int a) (.int b) H Q := ⟨rfl, by
  rw [show decide (V.int a = V.int b) = decide (a = b) from decide_eq_decide.mpr ⟨fun e => V.int.inj e, fun e => congrArg _ e⟩]
  exact q⟩
theorem e_neI {a b : Int} (q : Q (.bl (!decide (a = b))) H) : rNe (.int a) (.int b) H Q := ⟨rfl, by
  rw [show decide (V.int a = V.int b) = decide (a = b) from decide_eq_decide.mpr ⟨fun e => V.int.inj e, fun e => congrArg _ e⟩]
  exact q⟩
theorem e_eqS {a b : Str} (q : Q (.bl (decide (a = b))) H) : rEq (.str a) (.str b) H Q := ⟨rfl, by
  rw [show decide (V.str a = V.str b) = decide (a = b) from decide_eq_decide.mpr ⟨fun e => V.str.inj e, fun e => congrArg _ e⟩]
  exact q⟩
theorem e_neS {a b : Str} (q : Q (.bl (!decide (a = b))) H) : rNe (.str a) (.str b) H Q := ⟨rfl, by
  rw [show decide (V.str a = V.str b) = decide (a = b) from decide_eq_decide.mpr ⟨fun e => V.str.inj e, fun e => congrArg _ e⟩]
  exact q⟩
theorem e_pn {e : TE} {tr : TA} {Q : List V → Hp → Prop} (h : e σ H fun x H1 => tr σ H1 fun xs H2 => Q (x :: xs) H2) : tCons e tr σ H Q := h
theorem e_p0 {Q : List V → Hp → Prop} (h : Q [] H) : tNil σ H Q := h
theorem e_cb {r : List V → Hp → VK → Prop} {t : TA} (h : t σ H fun vs H1 => r vs H1 Q) : tCB r t σ H Q := h
theorem e_cw {sp : Sp} {W : WX} {t : TA} (h : t σ H fun vs H1 => sp vs H1 Q (fun cls d H' => W cls d σ H')) : tCW sp W t σ H Q := h
theorem e_lst {t : TA} (h : t σ H fun xs H1 => xs.length ≤ sizeLine ∧ ∀ p, H1 p = none → Q (.ref p) (upd H1 p (.lst xs))) : tLst t σ H Q := h
theorem e_sz {xs : List V} {P : Prop} (h : Nat.ble xs.length sizeLine = true) (q : P) : xs.length ≤ sizeLine ∧ P := ⟨Nat.le_of_ble_eq_true h, q⟩
theorem e_tup {t : TA} (h : t σ H fun xs H1 => xs.length ≤ sizeLine ∧ ∀ p, H1 p = none → Q (.ref p) (upd H1 p (.tup xs))) : tTup t σ H Q := h
theorem e_bm {T : String} {r : V → List V → Hp → VK → Prop} {t : TA} (h : ta σ H fun x H1 => tyV K T x H1 ∧ t σ H1 fun xs H2 => r x xs H2 Q) : tBM K T r ta t σ H Q := h
theorem e_bm0 {T : String} {r : V → List V → Hp → VK → Prop} (h : ta σ H fun x H1 => tyV K T x H1 ∧ r x [] H1 Q) : tBM0 K T r ta σ H Q := h
theorem e_if {t : TT} (h : t σ H fun c H1 => if c = true then ta σ H1 Q else tb σ H1 Q) : tIf t ta tb σ H Q := h
end
/-! tests -/
section
variable {σ : St} {H : Hp} {Q : Bool → Hp → Prop} {t u : TT} {te : TE}
theorem e_tst (h : te σ H fun x H' => ∃ k, x = .bl k ∧ Q k H') : tTest te σ H Q := h
theorem e_tB (h : te σ H fun x H' => ∃ k, x = .bl k ∧ Q k H') : tB te σ H Q := h
theorem e_bk {k : Bool} {Q : Bool → Prop} (q : Q k) : ∃ k', V.bl k = .bl k' ∧ Q k' := ⟨k, rfl, q⟩
theorem e_and (h : t σ H fun c H1 => if c = true then u σ H1 Q else Q false H1) : tAnd t u σ H Q := h
theorem e_or (h : t σ H fun c H1 => if c = true then Q true H1 else u σ H1 Q) : tOr t u σ H Q := h
theorem e_not (h : t σ H fun c H1 => Q (!c) H1) : tNot t σ H Q := h
theorem ifd {p A B : Prop} [Decidable p] (h1 : p → A) (h2 : ¬ p → B) : if decide p = true then A else B := by
  by_cases h : p
  · rw [if_pos (decide_eq_true h)]
    exact h1 h
  · rw [if_neg (by rw [decide_eq_false h]; exact Bool.false_ne_true)]
    exact h2 h
theorem ifn {p A B : Prop} [Decidable p] (h1 : ¬ p → A) (h2 : p → B) : if (!decide p) = true then A else B := by
  by_cases h : p
  · rw [decide_eq_true h]
    exact iteF (h2 h)
  · rw [decide_eq_false h]
    exact iteT (h1 h)
theorem ifb {b : Bool} {A B : Prop} (h1 : b = true → A) (h2 : b = false → B) : if b = true then A else B := by
  cases b with
  | true => exact iteT (h1 rfl)
  | false => exact iteF (h2 rfl)
theorem ifnb {b : Bool} {A B : Prop} (h1 : b = false → A) (h2 : b = true → B) : if (!b) = true then A else B := by
  cases b with
  | true => exact iteF (h2 rfl)
  | false => exact iteT (h1 rfl)
end
/-- a for's word, named -/
def kFor (J : It) (g : TG) (tb : TS) (D : Ends) (σ : St) (H : Hp) : Prop := ∃ W : Nat → Nat → St → Hp → Prop, (∃ m, W 0 m σ H) ∧ ∀ i m σ H, W i m σ H →
  (J.stop i H ∧ D.nx σ H) ∨ (J.go i H ∧ ∃ N : St → Hp → Prop, (∀ σ' H', N σ' H' → ∃ m', m' < m ∧ W (i + 1) m' σ' H') ∧ ∀ x H', J.yld i H x H' → g x σ H' fun σ2 H2 => tb { D with nx := N, ct := N, bk := D.nx } σ2 H2)
def kIL (K : PySem.W.Frag) (x : V) (H : Hp) (R : It → Hp → Prop) : Prop := ∃ a, x = .ref a ∧ (∃ xs, SqL K H a xs) ∧ R (Itl K a) H
def kIU (K : PySem.W.Frag) (x : V) (H : Hp) (R : It → Hp → Prop) : Prop := ∃ a, x = .ref a ∧ (∃ xs, SqT K H a xs) ∧ R (Itt K a) H
def kIR (vs : List V) (H : Hp) (R : It → Hp → Prop) : Prop := ∃ j : Int, vs = [.int j] ∧ -(2 ^ 62) ≤ j ∧ j < 2 ^ 62 ∧ R (Itr 0 j.toNat) H
def kIS (x : V) (H : Hp) (R : It → Hp → Prop) : Prop := ∃ z, x = .str z ∧ R (Its z) H
def kIK (x : V) (H : Hp) (R : It → Hp → Prop) : Prop := ∃ d o, x = .ref d ∧ ((∃ kvs, H d = some (.frz o (.dK kvs)) ∧ R (Itk d o kvs) H) ∨ ∃ kvs, H d = some (.frz o (.dT kvs)) ∧ R (Itkt d o kvs) H)
def kLock (t : TS) (D : Ends) (σ : St) (H : Hp) : Prop := ∃ d u, H d = some u ∧ Mut (some u) ∧ ∀ od, t ⟨fun σ' H' => H' d = some (.frz od u) ∧ D.nx σ' (upd H' d u), fun v H' => H' d = some (.frz od u) ∧ D.rt v (upd H' d u), fun σ' H' => H' d = some (.frz od u) ∧ D.bk σ' (upd H' d u), fun σ' H' => H' d = some (.frz od u) ∧ D.ct σ' (upd H' d u)⟩ σ (upd H d (.frz od u))
/-! ### statements: steps -/
section
variable {D : Ends} {t u : TS} {σ : St} {H : Hp} {te ta : TE} {i : Nat}
theorem st_seq (h : t ⟨u D, D.rt, D.bk, D.ct⟩ σ H) : tSeq t u D σ H := h
theorem st_nx {N : St → Hp → Prop} {R : VK} {B C : St → Hp → Prop} (h : N σ H) : Ends.nx ⟨N, R, B, C⟩ σ H := h
theorem st_rt {N : St → Hp → Prop} {R : VK} {B C : St → Hp → Prop} {v : V} (h : R v H) : Ends.rt ⟨N, R, B, C⟩ v H := h
theorem st_bk {N : St → Hp → Prop} {R : VK} {B C : St → Hp → Prop} (h : B σ H) : Ends.bk ⟨N, R, B, C⟩ σ H := h
theorem st_ct {N : St → Hp → Prop} {R : VK} {B C : St → Hp → Prop} (h : C σ H) : Ends.ct ⟨N, R, B, C⟩ σ H := h
theorem st_while {c : TT} {tb : TS} (W : Nat → St → Hp → Prop) (m0 : Nat) (h0 : W m0 σ H) (hs : ∀ m σ H, W m σ H → c σ H fun b H1 => if b = true then ∃ N : St → Hp → Prop, (∀ σ' H', N σ' H' → ∃ m', m' < m ∧ W m' σ' H') ∧ tb { D with nx := N, ct := N, bk := D.nx } σ H1 else D.nx σ H1) : tWhile c tb D σ H :=
  ⟨W, ⟨m0, h0⟩, hs⟩
theorem st_wt {tb : TS} {W : Nat → St → Hp → Prop} {m : Nat} {R : VK} {B : St → Hp → Prop} (h : tb ⟨fun σ' H' => ∃ m', m' < m ∧ W m' σ' H', R, B, fun σ' H' => ∃ m', m' < m ∧ W m' σ' H'⟩ σ H) : ∃ N : St → Hp → Prop, (∀ σ' H', N σ' H' → ∃ m', m' < m ∧ W m' σ' H') ∧ tb ⟨N, R, B, N⟩ σ H := ⟨_, fun _ _ z => z, h⟩
theorem st_for {wi : TI} {g : TG} {tb : TS} (h : wi σ H fun J H1 => kFor J g tb D σ H1) : tFor wi g tb D σ H := h
theorem st_iL {K : PySem.W.Frag} {R : It → Hp → Prop} (h : te σ H fun x H1 => kIL K x H1 R) : iList K te σ H R := h
theorem st_iU {K : PySem.W.Frag} {R : It → Hp → Prop} (h : te σ H fun x H1 => kIU K x H1 R) : iTup K te σ H R := h
theorem st_iR1 {ta : TA} {R : It → Hp → Prop} (h : ta σ H fun vs H1 => kIR vs H1 R) : iRng1 ta σ H R := h
theorem st_iS {R : It → Hp → Prop} (h : te σ H fun v H1 => kIS v H1 R) : iStr te σ H R := h
theorem st_iK {R : It → Hp → Prop} (h : te σ H fun x H1 => kIK x H1 R) : iKeys te σ H R := h
/-- for over a list: the invariant, the list, the start, the list stays, a turn, behind -/
theorem k_forL {K : PySem.W.Frag} {a : Addr} {xs : List V} {g : TG} {tb : TS} (Pv : Nat → St → Hp → Prop) (hx : SqL K H a xs) (h0 : Pv 0 σ H) (hl : ∀ i σ H, i ≤ xs.length → Pv i σ H → SqL K H a xs)
    (hs : ∀ i x σ H, xs[i]? = some x → Pv i σ H → g x σ H fun σ2 H2 => tb ⟨Pv (i + 1), D.rt, D.nx, Pv (i + 1)⟩ σ2 H2) (hd : ∀ σ H, Pv xs.length σ H → D.nx σ H) : kIL K (.ref a) H fun J H1 => kFor J g tb D σ H1 :=
  ⟨a, rfl, ⟨xs, hx⟩, for_list Pv h0 hl hs hd⟩
theorem k_forU {K : PySem.W.Frag} {a : Addr} {xs : List V} {g : TG} {tb : TS} (Pv : Nat → St → Hp → Prop) (hx : SqT K H a xs) (h0 : Pv 0 σ H) (hl : ∀ i σ H, i ≤ xs.length → Pv i σ H → SqT K H a xs)
    (hs : ∀ i x σ H, xs[i]? = some x → Pv i σ H → g x σ H fun σ2 H2 => tb ⟨Pv (i + 1), D.rt, D.nx, Pv (i + 1)⟩ σ2 H2) (hd : ∀ σ H, Pv xs.length σ H → D.nx σ H) : kIU K (.ref a) H fun J H1 => kFor J g tb D σ H1 :=
  ⟨a, rfl, ⟨xs, hx⟩, for_tup Pv h0 hl hs hd⟩
theorem k_forR {n : Int} {g : TG} {tb : TS} (Pv : Nat → St → Hp → Prop) (hn : n < 2 ^ 62) (hn0 : 0 ≤ n) (h0 : Pv 0 σ H)
    (hs : ∀ (i : Nat) σ H, (i : Int) < n → Pv i σ H → g (.int i) σ H fun σ2 H2 => tb ⟨Pv (i + 1), D.rt, D.nx, Pv (i + 1)⟩ σ2 H2) (hd : ∀ σ H, Pv n.toNat σ H → D.nx σ H) : kIR [V.int n] H fun J H1 => kFor J g tb D σ H1 :=
  ⟨n, rfl, by omega, hn, for_range (lo := 0) (n := n.toNat) Pv h0 (fun i σ H hi p => by
        have e : (0 : Int) + (i : Nat) = (i : Int) := by omega
        have q := hs i σ H (by omega) p
        rw [← e] at q
        exact q) hd⟩
/-- for over a text -/
theorem k_forS {z : Str} {g : TG} {tb : TS} (Pv : Nat → St → Hp → Prop) (h0 : Pv 0 σ H)
    (hs : ∀ i c σ H, z.cps.toList[i]? = some c → Pv i σ H → g (.str ⟨#[c]⟩) σ H fun σ2 H2 => tb ⟨Pv (i + 1), D.rt, D.nx, Pv (i + 1)⟩ σ2 H2) (hd : ∀ σ H, Pv z.length σ H → D.nx σ H) : kIS (.str z) H fun J H1 => kFor J g tb D σ H1 :=
  ⟨z, rfl, fun i m σ H => m = z.length - i ∧ i ≤ z.length ∧ Pv i σ H, ⟨z.length, by simp, Nat.zero_le _, h0⟩, by
    rintro i m σ H ⟨rfl, hi, p⟩
    by_cases hlt : i < z.length
    · refine .inr ⟨hlt, Pv (i + 1), fun σ' H' p' => ⟨z.length - (i + 1), by omega, rfl, hlt, p'⟩, fun x H' y => ?_⟩
      obtain ⟨e, c, hc, y⟩ := y
      subst e y
      exact hs i c σ _ (by rw [Array.getElem?_toList]; exact hc) p
    · have e : i = z.length := by omega
      subst e
      exact .inl ⟨Nat.le_refl _, hd σ H p⟩⟩
theorem st_lock {t : TS} (h : kLock t D σ H) : tLock t D σ H := h
theorem k_lock {t : TS} (d : Addr) (u : HO) (h : H d = some u) (m : Mut (some u)) (q : ∀ od, t ⟨fun σ' H' => H' d = some (.frz od u) ∧ D.nx σ' (upd H' d u), fun v H' => H' d = some (.frz od u) ∧ D.rt v (upd H' d u), fun σ' H' => H' d = some (.frz od u) ∧ D.bk σ' (upd H' d u), fun σ' H' => H' d = some (.frz od u) ∧ D.ct σ' (upd H' d u)⟩ σ (upd H d (.frz od u))) : kLock t D σ H := ⟨d, u, h, m, q⟩
/-- for over a dict's keys, under the lock -/
theorem k_forK {d : Addr} {od : Obj} {l : List (Str × V)} {g : TG} {tb : TS} (Pv : Nat → St → Hp → Prop) (h : H d = some (.frz od (.dK (skv l)))) (h0 : Pv 0 σ H) (hl : ∀ i σ H, Pv i σ H → H d = some (.frz od (.dK (skv l))))
    (hs : ∀ i k v σ H, l[i]? = some (k, v) → Pv i σ H → g (.str k) σ H fun σ2 H2 => tb ⟨Pv (i + 1), D.rt, D.nx, Pv (i + 1)⟩ σ2 H2) (hd : ∀ σ H, Pv l.length σ H → D.nx σ H) : kIK (.ref d) H fun J H1 => kFor J g tb D σ H1 :=
  ⟨d, od, rfl, .inl ⟨skv l, h, fun i m σ H => m = l.length - i ∧ i ≤ l.length ∧ Pv i σ H, ⟨l.length, by simp, Nat.zero_le _, h0⟩, by
    rintro i m σ H ⟨rfl, hi, p⟩
    have ls : (skv l).length = l.length := List.length_map _
    by_cases hlt : i < l.length
    · refine .inr ⟨⟨hl i σ H p, by rw [ls]; exact hlt⟩, Pv (i + 1), fun σ' H' p' => ⟨l.length - (i + 1), by omega, rfl, hlt, p'⟩, fun x H' y => ?_⟩
      obtain ⟨e, k, v, hk, y⟩ := y
      subst e y
      unfold skv at hk
      rw [List.getElem?_map] at hk
      cases q : l[i]? with
      | none => rw [q] at hk; cases hk
      | some kv =>
        rw [q] at hk
        cases hk
        exact hs i kv.1 kv.2 σ _ (by rw [q]) p
    · have e : i = l.length := by omega
      subst e
      exact .inl ⟨⟨hl _ σ H p, by rw [ls]; exact Nat.le_refl _⟩, hd σ H p⟩⟩⟩
theorem st_next (h : D.nx σ H) : tNext D σ H := h
theorem st_brk (h : D.bk σ H) : tBreak D σ H := h
theorem st_cont (h : D.ct σ H) : tCont D σ H := h
theorem st_set (h : te σ H fun x H1 => D.nx (σ.set i (some x)) H1) : tAsg te (gName i) D σ H := h
theorem st_asg {g : TG} (h : te σ H fun x H1 => g x σ H1 D.nx) : tAsg te g D σ H := h
theorem st_drop (h : te σ H fun _ H1 => D.nx σ H1) : tDrop te D σ H := h
theorem st_ret (h : te σ H D.rt) : tRet te D σ H := h
theorem st_retN (h : D.rt .non H) : tRetN D σ H := h
theorem st_if {c : TT} (h : c σ H fun b H1 => if b = true then t D σ H1 else u D σ H1) : tIfS c t u D σ H := h
theorem st_name {v : V} {Q : St → Hp → Prop} (h : Q (σ.set i (some v)) H) : gName i v σ H Q := h
theorem st_gc {v : V} {r : List V} {g : TG} {gs : TGs} {Q : St → Hp → Prop} (h : g v σ H fun σ' H' => gs r σ' H' Q) : gCons g gs (v :: r) σ H Q := ⟨v, r, rfl, h⟩
theorem st_gn {Q : St → Hp → Prop} (h : Q σ H) : gNil [] σ H Q := ⟨rfl, h⟩
end

/-! ### dicts with text keys -/
section
variable {β γ : Type}
def getS (l : List (Str × β)) (k : Str) : Option β := (l.find? fun p => decide (p.1 = k)).map (·.2)
def putS (l : List (Str × β)) (k : Str) (v : β) : List (Str × β) :=
  if (l.any fun p => decide (p.1 = k)) = true then l.map (fun p => if p.1 = k then (p.1, v) else p) else l ++ [(k, v)]
def dropS (l : List (Str × β)) (k : Str) : List (Str × β) := l.filter fun p => decide (p.1 ≠ k)
end
theorem key_iff (a k : Str) : decide ((Sum.inr a : Key) = Sum.inr k) = decide (a = k) := decide_eq_decide.mpr ⟨fun e => Sum.inr.inj e, fun e => congrArg _ e⟩
theorem valV_skv (k : Str) : ∀ l : List (Str × V), valV (skv l) (Sum.inr k : Key) = getS l k
  | [] => rfl
  | (a, v) :: r => by
    have ih := valV_skv k r
    by_cases e : a = k
    · have e' : (Sum.inr a : Key) = Sum.inr k := congrArg _ e
      show valV ((Sum.inr a, v) :: skv r) _ = _
      rw [valV_pos e']
      simp [getS, List.find?_cons, e]
    · have e' : ¬ (Sum.inr a : Key) = Sum.inr k := fun z => e (Sum.inr.inj z)
      show valV ((Sum.inr a, v) :: skv r) _ = _
      rw [valV_neg e', ih]
      simp [getS, List.find?_cons, e]
theorem putK_skv (l : List (Str × V)) (k : Str) (v : V) : putK (skv l) (Sum.inr k : Key) v = skv (putS l k v) := by
  have ha : ((skv l).any fun kv => decide (kv.1 = (Sum.inr k : Key))) = l.any fun p => decide (p.1 = k) := by
    unfold skv
    rw [List.any_map]
    congr 1
    funext p
    exact key_iff _ _
  unfold putK putS
  rw [ha]
  split
  · unfold skv
    rw [List.map_map, List.map_map]
    apply List.map_congr_left
    intro p _
    show (if (Sum.inr p.1 : Key) = Sum.inr k then _ else _) = _
    by_cases e : p.1 = k
    · rw [if_pos (congrArg _ e)]
      simp [e]
    · rw [if_neg (fun z => e (Sum.inr.inj z))]
      simp [e]
  · simp [skv]
theorem dropK_skv (l : List (Str × V)) (k : Str) : dropK (skv l) (Sum.inr k : Key) = skv (dropS l k) := by
  unfold dropK dropS skv
  rw [List.filter_map]
  congr 1
  apply List.filter_congr
  intro p _
  show decide (¬ (Sum.inr p.1 : Key) = Sum.inr k) = decide (¬ p.1 = k)
  exact decide_eq_decide.mpr ⟨fun h e => h (congrArg _ e), fun h e => h (Sum.inr.inj e)⟩
theorem len_skv (l : List (Str × V)) : (skv l).length = l.length := List.length_map _
def kDg (x y : V) (H : Hp) (Q : VK) : Prop := ∃ a l s v, x = .ref a ∧ y = .str s ∧ Rd H a (dS l) ∧ getS l s = some v ∧ Q v H
def kIsD (x : V) (H : Hp) (P : Prop) : Prop := ∃ a l, x = .ref a ∧ Rd H a (dS l) ∧ P
def kDg2 (x y z : V) (H : Hp) (Q : VK) : Prop := ∃ a l s, x = .ref a ∧ y = .str s ∧ Rd H a (dS l) ∧ Q ((getS l s).getD z) H
def kDi (x y : V) (H : Hp) (Q : VK) : Prop := ∃ a l s, x = .ref a ∧ y = .str s ∧ Rd H a (dS l) ∧ Q (.bl (getS l s).isSome) H
def kDn (x y : V) (H : Hp) (Q : VK) : Prop := ∃ a l s, x = .ref a ∧ y = .str s ∧ Rd H a (dS l) ∧ Q (.bl (!(getS l s).isSome)) H
def kDp (x y v : V) (H : Hp) (P : Hp → Prop) : Prop := ∃ a l s, x = .ref a ∧ y = .str s ∧ H a = some (dS l) ∧ l.length < sizeLine ∧ P (upd H a (dS (putS l s v)))
def kPo (x y : V) (H : Hp) (Q : VK) : Prop := ∃ a l s v, x = .ref a ∧ y = .str s ∧ H a = some (dS l) ∧ getS l s = some v ∧ Q v (upd H a (dS (dropS l s)))
def kPo2 (x y z : V) (H : Hp) (Q : VK) : Prop := ∃ a l s, x = .ref a ∧ y = .str s ∧ H a = some (dS l) ∧ (∀ v, getS l s = some v → Q v (upd H a (dS (dropS l s)))) ∧ (getS l s = none → Q z H)
def tDg (td ty : TE) : TE := fun σ H Q => td σ H fun x H1 => ty σ H1 fun y H2 => kDg x y H2 Q
def tDg2 (td ty tx : TE) : TE := fun σ H Q => td σ H fun x H1 => kIsD x H1 (ty σ H1 fun y H2 => tx σ H2 fun z H3 => kDg2 x y z H3 Q)
def tDi (ty td : TE) : TE := fun σ H Q => ty σ H fun y H1 => td σ H1 fun x H2 => kDi x y H2 Q
def tDn (ty td : TE) : TE := fun σ H Q => ty σ H fun y H1 => td σ H1 fun x H2 => kDn x y H2 Q
def sDp (td ty tv : TE) : TS := fun D σ H => tv σ H fun v H1 => td σ H1 fun x H2 => ty σ H2 fun y H3 => kDp x y v H3 fun H4 => D.nx σ H4
def tPo (td ty : TE) : TE := fun σ H Q => td σ H fun x H1 => kIsD x H1 (ty σ H1 fun y H2 => kPo x y H2 Q)
def tPo2 (td ty tx : TE) : TE := fun σ H Q => td σ H fun x H1 => kIsD x H1 (ty σ H1 fun y H2 => tx σ H2 fun z H3 => kPo2 x y z H3 Q)
theorem dget_rd {H : Hp} {a : Addr} {l : List (Str × V)} (h : Rd H a (dS l)) (s : Str) : DGet H a (.str s) (getS l s) := .inl ⟨skv l, Sum.inr s, h, rfl, (valV_skv s l).symm ▸ rfl⟩
section
variable {X : Cx} {o i e f value : Expr} {pos pos' apos cpos : Pos} {td ty tx tv : TE}
theorem an_dget (hu : X.A.units + 1 < cLine) (ho : PE X o td) (hi : PE X i ty) (hs : NoSl i := by exact fun _ _ => rfl) : PE X (.Subscript o i pos) (tDg td ty) := by
  refine ⟨fun pins s σ H Q I h => ?_⟩
  refine subD_of PySem.F.slot_dict_getitem.lookup hs (thn (ho.run pins s σ H _ I h) fun u s1 ⟨x, H1, I1, rx, q1⟩ => thn (hi.run pins s1 σ H1 _ I1 q1) fun iv s2 ⟨y, H2, I2, ry, a, l, k, v, ex, ey, g, e, q2⟩ => ?_)
  subst ex ey
  obtain rfl : u = Value.ref a := rx
  have g' : DGet H2 a (.str k) (some v) := e ▸ dget_rd g k
  exact ⟨dict_typeIs I2 g', d_getItem hu I2 g' ry fun w' s3 I3 rw' => ⟨v, H2, I3, rw', q2⟩⟩
theorem an_din (hu : X.A.units + 1 < cLine) (hi : PE X i ty) (ho : PE X o td) : PC X .In i o (tDi ty td) := by
  refine ⟨fun pins s σ H Q I h => ?_⟩
  refine thn (hi.run pins s σ H _ I h) fun iv s1 ⟨y, H1, I1, ry, q1⟩ => thn (ho.run pins s1 σ H1 _ I1 q1) fun u s2 ⟨x, H2, I2, rx, a, l, k, ex, ey, g, q2⟩ => ?_
  subst ex ey
  obtain rfl : u = Value.ref a := rx
  exact d_in hu I2 (dget_rd g k) ry fun s3 I3 => ⟨.bl _, H2, I3, rfl, q2⟩
theorem an_dnin (hu : X.A.units + 1 < cLine) (hi : PE X i ty) (ho : PE X o td) : PC X .NotIn i o (tDn ty td) := by
  refine ⟨fun pins s σ H Q I h => ?_⟩
  refine thn (hi.run pins s σ H _ I h) fun iv s1 ⟨y, H1, I1, ry, q1⟩ => thn (ho.run pins s1 σ H1 _ I1 q1) fun u s2 ⟨x, H2, I2, rx, a, l, k, ex, ey, g, q2⟩ => ?_
  subst ex ey
  obtain rfl : u = Value.ref a := rx
  exact d_notIn hu I2 (dget_rd g k) ry fun s3 I3 => ⟨.bl _, H2, I3, rfl, q2⟩
theorem an_dput (hu : X.A.units + 1 < cLine) (ho : PE X o td) (hi : PE X i ty) (hv : PE X value tv) (hs : swapsWith value (some (.Subscript o i pos')) pos.line X.env = pure false := by rfl) :
    PS X (.Assign [.Subscript o i pos'] value pos) (sDp td ty tv) := by
  refine ⟨fun pins s σ H D I h => ?_⟩
  refine wpAny_Assign_Subscript (thn (hv.run pins s σ H _ I h) fun r s1 ⟨v, H1, I1, rv, q1⟩ => thn (ho.run pins s1 σ H1 _ I1 q1) fun u s2 ⟨x, H2, I2, rx, q2⟩ => thn (hi.run pins s2 σ H2 _ I2 q2) fun iv s3 ⟨y, H3, I3, ry, a, l, k, ex, ey, g, z, q3⟩ => ?_) hs
  subst ex ey
  obtain rfl : u = Value.ref a := rx
  have q4 : D.nx σ (upd H3 a (.dK (putK (skv l) (Sum.inr k) v))) := by
    rw [putK_skv]
    exact q3
  exact d_setItem hu I3 (DPut.k (k := Sum.inr k) g (by rw [len_skv]; exact z)) ry rv fun s4 I4 => ⟨σ, _, I4, q4⟩
theorem an_dget2 (hu : X.A.units + 1 < cLine) (ho : PE X o td) (he : PE X e ty) (hf : PE X f tx) (m : M2 X o "get" apos e f cpos := by exact ⟨rfl, rfl, rfl, rfl⟩) : PE X (.Call (.Attribute o "get" apos) [e, f] [] cpos) (tDg2 td ty tx) := by
  refine ⟨fun pins s σ H Q I h => ?_⟩
  refine wpAny_Call_method m.base m.few m.line PySem.F.plainAttrs_dict PySem.F.slot_dict_get PySem.F.type_dict_get (thn (ho.run pins s σ H _ I h) fun u s1 ⟨x, H1, I1, rx, a, l, ex, d, q1⟩ => ?_)
  subst ex
  obtain rfl : u = Value.ref a := rx
  obtain ⟨t1, t2, _⟩ := isD_at I1 (.inl ⟨_, d⟩)
  refine ⟨t1, t2, ?_⟩
  rw [m.trees]
  refine Calls.callWith_builtin rfl (Calls.evalArgs_plain (Calls.spliced_cons (thn (he.run pins s1 σ H1 _ I1 q1) fun iv s2 ⟨y, H2, I2, ry, q2⟩ =>
    Calls.spliced_cons (thn (hf.run pins s2 σ H2 _ I2 q2) fun fv s3 ⟨z, H3, I3, rz, a', l', k, ea, ey, d', q3⟩ => Calls.spliced_nil ?_))))
  subst ey
  cases ea
  exact d_get2 hu I3 (dget_rd d' k) ry rz fun w' s4 I4 rw' => ⟨_, H3, I4, rw', q3⟩
theorem an_dpop (ho : PE X o td) (he : PE X e ty) (m : M1 X o "pop" apos e cpos := by exact ⟨rfl, rfl, rfl, rfl⟩) : PE X (.Call (.Attribute o "pop" apos) [e] [] cpos) (tPo td ty) := by
  refine ⟨fun pins s σ H Q I h => ?_⟩
  refine wpAny_Call_method m.base m.few m.line PySem.F.plainAttrs_dict PySem.F.slot_dict_pop PySem.F.type_dict_pop (thn (ho.run pins s σ H _ I h) fun u s1 ⟨x, H1, I1, rx, a, l, ex, d, q1⟩ => ?_)
  subst ex
  obtain rfl : u = Value.ref a := rx
  obtain ⟨t1, t2, _⟩ := isD_at I1 (.inl ⟨_, d⟩)
  refine ⟨t1, t2, ?_⟩
  rw [m.trees]
  refine Calls.callWith_builtin rfl (Calls.evalArgs_plain (Calls.spliced_cons (thn (he.run pins s1 σ H1 _ I1 q1) fun iv s2 ⟨y, H2, I2, ry, a', l', k, v, ea, ey, d', g, q2⟩ => Calls.spliced_nil ?_)))
  subst ey
  cases ea
  have q3 : Q v (upd H2 a (.dK (dropK (skv l') (Sum.inr k)))) := by
    rw [dropK_skv]
    exact q2
  exact d_pop (k := Sum.inr k) I2 d' ry ((valV_skv k l').trans g) (.inl rfl) fun w' s3 I3 rw' => ⟨v, _, I3, rw', q3⟩
theorem an_dpop2 (ho : PE X o td) (he : PE X e ty) (hf : PE X f tx) (m : M2 X o "pop" apos e f cpos := by exact ⟨rfl, rfl, rfl, rfl⟩) : PE X (.Call (.Attribute o "pop" apos) [e, f] [] cpos) (tPo2 td ty tx) := by
  refine ⟨fun pins s σ H Q I h => ?_⟩
  refine wpAny_Call_method m.base m.few m.line PySem.F.plainAttrs_dict PySem.F.slot_dict_pop PySem.F.type_dict_pop (thn (ho.run pins s σ H _ I h) fun u s1 ⟨x, H1, I1, rx, a, l, ex, d, q1⟩ => ?_)
  subst ex
  obtain rfl : u = Value.ref a := rx
  obtain ⟨t1, t2, _⟩ := isD_at I1 (.inl ⟨_, d⟩)
  refine ⟨t1, t2, ?_⟩
  rw [m.trees]
  refine Calls.callWith_builtin rfl (Calls.evalArgs_plain (Calls.spliced_cons (thn (he.run pins s1 σ H1 _ I1 q1) fun iv s2 ⟨y, H2, I2, ry, q2⟩ =>
    Calls.spliced_cons (thn (hf.run pins s2 σ H2 _ I2 q2) fun fv s3 ⟨z, H3, I3, rz, a', l', k, ea, ey, d', q3, q4⟩ => Calls.spliced_nil ?_))))
  subst ey
  cases ea
  cases g : getS l' k with
  | some v =>
    have q5 : Q v (upd H3 a (.dK (dropK (skv l') (Sum.inr k)))) := by
      rw [dropK_skv]
      exact q3 v g
    exact d_pop (k := Sum.inr k) I3 d' ry ((valV_skv k l').trans g) (.inr ⟨fv, rfl⟩) fun w' s4 I4 rw' => ⟨v, _, I4, rw', q5⟩
  | none => exact d_popD (k := Sum.inr k) I3 d' ry ((valV_skv k l').trans g) fun s4 I4 => ⟨z, H3, I4, rz, q4 g⟩
/-- dict(d) -/
def rDictS : List V → Hp → VK → Prop := fun xs H Q => ∃ a l, xs = [.ref a] ∧ Rd H a (dS l) ∧ ∀ p, H p = none → Q (.ref p) (upd H p (dS l))
theorem call_dictS : CallR X (.type "dict") rDictS := by
  intro pins s σ H xs us Q I r h
  obtain ⟨a, l, rfl, ha, q⟩ := h
  obtain ⟨u, rfl, ru⟩ := vals1 r
  cases ru
  exact d_copyOf I ha fun p s' hp I' => ⟨.ref p, _, I', rfl, q p hp⟩
end
section
variable {D : Ends} {σ : St} {H : Hp} {Q : VK} {a : Addr} {l : List (Str × V)} {s : Str} {v z : V} {td ty tx tv : TE}
theorem e_dg (h : td σ H fun x H1 => ty σ H1 fun y H2 => kDg x y H2 Q) : tDg td ty σ H Q := h
theorem e_dg2 (h : td σ H fun x H1 => kIsD x H1 (ty σ H1 fun y H2 => tx σ H2 fun z H3 => kDg2 x y z H3 Q)) : tDg2 td ty tx σ H Q := h
theorem e_di (h : ty σ H fun y H1 => td σ H1 fun x H2 => kDi x y H2 Q) : tDi ty td σ H Q := h
theorem e_dn (h : ty σ H fun y H1 => td σ H1 fun x H2 => kDn x y H2 Q) : tDn ty td σ H Q := h
theorem e_dp (h : tv σ H fun v H1 => td σ H1 fun x H2 => ty σ H2 fun y H3 => kDp x y v H3 fun H4 => D.nx σ H4) : sDp td ty tv D σ H := h
theorem e_po (h : td σ H fun x H1 => kIsD x H1 (ty σ H1 fun y H2 => kPo x y H2 Q)) : tPo td ty σ H Q := h
theorem e_po2 (h : td σ H fun x H1 => kIsD x H1 (ty σ H1 fun y H2 => tx σ H2 fun z H3 => kPo2 x y z H3 Q)) : tPo2 td ty tx σ H Q := h
theorem k_dg (h : Rd H a (dS l)) (g : getS l s = some v) (q : Q v H) : kDg (.ref a) (.str s) H Q := ⟨a, l, s, v, rfl, rfl, h, g, q⟩
theorem k_isD {P : Prop} (h : Rd H a (dS l)) (q : P) : kIsD (.ref a) H P := ⟨a, l, rfl, h, q⟩
theorem k_dg2 (h : Rd H a (dS l)) (q : Q ((getS l s).getD z) H) : kDg2 (.ref a) (.str s) z H Q := ⟨a, l, s, rfl, rfl, h, q⟩
theorem k_di (h : Rd H a (dS l)) (q : Q (.bl (getS l s).isSome) H) : kDi (.ref a) (.str s) H Q := ⟨a, l, s, rfl, rfl, h, q⟩
theorem k_dn (h : Rd H a (dS l)) (q : Q (.bl (!(getS l s).isSome)) H) : kDn (.ref a) (.str s) H Q := ⟨a, l, s, rfl, rfl, h, q⟩
theorem k_dp {P : Hp → Prop} (h : H a = some (dS l)) (c : l.length < sizeLine) (q : P (upd H a (dS (putS l s v)))) : kDp (.ref a) (.str s) v H P := ⟨a, l, s, rfl, rfl, h, c, q⟩
theorem k_po (h : H a = some (dS l)) (g : getS l s = some v) (q : Q v (upd H a (dS (dropS l s)))) : kPo (.ref a) (.str s) H Q := ⟨a, l, s, v, rfl, rfl, h, g, q⟩
theorem e_dictS (h : Rd H a (dS l)) (q : ∀ p, H p = none → Q (.ref p) (upd H p (dS l))) : rDictS [.ref a] H Q := ⟨a, l, rfl, h, q⟩
end
/-! ### named rules -/
abbrev rAddI : R2 := rI0 fun i j => .int (i + j)
abbrev rSubI : R2 := rI0 fun i j => .int (i - j)
abbrev rModI : R2 := rI (fun _ j => 0 < j) fun i j => .int (i % j)
abbrev rDivI : R2 := rI CDivW fun i j => .int (i / j)
abbrev rMulI : R2 := rI IntMulOk fun i j => .int (i * j)
abbrev rPowI : R2 := rI CPow fun i j => .int (i ^ j.toNat)
abbrev rLtI : R2 := rI0 fun i j => .bl (decide (i < j))
abbrev rLeI : R2 := rI0 fun i j => .bl (decide (i ≤ j))
abbrev rGtI : R2 := rI0 fun i j => .bl (decide (j < i))
abbrev rGeI : R2 := rI0 fun i j => .bl (decide (j ≤ i))
abbrev rNeg : V → Hp → VK → Prop := rU fun i => .int (-i)
def rAddS : R2 := fun x y H Q => ∃ i j, x = .str i ∧ y = .str j ∧ i.length + j.length ≤ sizeLine ∧ Q (.str (i ++ j)) H
def rLenL (K : PySem.W.Frag) : List V → Hp → VK → Prop := fun xs H Q => ∃ p ys, xs = [.ref p] ∧ (SqL K H p ys ∨ SqT K H p ys) ∧ Q (.int ys.length) H
def rLenT : List V → Hp → VK → Prop := fun xs H Q => ∃ z, xs = [.str z] ∧ z.length ≤ sizeLine ∧ Q (.int z.length) H
def rLenD : List V → Hp → VK → Prop := fun xs H Q => ∃ a l, xs = [V.ref a] ∧ Rd H a (dS l) ∧ Q (.int l.length) H
def rListL (K : PySem.W.Frag) : List V → Hp → VK → Prop := fun xs H Q => ∃ p ys, xs = [.ref p] ∧ (SqL K H p ys ∨ SqT K H p ys) ∧ ∀ l, H l = none → Q (.ref l) (upd H l (.lst ys))
def rMin2 : List V → Hp → VK → Prop := fun xs H Q => ∃ i j, xs = [.int i, .int j] ∧ Q (.int (if j < i then j else i)) H
def rMax2 : List V → Hp → VK → Prop := fun xs H Q => ∃ i j, xs = [.int i, .int j] ∧ Q (.int (if j > i then j else i)) H
def rIntB : List V → Hp → VK → Prop := fun xs H Q => ∃ k, xs = [.bl k] ∧ Q (.int (if k = true then 1 else 0)) H
def rIntS : List V → Hp → VK → Prop := fun xs H Q => ∃ a n, xs = [.str a] ∧ PySem.intText? a = some n ∧ a.length ≤ 640 ∧ Q (.int n) H
def rStrI : List V → Hp → VK → Prop := fun xs H Q => ∃ i, xs = [.int i] ∧ i.natAbs.log2 < 1920 ∧ Q (.str (toString i)) H
section
variable {X : Cx}
theorem op_mulX : OpR X (binaryOp .Mult) rMulI := opI fun _ _ _ _ _ _ _ hc q => mul_int q hc
theorem op_addS : OpR X (binaryOp .Add) rAddS := op_add_str
theorem call_lenL : CallR X (.builtin "len") (rLenL X.K) := call_len_seq
theorem call_lenT : CallR X (.builtin "len") rLenT := call_len_str
theorem call_lenS : CallR X (.builtin "len") rLenD := by
  intro pins s σ H xs us Q I r h
  obtain ⟨a, l, rfl, ha, q⟩ := h
  obtain ⟨u, rfl, ru⟩ := vals1 r
  cases ru
  refine d_len I ha fun t s' I' => ⟨.int l.length, H, I', ⟨t, ?_⟩, q⟩
  rw [len_skv]
theorem call_listL : CallR X (.type "list") (rListL X.K) := call_list_of
theorem call_min2N (hc : X.calm = true) : CallR X (.builtin "min") rMin2 := call_min2 hc
theorem call_max2N (hc : X.calm = true) : CallR X (.builtin "max") rMax2 := call_max2 hc
theorem call_intB : CallR X (.type "int") rIntB := fun pins s σ H xs us Q I r h => call_int1 pins s σ H xs us Q I r (.inr h)
theorem call_strI : CallR X (.type "str") rStrI := call_str_int
theorem an_cint {x : Str} {i : Int} {pos : Pos} (h : ∃ t, X.mg x = some (.int i t)) (hg : Gl X x := by rfl) (hd : (x == ("__debug__" : Str)) = false := by decide) : PE X (.Name x pos) (tC (.int i)) := let ⟨t, h⟩ := h; pe_glob hg h ⟨t, rfl⟩ hd
theorem an_cstr {x z : Str} {pos : Pos} (h : ∃ t, X.mg x = some (.str z t)) (hg : Gl X x := by rfl) (hd : (x == ("__debug__" : Str)) = false := by decide) : PE X (.Name x pos) (tC (.str z)) := let ⟨t, h⟩ := h; pe_glob hg h ⟨t, rfl⟩ hd
end
section
variable {H : Hp} {Q : VK} {K : PySem.W.Frag} {p l : Addr} {ys xs zs : List V} {v : V}
theorem e_mod {a b : Int} (c : 0 < b) (q : Q (.int (a % b)) H) : rModI (.int a) (.int b) H Q := e_I c q
theorem e_div {a b : Int} (c : CDivW a b) (q : Q (.int (a / b)) H) : rDivI (.int a) (.int b) H Q := e_I c q
theorem e_mul {a b : Int} (c : IntMulOk a b) (q : Q (.int (a * b)) H) : rMulI (.int a) (.int b) H Q := e_I c q
theorem e_addS {a b : Str} (c : a.length + b.length ≤ sizeLine) (q : Q (.str (a ++ b)) H) : rAddS (.str a) (.str b) H Q := ⟨a, b, rfl, rfl, c, q⟩
theorem e_lenL (h : SqL K H p ys) (q : Q (.int ys.length) H) : rLenL K [.ref p] H Q := ⟨p, ys, rfl, .inl h, q⟩
theorem e_lenU (h : SqT K H p ys) (q : Q (.int ys.length) H) : rLenL K [.ref p] H Q := ⟨p, ys, rfl, .inr h, q⟩
theorem e_lenT {z : Str} (c : z.length ≤ sizeLine) (q : Q (.int z.length) H) : rLenT [.str z] H Q := ⟨z, rfl, c, q⟩
theorem e_lenD {l : List (Str × V)} (h : Rd H p (dS l)) (q : Q (.int l.length) H) : rLenD [.ref p] H Q := ⟨p, l, rfl, h, q⟩
theorem e_listL (h : SqL K H p ys) (q : ∀ l, H l = none → Q (.ref l) (upd H l (.lst ys))) : rListL K [.ref p] H Q := ⟨p, ys, rfl, .inl h, q⟩
theorem e_listD {l : List (Str × V)} (h : H p = some (dS l)) (q : ∀ r, H r = none → Q (.ref r) (upd H r (.lst (l.map fun p => V.str p.1)))) : rListD [.ref p] H Q := ⟨p, skv l, rfl, h, fun r hr => by
  have e : (skv l).map (fun kv => kV kv.1) = l.map fun p => V.str p.1 := by
    unfold skv
    rw [List.map_map]
    rfl
  rw [e]
  exact q r hr⟩
theorem e_ixL {i : Int} (h : SqL K H p ys) (a : atI ys i = some v) (q : Q v H) : rIxL K (.ref p) (.int i) H Q := ⟨p, ys, i, v, rfl, rfl, h, a, q⟩
theorem e_ixT {i : Int} (h : SqT K H p ys) (a : atI ys i = some v) (q : Q v H) : rIxT K (.ref p) (.int i) H Q := ⟨p, ys, i, v, rfl, rfl, h, a, q⟩
theorem e_ixS {z : Str} {i : Int} {c : Nat} (hz : z.length ≤ sizeLine) (a : atI z.cps.toList i = some c) (q : Q (.str ⟨#[c]⟩) H) : rIxS (.str z) (.int i) H Q := ⟨z, i, c, rfl, rfl, hz, a, q⟩
theorem e_app (h : H l = some (.lst xs)) (c : xs.length < sizeLine) (q : Q .non (upd H l (.lst (xs ++ [v])))) : rAppend (.ref l) [v] H Q := ⟨l, xs, v, rfl, rfl, h, c, q⟩
theorem e_ext (h : H l = some (.lst xs)) (h2 : H p = some (.lst zs)) (c : xs.length + zs.length ≤ sizeLine) (q : Q .non (upd H l (.lst (xs ++ zs)))) : rExtend (.ref l) [.ref p] H Q := ⟨l, p, xs, zs, rfl, rfl, h, h2, c, q⟩
theorem e_pop (h : H l = some (.lst xs)) (a : xs[xs.length - 1]? = some v) (q : Q v (upd H l (.lst xs.dropLast))) : rPop (.ref l) [] H Q := ⟨l, xs, v, rfl, rfl, h, a, q⟩
theorem e_cat (h : H l = some (.lst xs)) (h2 : H p = some (.lst zs)) (c : xs.length + zs.length ≤ sizeLine) (q : ∀ r, H r = none → Q (.ref r) (upd H r (.lst (xs ++ zs)))) : rCat (.ref l) (.ref p) H Q := ⟨l, p, xs, zs, rfl, rfl, h, h2, c, q⟩
theorem ty_list (h : H l = some (.lst xs)) : tyV K "list" (.ref l) H := .inl ⟨rfl, _, SqL.of h⟩
theorem e_tyl {P : Prop} (h : H l = some (.lst xs)) (q : P) : tyV K "list" (.ref l) H ∧ P := ⟨ty_list h, q⟩
end

/-! ### instances: attributes by place -/
def posOf (ns : List Str) (f : Str) : Option Nat := ns.findIdx? (· == f)
/-- an instance of the class at C with the attributes ns, of the values vs -/
abbrev ob (C : Addr) (ns : List Str) (dx : Addr) (vs : List V) : HO := .ins C dx (ns.zip vs)
structure IsC (K : PySem.W.Frag) (C : Addr) (ns : List Str) : Prop where
  cl : Cls K C
  no : ∀ f ∈ ns, NoAttr K C f
theorem posOf_lookup {f : Str} {i : Nat} : ∀ {ns : List Str} {vs : List V}, posOf ns f = some i → (ns.zip vs).lookup f = vs[i]?
  | [], vs, h => by cases h
  | n :: ns, [], h => by simp
  | n :: ns, v :: vs, h => by
    unfold posOf at h
    rw [List.findIdx?_cons] at h
    by_cases e : (n == f) = true
    · rw [if_pos e] at h
      cases h
      have e2 : (f == n) = true := by rw [beq_iff_eq] at e ⊢; exact e.symm
      simp [List.lookup, e2]
    · rw [if_neg e] at h
      have e2 : (f == n) = false := by
        rw [Bool.eq_false_iff]
        intro z
        rw [beq_iff_eq] at z
        exact e (beq_iff_eq.mpr z.symm)
      cases q : List.findIdx? (· == f) ns with
      | none => rw [q] at h; cases h
      | some j =>
        rw [q] at h
        cases h
        show (List.lookup f ((n, v) :: ns.zip vs)) = _
        unfold List.lookup
        rw [e2]
        simpa using posOf_lookup (ns := ns) (vs := vs) q
theorem posOf_mem {f : Str} {i : Nat} {ns : List Str} (h : posOf ns f = some i) : f ∈ ns := by
  unfold posOf at h
  obtain ⟨hi, hf, _⟩ := List.findIdx?_eq_some_iff_getElem.mp h
  rw [beq_iff_eq] at hf
  rw [← hf]
  exact List.getElem_mem hi
theorem posOf_put {f : Str} {i : Nat} {y : V} : ∀ {ns : List Str} {vs : List V}, posOf ns f = some i → i < vs.length → putF f y (ns.zip vs) = ns.zip (vs.set i y)
  | [], vs, h, _ => by cases h
  | n :: ns, [], h, hl => by simp at hl
  | n :: ns, v :: vs, h, hl => by
    unfold posOf at h
    rw [List.findIdx?_cons] at h
    by_cases e : (n == f) = true
    · rw [if_pos e] at h
      cases h
      have e1 : n = f := beq_iff_eq.mp e
      show (if n = f then (n, y) :: ns.zip vs else _) = (n, y) :: ns.zip vs
      rw [if_pos e1]
    · rw [if_neg e] at h
      cases q : List.findIdx? (· == f) ns with
      | none => rw [q] at h; cases h
      | some j =>
        rw [q] at h
        cases h
        have e1 : ¬ n = f := fun z => e (beq_iff_eq.mpr z)
        show (if n = f then _ else (n, v) :: putF f y (ns.zip vs)) = (n, v) :: ns.zip (vs.set j y)
        rw [if_neg e1, posOf_put (ns := ns) (vs := vs) q (by simpa using hl)]
/-- a first store appends -/
theorem put_new {f : Str} {y : V} : ∀ {ns : List Str} {vs : List V}, ns.length = vs.length → posOf ns f = none → putF f y (ns.zip vs) = (ns ++ [f]).zip (vs ++ [y])
  | [], [], _, _ => rfl
  | n :: ns, v :: vs, hl, h => by
    unfold posOf at h
    rw [List.findIdx?_cons] at h
    by_cases e : (n == f) = true
    · rw [if_pos e] at h
      cases h
    · rw [if_neg e] at h
      have e1 : ¬ n = f := fun z => e (beq_iff_eq.mpr z)
      have h' : posOf ns f = none := by
        cases q : List.findIdx? (· == f) ns with
        | none => exact q
        | some j => rw [q] at h; cases h
      show (if n = f then _ else (n, v) :: putF f y (ns.zip vs)) = (n, v) :: (ns ++ [f]).zip (vs ++ [y])
      rw [if_neg e1, put_new (by simpa using hl) h']
def kFi (C : Addr) (ns : List Str) (i : Nat) (x : V) (H : Hp) (Q : VK) : Prop := ∃ a dx vs v, x = .ref a ∧ H a = some (ob C ns dx vs) ∧ vs[i]? = some v ∧ Q v H
def kSf (C : Addr) (ns : List Str) (i : Nat) (x y : V) (H : Hp) (P : Hp → Prop) : Prop := ∃ a dx vs, x = .ref a ∧ H a = some (ob C ns dx vs) ∧ i < vs.length ∧ P (upd H a (ob C ns dx (vs.set i y)))
def kNw (C : Addr) (ns : List Str) (f : Str) (x y : V) (H : Hp) (P : Hp → Prop) : Prop := ∃ a dx vs, x = .ref a ∧ H a = some (ob C ns dx vs) ∧ vs.length = ns.length ∧ P (upd H a (ob C (ns ++ [f]) dx (vs ++ [y])))
/-- e.f -/
def tFi (C : Addr) (ns : List Str) (i : Nat) (ta : TE) : TE := fun σ H Q => ta σ H fun x H1 => kFi C ns i x H1 Q
/-- e.f = value, the attribute there -/
def sFi (C : Addr) (ns : List Str) (i : Nat) (ta tv : TE) : TS := fun D σ H => tv σ H fun y H1 => ta σ H1 fun x H2 => kSf C ns i x y H2 fun H3 => D.nx σ H3
/-- self.f = value in __init__: the attribute is new, ns are those there -/
def sNw (C : Addr) (ns : List Str) (f : Str) (ta tv : TE) : TS := fun D σ H => tv σ H fun y H1 => ta σ H1 fun x H2 => kNw C ns f x y H2 fun H3 => D.nx σ H3
section
variable {D : Ends} {σ : St} {H : Hp} {Q : VK} {a C dx : Addr} {ns : List Str} {vs : List V} {i : Nat} {v y : V} {ta tv : TE} {f : Str}
theorem e_fi (h : ta σ H fun x H1 => kFi C ns i x H1 Q) : tFi C ns i ta σ H Q := h
theorem e_sf (h : tv σ H fun y H1 => ta σ H1 fun x H2 => kSf C ns i x y H2 fun H3 => D.nx σ H3) : sFi C ns i ta tv D σ H := h
theorem e_nw (h : tv σ H fun y H1 => ta σ H1 fun x H2 => kNw C ns f x y H2 fun H3 => D.nx σ H3) : sNw C ns f ta tv D σ H := h
theorem k_fi (h : H a = some (ob C ns dx vs)) (l : vs[i]? = some v) (q : Q v H) : kFi C ns i (.ref a) H Q := ⟨a, dx, vs, v, rfl, h, l, q⟩
theorem k_sf {P : Hp → Prop} (h : H a = some (ob C ns dx vs)) (l : i < vs.length) (q : P (upd H a (ob C ns dx (vs.set i y)))) : kSf C ns i (.ref a) y H P := ⟨a, dx, vs, rfl, h, l, q⟩
theorem k_nw {P : Hp → Prop} (h : H a = some (ob C ns dx vs)) (l : vs.length = ns.length) (q : P (upd H a (ob C (ns ++ [f]) dx (vs ++ [y])))) : kNw C ns f (.ref a) y H P := ⟨a, dx, vs, rfl, h, l, q⟩
end
section
variable {X : Cx} {o e value : Expr} {f : Str} {pos pos' : Pos} {ta tv : TE} {C : Addr} {ns : List Str} {i : Nat}
theorem an_fld (t : IsC X.K C ns) (p : posOf ns f = some i) (he : PE X e ta) (hb : attributeBase e f X.env (eval e X.env) = eval e X.env := by rfl) : PE X (.Attribute e f pos) (tFi C ns i ta) := by
  refine ⟨fun pins s σ H Q I h => ?_⟩
  refine attr_of hb (thn (he.run pins s σ H _ I h) fun u s1 ⟨x, H1, I1, rx, a, dx, vs, v, ex, ea, l, q⟩ => ?_)
  subst ex
  obtain rfl : u = Value.ref a := rx
  exact getattr_ok I1 ea t.cl (t.no f (posOf_mem p)) ((posOf_lookup p).trans l) fun u' s2 I2 ru => ⟨v, H1, I2, ru, q⟩
theorem zip_small {ns : List Str} {vs : List V} (h : ns.length < 1000) : (ns.zip vs).length < 1000 := by
  rw [List.length_zip]
  omega
theorem an_sfld (t : IsC X.K C ns) (p : posOf ns f = some i) (ha : PE X o ta) (hv : PE X value tv) (hs : swapsWith value (some (.Attribute o f pos')) pos.line X.env = pure false := by rfl) (hl : ns.length < 1000 := by decide) : PS X (.Assign [.Attribute o f pos'] value pos) (sFi C ns i ta tv) := by
  refine ⟨fun pins s σ H D I h => ?_⟩
  refine plainObj_wpAny_Assign_Attribute (thn (hv.run pins s σ H _ I h) fun u s1 ⟨y, H1, I1, ry, q⟩ => thn (ha.run pins s1 σ H1 _ I1 q) fun ov s2 ⟨x, H2, I2, rx, a, dx, vs, ex, ea, l, q2⟩ => ?_) hs
  subst ex
  obtain rfl : ov = Value.ref a := rx
  rw [show ob C ns dx (vs.set i y) = HO.ins C dx (putF f y (ns.zip vs)) from congrArg (HO.ins C dx) (posOf_put p l).symm] at q2
  exact setattr_ok I2 ea t.cl (t.no f (posOf_mem p)) (zip_small hl) ry fun s3 I3 => ⟨σ, _, I3, q2⟩
theorem an_snew {nsA : List Str} (t : IsC X.K C nsA) (hf : f ∈ nsA) (p : posOf ns f = none) (ha : PE X o ta) (hv : PE X value tv) (hs : swapsWith value (some (.Attribute o f pos')) pos.line X.env = pure false := by rfl) (hl : ns.length < 1000 := by decide) : PS X (.Assign [.Attribute o f pos'] value pos) (sNw C ns f ta tv) := by
  refine ⟨fun pins s σ H D I h => ?_⟩
  refine plainObj_wpAny_Assign_Attribute (thn (hv.run pins s σ H _ I h) fun u s1 ⟨y, H1, I1, ry, q⟩ => thn (ha.run pins s1 σ H1 _ I1 q) fun ov s2 ⟨x, H2, I2, rx, a, dx, vs, ex, ea, l, q2⟩ => ?_) hs
  subst ex
  obtain rfl : ov = Value.ref a := rx
  rw [show ob C (ns ++ [f]) dx (vs ++ [y]) = HO.ins C dx (putF f y (ns.zip vs)) from congrArg (HO.ins C dx) (put_new l.symm p).symm] at q2
  exact setattr_ok I2 ea t.cl (t.no f hf) (zip_small hl) ry fun s3 I3 => ⟨σ, _, I3, q2⟩
end

/-! ### == and != of data with a Lean type -/
section
open PySem.W (Datum)
def rEqY (K : PySem.W.Frag) : R2 := fun x y H Q => ∃ (α : Type) (i1 : DecidableEq α) (i2 : Datum α) (a b : α), Datum.depth α ≤ 64 ∧ Dp K H x (Datum.toD a) ∧ Dp K H y (Datum.toD b) ∧ Q (.bl (decide (a = b))) H
def rNeY (K : PySem.W.Frag) : R2 := fun x y H Q => ∃ (α : Type) (i1 : DecidableEq α) (i2 : Datum α) (a b : α), Datum.depth α ≤ 64 ∧ Dp K H x (Datum.toD a) ∧ Dp K H y (Datum.toD b) ∧ Q (.bl (!decide (a = b))) H
variable {X : Cx}
theorem op_eqY (hu : X.A.units + 64 < cLine) : OpR X (compareOp .Eq) (rEqY X.K) := by
  intro pins s σ H x y v u Q I rx ry h
  obtain ⟨α, i1, i2, a, b, hd, ha, hb, q⟩ := h
  obtain ⟨as, r1⟩ := Dp.reads I _ x v ha rx
  obtain ⟨bs, r2⟩ := Dp.reads I _ y u hb ry
  exact PySem.W.eq_datum (x := a) (y := b) ⟨as, r1⟩ ⟨bs, r2⟩ (by omega) ⟨.bl _, H, I, rfl, q⟩
theorem op_neY (hu : X.A.units + 64 < cLine) : OpR X (compareOp .NotEq) (rNeY X.K) := by
  intro pins s σ H x y v u Q I rx ry h
  obtain ⟨α, i1, i2, a, b, hd, ha, hb, q⟩ := h
  obtain ⟨as, r1⟩ := Dp.reads I _ x v ha rx
  obtain ⟨bs, r2⟩ := Dp.reads I _ y u hb ry
  refine PySem.W.ne_datum (x := a) (y := b) ⟨as, r1⟩ ⟨bs, r2⟩ (by omega) ⟨.bl _, H, I, rfl, ?_⟩
  rw [decide_not]
  exact q
variable {K : PySem.W.Frag} {H : Hp} {Q : VK} {x y : V}
theorem e_eqY {α : Type} [DecidableEq α] [Datum α] (a b : α) (hd : Datum.depth α ≤ 64) (ha : Dp K H x (Datum.toD a)) (hb : Dp K H y (Datum.toD b)) (q : Q (.bl (decide (a = b))) H) : rEqY K x y H Q := ⟨α, _, _, a, b, hd, ha, hb, q⟩
theorem e_neY {α : Type} [DecidableEq α] [Datum α] (a b : α) (hd : Datum.depth α ≤ 64) (ha : Dp K H x (Datum.toD a)) (hb : Dp K H y (Datum.toD b)) (q : Q (.bl (!decide (a = b))) H) : rNeY K x y H Q := ⟨α, _, _, a, b, hd, ha, hb, q⟩
theorem dpa_map {α : Type} [DecidableEq α] [Datum α] {f : α → V} (h : ∀ a, Dp K H (f a) (Datum.toD a)) : ∀ ys : List α, DpAll K H (ys.map f) (ys.map Datum.toD)
  | [] => .nil
  | y :: ys => .cons (h y) (dpa_map h ys)
theorem dp_strs {p : Addr} {ys : List Str} (h : SqL K H p (ys.map V.str)) : Dp K H (.ref p) (Datum.toD ys) := .lst h (dpa_map (fun a => .str a) ys)
theorem dp_ints {p : Addr} {ys : List Int} (h : SqL K H p (ys.map V.int)) : Dp K H (.ref p) (Datum.toD ys) := .lst h (dpa_map (fun a => .int a) ys)
end

section
variable {K : PySem.W.Frag} {H : Hp} {Q : VK} {p : Addr}
theorem inV_strs (x : Str) (ys : List Str) : inV (.str x) (ys.map V.str) = decide (x ∈ ys) := by
  unfold inV
  rw [List.any_map, Bool.eq_iff_iff, List.any_eq_true, decide_eq_true_eq]
  constructor
  · rintro ⟨y, hy, e⟩
    have e' : (y == x) = true := e
    rw [beq_iff_eq] at e'
    exact e' ▸ hy
  · exact fun h => ⟨x, h, by show (x == x) = true; exact beq_self_eq_true x⟩
theorem flat_strs (ys : List Str) : (ys.map V.str).all flatV = true := by
  rw [List.all_map, List.all_eq_true]
  exact fun _ _ => rfl
theorem e_inS {x : Str} {ys : List Str} (h : SqL K H p (ys.map V.str)) (q : Q (.bl (decide (x ∈ ys))) H) : rIn K false (.str x) (.ref p) H Q := ⟨p, _, rfl, .inl h, rfl, flat_strs ys, by
  rw [inV_strs]
  exact q⟩
theorem e_ninS {x : Str} {ys : List Str} (h : SqL K H p (ys.map V.str)) (q : Q (.bl (!decide (x ∈ ys))) H) : rIn K true (.str x) (.ref p) H Q := ⟨p, _, rfl, .inl h, rfl, flat_strs ys, by
  rw [inV_strs]
  exact q⟩
end

section
variable {σ : St} {H : Hp} {Q : VK} {ta tb : TE} {K : PySem.W.Frag} {te : TE} {tl th : TO}
theorem e_andV (h : ta σ H fun x H1 => ∃ c, x = .bl c ∧ if c = true then tb σ H1 Q else Q (.bl false) H1) : tAndV ta tb σ H Q := h
theorem e_orV (h : ta σ H fun x H1 => ∃ c, x = .bl c ∧ if c = true then Q (.bl true) H1 else tb σ H1 Q) : tOrV ta tb σ H Q := h
theorem e_notV (h : ta σ H fun x H1 => ∃ c, x = .bl c ∧ Q (.bl (!c)) H1) : tNotV ta σ H Q := h
theorem e_sl {r : V → Option Int → Option Int → Hp → VK → Prop} (h : te σ H fun x H1 => tl σ H1 fun l H2 => th σ H2 fun u H3 => r x l u H3 Q) : tSl r te tl th σ H Q := h
theorem e_np {Q : Option Int → Hp → Prop} (h : Q none H) : tNoPart σ H Q := h
theorem e_prt {Q : Option Int → Hp → Prop} (h : te σ H fun x H1 => ∃ i, x = .int i ∧ Q (some i) H1) : tPart te σ H Q := h
theorem e_ik {i : Int} {P : Int → Prop} (h : P i) : ∃ j, V.int i = .int j ∧ P j := ⟨i, rfl, h⟩
theorem e_slL {a : Addr} {xs : List V} {lo hi : Option Int} (h : SqL K H a xs) (q : ∀ p, H p = none → Q (.ref p) (upd H p (.lst (cutV xs lo hi)))) : rSlL K (.ref a) lo hi H Q := ⟨a, xs, rfl, h, q⟩
theorem cut_from (xs : List V) (n : Nat) : cutV xs (some (n : Int)) none = xs.drop n := by
  unfold cutV
  have e : HT.sIx xs.length 0 (some (n : Int)) = min n xs.length := by
    show (if (n : Int) < 0 then ((n : Int) + (xs.length : Int)).toNat else min (n : Int).toNat xs.length) = _
    rw [if_neg (by omega)]
    simp
  rw [e]
  show List.take (xs.length - min n xs.length) (xs.drop (min n xs.length)) = _
  by_cases h : n ≤ xs.length
  · rw [Nat.min_eq_left h]
    exact List.take_of_length_le (by simp)
  · rw [Nat.min_eq_right (by omega)]
    rw [List.drop_of_length_le (i := n) (by omega)]
    simp
/-- isinstance, a built-in type -/
theorem e_isiL {a : Addr} {xs : List V} {n : String} {b : Bool} (h : H a = some (.lst xs)) (e : kitB "list" n = some b) (q : Q (.bl b) H) : rIsi K [.ref a, .ty n] H Q := ⟨_, _, _, _, b, rfl, .ty n, .base (.lst h), kit_ty e, q⟩
theorem e_isiI {i : Int} {n : String} {b : Bool} (e : kitB "int" n = some b) (q : Q (.bl b) H) : rIsi K [.int i, .ty n] H Q := ⟨_, _, _, _, b, rfl, .ty n, .base (.int i), kit_ty e, q⟩
theorem e_isiS {i : Str} {n : String} {b : Bool} (e : kitB "str" n = some b) (q : Q (.bl b) H) : rIsi K [.str i, .ty n] H Q := ⟨_, _, _, _, b, rfl, .ty n, .base (.str i), kit_ty e, q⟩
theorem e_isiT {a : Addr} {xs : List V} {n : String} {b : Bool} (h : H a = some (.tup xs)) (e : kitB "tuple" n = some b) (q : Q (.bl b) H) : rIsi K [.ref a, .ty n] H Q := ⟨_, _, _, _, b, rfl, .ty n, .base (.tup h), kit_ty e, q⟩
theorem e_isiD {a : Addr} {xs : List (Key × V)} {n : String} {b : Bool} (h : H a = some (.dK xs)) (e : kitB "dict" n = some b) (q : Q (.bl b) H) : rIsi K [.ref a, .ty n] H Q := ⟨_, _, _, _, b, rfl, .ty n, .base (.dK h), kit_ty e, q⟩
theorem e_sortS {a : Addr} {xs : List Str} (h : SqL K H a (xs.map V.str)) (c : xs.length < 64) (q : ∀ (ys : List Str) (p : Addr), ys.Perm xs → sortedS ys = true → H p = none → Q (.ref p) (upd H p (.lst (ys.map V.str)))) : rSortedS K [.ref a] H Q := ⟨a, xs, rfl, h, c, q⟩
end
end L2.An
namespace L2.An
open PySem PySem.Spec PyProof.Rows
local macro_rules | `(tactic| walk_at "g1") => `(tactic| first
  | (with_reducible apply st_seq) | (with_reducible apply st_set) | (with_reducible apply st_asg) | (with_reducible apply st_drop) | (with_reducible apply st_ret) | (with_reducible apply st_retN)
  | (with_reducible apply st_if) | (with_reducible apply st_next) | (with_reducible apply st_brk) | (with_reducible apply st_cont)
  | (with_reducible apply st_name) | (with_reducible apply st_gc) | (with_reducible apply st_gn)
  | ((with_reducible apply e_var); rfl) | (with_reducible apply e_c) | (with_reducible apply e_op) | (with_reducible apply e_un) | (with_reducible apply e_pn) | (with_reducible apply e_p0)
  | (with_reducible apply e_cb) | (with_reducible apply e_cw) | (with_reducible apply e_tst) | (with_reducible apply e_tB) | (with_reducible apply e_bk) | (with_reducible apply e_and) | (with_reducible apply e_or) | (with_reducible apply e_not)
  | (with_reducible apply e_I0) | (with_reducible apply e_eqI) | (with_reducible apply e_neI) | (with_reducible apply e_eqS) | (with_reducible apply e_neS)
  | (with_reducible apply e_lst) | (with_reducible apply e_tup) | (with_reducible apply e_bm) | (with_reducible apply e_bm0) | ((with_reducible apply e_sz); rfl) | (with_reducible apply e_if)
  | (with_reducible apply st_for) | (with_reducible apply st_lock) | (with_reducible apply st_iL) | (with_reducible apply st_iU) | (with_reducible apply st_iR1) | (with_reducible apply st_iS) | (with_reducible apply st_iK)
  | (with_reducible apply e_dg) | (with_reducible apply e_di) | (with_reducible apply e_dn) | (with_reducible apply e_dp) | (with_reducible apply e_dg2) | (with_reducible apply e_po) | (with_reducible apply e_po2)
  | (with_reducible apply e_andV) | (with_reducible apply e_orV) | (with_reducible apply e_notV) | (with_reducible apply e_sl) | (with_reducible apply e_np) | (with_reducible apply e_prt) | (with_reducible apply e_ik)
  | (with_reducible apply e_fi) | (with_reducible apply e_sf) | (with_reducible apply e_nw) | (dsimp only))
local macro_rules | `(tactic| walk_at "go") => `(tactic| repeat walk_at "g1")
/-! ### the order of texts -/
def ltS (a b : Str) : Prop := a.cps.toList < b.cps.toList
theorem str_ext {a b : Str} (h : a.cps.toList = b.cps.toList) : a = b := by
  cases a with
  | mk x =>
    cases b with
    | mk y =>
      have e : x = y := Array.toList_inj.mp h
      rw [e]
theorem ltS_irrefl (a : Str) : ¬ ltS a a := List.lt_irrefl _
theorem ltS_trans {a b c : Str} (h : ltS a b) (h2 : ltS b c) : ltS a c := List.lt_trans h h2
theorem ltS_asymm {a b : Str} (h : ltS a b) : ¬ ltS b a := fun h2 => ltS_irrefl a (ltS_trans h h2)
theorem ltS_or {a b : Str} (h : a ≠ b) : ltS a b ∨ ltS b a := by
  rcases Classical.em (a.cps.toList < b.cps.toList) with q | q
  · exact .inl q
  · rcases Classical.em (b.cps.toList < a.cps.toList) with p | p
    · exact .inr p
    · exact absurd (str_ext (List.le_antisymm (List.not_lt.mp p) (List.not_lt.mp q))) h
theorem ltCps_false {a b : Str} : ltCps b.cps.toList a.cps.toList = false ↔ ¬ ltS b a := by
  rw [ltCps_eq]
  simp [ltS]
theorem rising_pw : ∀ {l : List Str} {p : Str}, risingS p l = true → (p :: l).Pairwise (fun a b => ¬ ltS b a)
  | [], p, _ => by simp
  | x :: r, p, h => by
    have h' : (!ltCps x.cps.toList p.cps.toList && risingS x r) = true := h
    rw [Bool.and_eq_true, Bool.not_eq_true'] at h'
    have ih := rising_pw h'.2
    have h1 : ¬ ltS x p := ltCps_false.mp h'.1
    refine List.Pairwise.cons (fun y hy => ?_) ih
    rcases List.mem_cons.mp hy with e | hy
    · rw [e]; exact h1
    · intro hyp
      have h2 : ¬ ltS y x := List.rel_of_pairwise_cons ih hy
      by_cases e : x = p
      · rw [e] at h2; exact h2 hyp
      · rcases ltS_or e with q | q
        · exact h1 q
        · exact h2 (ltS_trans hyp q)
theorem sorted_pw {l : List Str} (h : sortedS l = true) : l.Pairwise (fun a b => ¬ ltS b a) := by
  cases l with
  | nil => exact .nil
  | cons x r => exact rising_pw h
theorem sorted_lt {l : List Str} (h : l.Pairwise (fun a b => ¬ ltS b a)) (n : l.Nodup) : l.Pairwise ltS := by
  induction l with
  | nil => exact .nil
  | cons x r ih =>
    obtain ⟨h1, h2⟩ := List.pairwise_cons.mp h
    obtain ⟨n1, n2⟩ := List.nodup_cons.mp n
    refine List.Pairwise.cons (fun y hy => ?_) (ih h2 n2)
    have e : x ≠ y := fun z => n1 (z ▸ hy)
    rcases ltS_or e with q | q
    · exact q
    · exact absurd q (h1 y hy)
theorem sorted_one : ∀ {xs ys : List Str}, xs.Pairwise ltS → ys.Pairwise ltS → (∀ z, z ∈ xs ↔ z ∈ ys) → xs = ys
  | [], [], _, _, _ => rfl
  | [], y :: ys, _, _, h => absurd ((h y).mpr List.mem_cons_self) (by simp)
  | x :: xs, [], _, _, h => absurd ((h x).mp List.mem_cons_self) (by simp)
  | x :: xs, y :: ys, hx, hy, h => by
    obtain ⟨x1, x2⟩ := List.pairwise_cons.mp hx
    obtain ⟨y1, y2⟩ := List.pairwise_cons.mp hy
    have e : x = y := by
      rcases List.mem_cons.mp ((h x).mp List.mem_cons_self) with e | q
      · exact e
      · rcases List.mem_cons.mp ((h y).mpr List.mem_cons_self) with e | p
        · exact e.symm
        · exact absurd (y1 x q) (ltS_asymm (x1 y p))
    subst e
    have t : ∀ z, z ∈ xs ↔ z ∈ ys := fun z => by
      constructor
      · intro hz
        rcases List.mem_cons.mp ((h z).mp (List.mem_cons_of_mem _ hz)) with e | q
        · rw [e] at hz; exact absurd (x1 _ hz) (ltS_irrefl _)
        · exact q
      · intro hz
        rcases List.mem_cons.mp ((h z).mpr (List.mem_cons_of_mem _ hz)) with e | q
        · rw [e] at hz; exact absurd (y1 _ hz) (ltS_irrefl _)
        · exact q
    rw [sorted_one x2 y2 t]
/-- the texts of a list of values -/
theorem map_str_inj : ∀ {a b : List Str}, a.map V.str = b.map V.str → a = b
  | [], [], _ => rfl
  | [], _ :: _, h => by cases h
  | _ :: _, [], h => by cases h
  | x :: a, y :: b, h => by
    rw [List.map_cons, List.map_cons] at h
    injection h with h1 h2
    injection h1 with h1
    rw [h1, map_str_inj h2]
/-! ### dicts by texts, plain -/
section
variable {β γ : Type}
theorem getS_nil (k : Str) : getS ([] : List (Str × β)) k = none := rfl
theorem getS_cons (p : Str × β) (l : List (Str × β)) (k : Str) : getS (p :: l) k = if p.1 = k then some p.2 else getS l k := by
  unfold getS
  rw [List.find?_cons]
  by_cases e : p.1 = k
  · simp [e]
  · simp [e]
theorem getS_mem {l : List (Str × β)} {k : Str} {v : β} (h : getS l k = some v) : (k, v) ∈ l := by
  induction l with
  | nil => cases h
  | cons p r ih =>
    rw [getS_cons] at h
    by_cases e : p.1 = k
    · rw [if_pos e] at h
      cases h
      rw [← e]
      exact List.mem_cons_self
    · rw [if_neg e] at h
      exact List.mem_cons_of_mem _ (ih h)
theorem getS_none {l : List (Str × β)} {k : Str} : getS l k = none ↔ ¬ k ∈ l.map (·.1) := by
  induction l with
  | nil => simp [getS]
  | cons p r ih =>
    rw [getS_cons]
    by_cases e : p.1 = k
    · simp [e]
    · rw [if_neg e, ih, List.map_cons, List.mem_cons]
      constructor
      · intro h q
        rcases q with q | q
        · exact e q.symm
        · exact h q
      · exact fun h q => h (.inr q)
theorem getS_isSome {l : List (Str × β)} {k : Str} : (getS l k).isSome = decide (k ∈ l.map (·.1)) := by
  cases e : getS l k with
  | none =>
    have := getS_none.mp e
    simp only [Option.isSome_none]
    exact (decide_eq_false this).symm
  | some v =>
    have : k ∈ l.map (·.1) := List.mem_map.mpr ⟨_, getS_mem e, rfl⟩
    simp only [Option.isSome_some]
    exact (decide_eq_true this).symm
theorem any_key {l : List (Str × β)} {k : Str} : (l.any fun p => decide (p.1 = k)) = decide (k ∈ l.map (·.1)) := by
  induction l with
  | nil => rfl
  | cons p r ih =>
    rw [List.any_cons, ih, List.map_cons]
    by_cases e : p.1 = k
    · simp [e]
    · have e' : ¬ k = p.1 := fun z => e z.symm
      simp [e, e']
theorem putS_new {l : List (Str × β)} {k : Str} (v : β) (h : ¬ k ∈ l.map (·.1)) : putS l k v = l ++ [(k, v)] := by
  unfold putS
  rw [any_key, if_neg (by simpa using h)]
theorem putS_keys (l : List (Str × β)) (k : Str) (v : β) : (putS l k v).map (·.1) = if k ∈ l.map (·.1) then l.map (·.1) else l.map (·.1) ++ [k] := by
  unfold putS
  rw [any_key]
  by_cases h : k ∈ l.map (·.1)
  · rw [if_pos (by simpa using h), if_pos h, List.map_map]
    apply List.map_congr_left
    intro p _
    show (if p.1 = k then (p.1, v) else p).1 = p.1
    split <;> rfl
  · rw [if_neg (by simpa using h), if_neg h, List.map_append]
    rfl
theorem putS_len (l : List (Str × β)) (k : Str) (v : β) : (putS l k v).length ≤ l.length + 1 := by
  unfold putS
  split
  · rw [List.length_map]; exact Nat.le_succ _
  · rw [List.length_append]; exact Nat.le_refl _
theorem getS_app (l r : List (Str × β)) (k : Str) : getS (l ++ r) k = (getS l k).or (getS r k) := by
  induction l with
  | nil => rfl
  | cons p l ih =>
    rw [List.cons_append, getS_cons, getS_cons, ih]
    by_cases e : p.1 = k
    · rw [if_pos e, if_pos e]; rfl
    · rw [if_neg e, if_neg e]
theorem getS_put (l : List (Str × β)) (k j : Str) (v : β) : getS (putS l k v) j = if k = j then some v else getS l j := by
  unfold putS
  rw [any_key]
  by_cases h : k ∈ l.map (·.1)
  · rw [if_pos (by simpa using h)]
    induction l with
    | nil => cases h
    | cons p r ih =>
      rw [List.map_cons, getS_cons, getS_cons]
      by_cases e : p.1 = k
      · rw [if_pos e]
        show (if p.1 = j then some v else _) = _
        by_cases ej : k = j
        · rw [if_pos (e.trans ej), if_pos ej]
        · have e2 : ¬ p.1 = j := fun z => ej (e.symm.trans z)
          rw [if_neg e2, if_neg ej, if_neg e2]
          by_cases hr : k ∈ r.map (·.1)
          · rw [ih hr, if_neg ej]
          · congr 1
            have : r.map (fun p => if p.1 = k then (p.1, v) else p) = r := by
              conv => rhs; rw [← List.map_id r]
              apply List.map_congr_left
              intro q hq
              have : ¬ q.1 = k := fun z => hr (List.mem_map.mpr ⟨q, hq, z⟩)
              simp [this]
            rw [this]
      · have hr : k ∈ r.map (·.1) := by
          rw [List.map_cons] at h
          rcases List.mem_cons.mp h with q | q
          · exact absurd q.symm e
          · exact q
        rw [if_neg e, ih hr]
        by_cases ej : k = j
        · have e2 : ¬ p.1 = j := fun z => e (z.trans ej.symm)
          rw [if_pos ej, if_pos ej, if_neg e2]
        · rw [if_neg ej, if_neg ej]
  · rw [if_neg (by simpa using h), getS_app]
    have hn := getS_none.mpr h
    by_cases ej : k = j
    · subst ej
      rw [hn, if_pos rfl]
      simp [getS]
    · rw [if_neg ej]
      have : getS [(k, v)] j = none := by simp [getS, ej]
      rw [this]
      cases getS l j <;> rfl
theorem putS_nodup {l : List (Str × β)} (k : Str) (v : β) (h : (l.map (·.1)).Nodup) : ((putS l k v).map (·.1)).Nodup := by
  rw [putS_keys]
  by_cases e : k ∈ l.map (·.1)
  · rw [if_pos e]; exact h
  · rw [if_neg e]
    exact nd_snoc h e
theorem putS_map (f : β → γ) (l : List (Str × β)) (k : Str) (v : β) : putS (l.map fun p => (p.1, f p.2)) k (f v) = (putS l k v).map fun p => (p.1, f p.2) := by
  unfold putS
  have e : ((l.map fun p => (p.1, f p.2)).any fun p => decide (p.1 = k)) = l.any fun p => decide (p.1 = k) := by
    rw [List.any_map]
    rfl
  rw [e]
  split
  · rw [List.map_map, List.map_map]
    apply List.map_congr_left
    intro p _
    show (if p.1 = k then (p.1, f v) else (p.1, f p.2)) = _
    by_cases q : p.1 = k
    · simp [q]
    · simp [q]
  · rw [List.map_append]
    rfl
theorem getS_map (f : β → γ) (l : List (Str × β)) (k : Str) : getS (l.map fun p => (p.1, f p.2)) k = (getS l k).map f := by
  induction l with
  | nil => rfl
  | cons p r ih =>
    rw [List.map_cons, getS_cons, getS_cons, ih]
    by_cases e : p.1 = k
    · rw [if_pos e, if_pos e]; rfl
    · rw [if_neg e, if_neg e]
/-- related dicts: same keys in order, values related -/
abbrev RelD (R : β → V → Prop) (m : List (Str × β)) (l : List (Str × V)) : Prop := Paired (fun (p : Str × β) (q : Str × V) => p.1 = q.1 ∧ R p.2 q.2) m l
theorem RelD.keys {R : β → V → Prop} : ∀ {m : List (Str × β)} {l : List (Str × V)}, RelD R m l → m.map (·.1) = l.map (·.1)
  | _, _, .nil => rfl
  | _, _, .cons r t => by rw [List.map_cons, List.map_cons, r.1, RelD.keys t]
theorem RelD.get {R : β → V → Prop} {k : Str} : ∀ {m : List (Str × β)} {l : List (Str × V)}, RelD R m l → (getS m k = none ∧ getS l k = none) ∨ ∃ b v, getS m k = some b ∧ getS l k = some v ∧ R b v
  | _, _, .nil => .inl ⟨rfl, rfl⟩
  | p :: m, q :: l, .cons r t => by
    rw [getS_cons, getS_cons, ← r.1]
    by_cases e : p.1 = k
    · rw [if_pos e, if_pos e]
      exact .inr ⟨_, _, rfl, rfl, r.2⟩
    · rw [if_neg e, if_neg e]
      exact RelD.get t
theorem RelD.mono {R R' : β → V → Prop} {m : List (Str × β)} {l : List (Str × V)} (r : RelD R m l) (h : ∀ b v, R b v → R' b v) : RelD R' m l := Paired.mapP r fun _ _ z => ⟨z.1, h _ _ z.2⟩
theorem RelD.snoc {R : β → V → Prop} {k : Str} {b : β} {v : V} : ∀ {m : List (Str × β)} {l : List (Str × V)}, RelD R m l → R b v → RelD R (m ++ [(k, b)]) (l ++ [(k, v)])
  | _, _, .nil, h => .cons ⟨rfl, h⟩ .nil
  | _, _, .cons r t, h => .cons r (RelD.snoc t h)
theorem RelD.repl {R : β → V → Prop} {k : Str} {b : β} {v : V} : ∀ {m : List (Str × β)} {l : List (Str × V)}, RelD R m l → R b v →
    RelD R (m.map fun p => if p.1 = k then (p.1, b) else p) (l.map fun p => if p.1 = k then (p.1, v) else p)
  | _, _, .nil, _ => .nil
  | p :: m, q :: l, .cons r t, h => by
    rw [List.map_cons, List.map_cons]
    refine .cons ?_ (RelD.repl t h)
    by_cases e : p.1 = k
    · rw [if_pos e, if_pos (r.1 ▸ e)]
      exact ⟨r.1, h⟩
    · rw [if_neg e, if_neg (fun z => e (r.1.trans z))]
      exact r
theorem RelD.put {R : β → V → Prop} {k : Str} {b : β} {v : V} {m : List (Str × β)} {l : List (Str × V)} (r : RelD R m l) (h : R b v) : RelD R (putS m k b) (putS l k v) := by
  unfold putS
  rw [any_key, any_key, r.keys]
  split
  · exact r.repl h
  · exact r.snoc h
theorem RelD.length {R : β → V → Prop} {m : List (Str × β)} {l : List (Str × V)} (r : RelD R m l) : m.length = l.length := Paired.length r
end
/-! ### led_to -/
def RefL (H : Hp) (ys : List Str) (v : V) : Prop := ∃ b, v = .ref b ∧ H b = some (.lst (ys.map V.str))
/-- lists of names in a dict, by names -/
abbrev LnRel (H : Hp) (m : List (Str × List Str)) (l : List (Str × V)) : Prop := RelD (RefL H) m l
theorem RefL.same {H H' : Hp} {ys : List Str} {v : V} (s : Same H H') (h : RefL H ys v) : RefL H' ys v := let ⟨b, e, q⟩ := h; ⟨b, e, s _ _ q⟩
def getL (m : List (Str × List Str)) (x : Str) : List Str := (getS m x).getD []
inductive Leads (m : List (Str × List Str)) (x : Str) : Str → Prop where
  | one {z} : z ∈ getL m x → Leads m x z
  | more {y z} : Leads m x y → z ∈ getL m y → Leads m x z
def sp_led_to (K : PySem.W.Frag) : Sp := fun vs H Q _ => ∃ (x : Str) (a : Addr) (m : List (Str × List Str)) (l : List (Str × V)) (U : List Str), vs = [.str x, .ref a] ∧ H a = some (dS l) ∧ LnRel H m l ∧ U.length < 64 ∧
  (∀ x, (getL m x).length ≤ 1000 ∧ ∀ z ∈ getL m x, z ∈ U) ∧
  ∀ (r : Addr) (ys : List Str) (H' : Hp), Same H H' → H r = none → H' r = some (.lst (ys.map V.str)) → ys.Pairwise ltS → (∀ z, z ∈ ys ↔ Leads m x z) → Q (.ref r) H'
theorem ln_led_to {K : PySem.W.Frag} {vs : List V} {H : Hp} {Q : VK} {E : XK} (h : sp_led_to K vs H Q E) : vs.length = 2 := by
  obtain ⟨x, a, m, l, U, rfl, _⟩ := h
  rfl
abbrev n_led_to : List Str := ["name", "leans", "found", "front", "other"]
def t_led_to (K : PySem.W.Frag) (W : WX) : TS :=
  tSeq (tAsg tDNewK (gName 2))
  (tSeq (tAsg (tCB (rListL K) (tCons (tDg2 (tVar 1) (tVar 0) (tLst tNil)) tNil)) (gName 3))
  (tSeq (tWhile (tTest (tOp (rNeY K) (tVar 3) (tLst tNil))) (tSeq (tAsg (tBM0 K "list" rPop (tVar 3)) (gName 4))
  (tIfS (tB (tDn (tVar 4) (tVar 2))) (tSeq (sDp (tVar 2) (tVar 4) (tC (.bl true)))
  (tDrop (tBM K "list" rExtend (tVar 3) (tCons (tDg2 (tVar 1) (tVar 4) (tLst tNil)) tNil)))) tNext)))
  (tRet (tCB (rSortedS K) (tCons (tCB rListD (tCons (tVar 2) tNil)) tNil)))))
theorem same_up {H H' : Hp} {p : Addr} {o : HO} (s : Same H H') (h : H' p = none) : Same H (upd H' p o) := fun b u q => by rw [upd_ne (ne_of_none (s b u q) h)]; exact s b u q
theorem same1 {H : Hp} {p : Addr} {o : HO} (h : H p = none) : Same H (upd H p o) := same_up (Same.refl H) h
/-- an object that was not there at H may change -/
theorem same_mut {H H' : Hp} {p : Addr} {o : HO} (s : Same H H') (h : H p = none) : Same H (upd H' p o) := fun b u q => by rw [upd_ne (ne_of_none q h)]; exact s b u q
theorem none_up {H : Hp} {a b : Addr} {o : HO} (e : upd H a o b = none) : H b = none ∧ b ≠ a := by
  unfold upd at e
  split at e
  · cases e
  · exact ⟨e, by assumption⟩
theorem dq_get {H : Hp} {m : List (Str × List Str)} {l : List (Str × V)} (hm : LnRel H m l) (x : Str) {p : Addr} (hp : H p = some (.lst [])) : ∃ b, (getS l x).getD (.ref p) = .ref b ∧ H b = some (.lst ((getL m x).map V.str)) := by
  rcases hm.get (k := x) with ⟨e1, e2⟩ | ⟨ys, v, e1, e2, b, rfl, hb⟩
  · exact ⟨p, by rw [e2]; rfl, by unfold getL; rw [e1]; exact hp⟩
  · exact ⟨b, by rw [e2]; rfl, by unfold getL; rw [e1]; exact hb⟩
theorem pure_led_to {K : PySem.W.Frag} {vs : List V} {H : Hp} {Q : VK} {E : XK} {W : WX} (h : sp_led_to K vs H Q E) : t_led_to K W { nx := fun _ H' => Q .non H', rt := Q } (start n_led_to vs) H := by
  obtain ⟨x, a, m, l, U, rfl, ha, hm, hU, hmU, k⟩ := h
  show t_led_to K W _ [some (.str x), some (.ref a), none, none, none] H
  unfold t_led_to
  walk_at "go"
  intro d hd
  walk_at "go"
  have ha1 : upd H d (HO.dK []) a = some (dS l) := by rw [upd_ne (ne_of_none ha hd)]; exact ha
  refine k_isD (.of ha1) ?_
  walk_at "go"
  intro p hp
  have s1 : Same H (upd (upd H d (HO.dK [])) p (.lst [])) := same_up (same_up (Same.refl H) hd) hp
  obtain ⟨b, eb, hb⟩ := dq_get (hm.mono fun _ _ => RefL.same s1) x (p := p) upd_same
  refine k_dg2 (.of (s1 _ _ ha)) ?_
  rw [eb]
  walk_at "go"
  refine e_listL (SqL.of hb) fun f hf => ?_
  obtain ⟨hf1, nfp⟩ := none_up hf
  obtain ⟨hf2, nfd⟩ := none_up hf1
  have s2 : Same H (upd (upd (upd H d (HO.dK [])) p (.lst [])) f (.lst ((getL m x).map V.str))) := same_up s1 hf
  have ndp : d ≠ p := fun z => (none_up hp).2 z.symm
  have hU1 : ∀ F : List Str, F.Nodup → (∀ z ∈ F, z ∈ U) → F.length ≤ 63 := fun F n s => by
    have := List.Nodup.length_le_of_subset n (fun z hz => s z hz)
    omega
  walk_at "go"
  let W : Nat → St → Hp → Prop := fun n σ H' => ∃ (F R : List Str) (v : Option V), σ = [some (.str x), some (.ref a), some (.ref d), some (.ref f), v] ∧ Same H H' ∧ H' d = some (dS (F.map fun z => (z, V.bl true))) ∧ H' f = some (.lst (R.map V.str)) ∧
    F.Nodup ∧ (∀ z ∈ F, Leads m x z) ∧ (∀ z ∈ R, Leads m x z) ∧ (∀ z ∈ getL m x, z ∈ F ∨ z ∈ R) ∧ (∀ y ∈ F, ∀ z ∈ getL m y, z ∈ F ∨ z ∈ R) ∧ R.length ≤ (F.length + 1) * 1000 ∧ n = (64 - F.length) * 1001 + R.length
  have leadU : ∀ z, Leads m x z → z ∈ U := fun z h => by
    cases h with
    | one h => exact (hmU _).2 _ h
    | more _ h => exact (hmU _).2 _ h
  refine st_while W ((64 - 0) * 1001 + (getL m x).length) ⟨[], getL m x, none, rfl, s2, ?_, upd_same, List.nodup_nil, by simp, fun z h => .one h, fun z h => .inr h, by simp, ?_, rfl⟩ ?_
  · rw [upd_ne nfd.symm, upd_ne ndp, upd_same]
    rfl
  · have := (hmU x).1
    simp only [List.length_nil]
    omega
  rintro n σ H1 ⟨F, R, v, rfl, s, hF, hR, nF, lF, lR, c1, c2, b1, rfl⟩
  walk_at "go"
  intro q hq
  have nfq : f ≠ q := ne_of_none hR hq
  have ndq : d ≠ q := ne_of_none hF hq
  have s3 : Same H (upd H1 q (.lst [])) := same_up s hq
  have hR3 : upd H1 q (.lst []) f = some (.lst (R.map V.str)) := by rw [upd_ne nfq]; exact hR
  have hF3 : upd H1 q (.lst []) d = some (dS (F.map fun z => (z, V.bl true))) := by rw [upd_ne ndq]; exact hF
  refine e_neY R [] (by decide) (dp_strs (SqL.of hR3)) (dp_strs (ys := []) (SqL.of upd_same)) ?_
  walk_at "go"
  refine ifn (fun hne => ?_) (fun he => ?_)
  · apply st_wt
    walk_at "go"
    refine e_tyl hR3 ?_
    obtain ⟨R', z, rfl⟩ : ∃ R' z, R = R' ++ [z] := ⟨R.dropLast, R.getLast hne, (List.dropLast_concat_getLast hne).symm⟩
    refine e_pop (v := .str z) hR3 ?_ ?_
    · simp
    have hzL : Leads m x z := lR z (by simp)
    have hR' : upd (upd H1 q (.lst [])) f (.lst ((((R' ++ [z]).map V.str)).dropLast)) f = some (.lst (R'.map V.str)) := by
      rw [upd_same]
      simp
    have nfd' : f ≠ d := nfd
    have hF4 : upd (upd H1 q (.lst [])) f (.lst ((((R' ++ [z]).map V.str)).dropLast)) d = some (dS (F.map fun z => (z, V.bl true))) := by rw [upd_ne nfd'.symm]; exact hF3
    have s4 : Same H (upd (upd H1 q (.lst [])) f (.lst ((((R' ++ [z]).map V.str)).dropLast))) := same_mut s3 hf2
    generalize upd (upd H1 q (.lst [])) f (.lst ((((R' ++ [z]).map V.str)).dropLast)) = H2 at hR' hF4 s4 ⊢
    walk_at "go"
    refine k_dn (.of hF4) ?_
    rw [getS_isSome, show (F.map fun z => (z, V.bl true)).map (·.1) = F by rw [List.map_map]; exact List.map_id F]
    walk_at "go"
    refine ifn (fun hz => ?_) (fun hz => ?_)
    · walk_at "go"
      have nF' : (F ++ [z]).Nodup := nd_snoc nF hz
      have hlF : (F ++ [z]).length ≤ 63 := hU1 _ nF' fun y hy => by
        rcases List.mem_append.mp hy with q | q
        · exact leadU y (lF y q)
        · rw [List.mem_singleton.mp q]; exact leadU z hzL
      rw [List.length_append, List.length_singleton] at hlF
      have hF5 : ∀ o, upd H2 d o f = some (.lst (R'.map V.str)) := fun o => by rw [upd_ne nfd]; exact hR'
      have ep : putS (F.map fun z => (z, V.bl true)) z (V.bl true) = (F ++ [z]).map fun z => (z, V.bl true) := by
        rw [putS_new, List.map_append]
        · rfl
        · rw [List.map_map]
          intro h
          exact hz (by simpa using h)
      refine k_dp hF4 (small1000 (by rw [List.length_map]; omega)) ?_
      rw [ep]
      have s5 : Same H (upd H2 d (dS ((F ++ [z]).map fun z => (z, V.bl true)))) := same_mut s4 hd
      have hR5 := hF5 (dS ((F ++ [z]).map fun z => (z, V.bl true)))
      have hF6 : upd H2 d (dS ((F ++ [z]).map fun z => (z, V.bl true))) d = some (dS ((F ++ [z]).map fun z => (z, V.bl true))) := upd_same
      generalize upd H2 d (dS ((F ++ [z]).map fun z => (z, V.bl true))) = H3 at s5 hR5 hF6 ⊢
      walk_at "go"
      refine e_tyl hR5 ?_
      walk_at "go"
      refine k_isD (.of (s5 _ _ ha)) ?_
      walk_at "go"
      intro p2 hp2
      have s6 : Same H (upd H3 p2 (.lst [])) := same_up s5 hp2
      obtain ⟨b2, eb2, hb2⟩ := dq_get (hm.mono fun _ _ => RefL.same s6) z (p := p2) upd_same
      refine k_dg2 (.of (s6 _ _ ha)) ?_
      rw [eb2]
      walk_at "go"
      have nfp2 : f ≠ p2 := ne_of_none hR5 hp2
      have ndp2 : d ≠ p2 := ne_of_none hF6 hp2
      have hR7 : upd H3 p2 (.lst []) f = some (.lst (R'.map V.str)) := by rw [upd_ne nfp2]; exact hR5
      have hF7 : upd H3 p2 (.lst []) d = some (dS ((F ++ [z]).map fun z => (z, V.bl true))) := by rw [upd_ne ndp2]; exact hF6
      have hl2 := (hmU z).1
      rw [List.length_append, List.length_singleton] at b1
      refine e_ext hR7 hb2 (by rw [List.length_map, List.length_map, sizeLine_eq]; omega) ?_
      refine ⟨_, ?_, F ++ [z], R' ++ getL m z, _, rfl, same_mut s6 hf2, ?_, ?_, nF', ?_, ?_, ?_, ?_, ?_, rfl⟩
      · simp only [List.length_append, List.length_singleton]
        omega
      · rw [upd_ne nfd.symm]; exact hF7
      · rw [upd_same, List.map_append]
      · intro y hy
        rcases List.mem_append.mp hy with q | q
        · exact lF y q
        · rw [List.mem_singleton.mp q]; exact hzL
      · intro y hy
        rcases List.mem_append.mp hy with q | q
        · exact lR y (List.mem_append_left _ q)
        · exact .more hzL q
      · intro y hy
        rcases c1 y hy with q | q
        · exact .inl (List.mem_append_left _ q)
        · rcases List.mem_append.mp q with q | q
          · exact .inr (List.mem_append_left _ q)
          · exact .inl (List.mem_append_right _ q)
      · intro y hy w hw
        rcases List.mem_append.mp hy with q | q
        · rcases c2 y q w hw with q | q
          · exact .inl (List.mem_append_left _ q)
          · rcases List.mem_append.mp q with q | q
            · exact .inr (List.mem_append_left _ q)
            · exact .inl (List.mem_append_right _ q)
        · rw [List.mem_singleton.mp q] at hw
          exact .inr (List.mem_append_right _ hw)
      · simp only [List.length_append, List.length_singleton]
        omega
    · walk_at "go"
      refine ⟨_, ?_, F, R', _, rfl, s4, hF4, hR', nF, lF, fun y hy => lR y (List.mem_append_left _ hy), fun y hy => ?_, fun y hy w hw => ?_, ?_, rfl⟩
      · rw [List.length_append, List.length_singleton]; omega
      · rcases c1 y hy with q | q
        · exact .inl q
        · rcases List.mem_append.mp q with q | q
          · exact .inr q
          · rw [List.mem_singleton.mp q]; exact .inl hz
      · rcases c2 y hy w hw with q | q
        · exact .inl q
        · rcases List.mem_append.mp q with q | q
          · exact .inr q
          · rw [List.mem_singleton.mp q]; exact .inl hz
      · rw [List.length_append, List.length_singleton] at b1; omega
  · subst he
    walk_at "go"
    refine e_listD hF3 fun r hr => ?_
    walk_at "go"
    have e1 : (F.map fun z => (z, V.bl true)).map (fun p => V.str p.1) = F.map V.str := by rw [List.map_map]; rfl
    rw [e1]
    refine ⟨r, F, rfl, SqL.of upd_same, by have := hU1 F nF fun y hy => leadU y (lF y hy); omega, fun ys t hp hs ht => ?_⟩
    refine k t ys _ (same_up (same_up s3 hr) ht) ((same_up s3 hr).free ht) upd_same (sorted_lt (sorted_pw hs) (hp.nodup_iff.mpr nF)) fun y => ?_
    rw [hp.mem_iff]
    refine ⟨lF y, fun h => ?_⟩
    induction h with
    | one h => exact (c1 _ h).resolve_right (by simp)
    | more _ h ih => exact (c2 _ ih _ h).resolve_right (by simp)
/-! ### the law's cells and names -/
def cellAt (ns : List Int) (k : Int) : Int := ns.getD k.toNat 0
def sp_cell_at (K : PySem.W.Frag) : Sp := fun vs H Q _ => ∃ (a : Addr) (ns : List Int) (k : Int), vs = [.ref a, .int k] ∧ SqL K H a (ns.map V.int) ∧ 0 ≤ k ∧ Q (.int (cellAt ns k)) H
theorem ln__law_cell_at {K : PySem.W.Frag} {vs : List V} {H : Hp} {Q : VK} {E : XK} (h : sp_cell_at K vs H Q E) : vs.length = 2 := by
  obtain ⟨a, ns, k, rfl, _⟩ := h
  rfl
abbrev n__law_cell_at : List Str := ["_law_script", "_law_k"]
def t__law_cell_at (K : PySem.W.Frag) (W : WX) : TS :=
  tSeq (tIfS (tTest (tOp rLtI (tVar 1) (tCB (rLenL K) (tCons (tVar 0) tNil)))) (tRet (tOp (rIxL K) (tVar 0) (tVar 1))) tNext)
  (tRet (tC (.int 0)))
theorem atI_map {ns : List Int} {k : Int} (h0 : 0 ≤ k) (h : k < (ns.length : Int)) : atI (ns.map V.int) k = some (.int (cellAt ns k)) := by
  have hk : k.toNat < ns.length := by omega
  refine at_of (j := k.toNat) (by omega) ?_
  rw [List.getElem?_map, List.getElem?_eq_getElem hk]
  unfold cellAt
  rw [List.getD_eq_getElem?_getD, List.getElem?_eq_getElem hk]
  rfl
theorem pure__law_cell_at {K : PySem.W.Frag} {vs : List V} {H : Hp} {Q : VK} {E : XK} {W : WX} (h : sp_cell_at K vs H Q E) : t__law_cell_at K W { nx := fun _ H' => Q .non H', rt := Q } (start n__law_cell_at vs) H := by
  obtain ⟨a, ns, k, rfl, hS, h0, q⟩ := h
  show t__law_cell_at K W _ [some (.ref a), some (.int k)] H
  unfold t__law_cell_at
  walk_at "go"
  refine e_lenL hS ?_
  walk_at "go"
  refine ifd (fun h => ?_) (fun h => ?_)
  · rw [List.length_map] at h
    walk_at "go"
    exact e_ixL hS (atI_map h0 h) q
  · rw [List.length_map] at h
    walk_at "go"
    have e : cellAt ns k = 0 := by
      unfold cellAt
      rw [List.getD_eq_getElem?_getD, List.getElem?_eq_none (by omega)]
      rfl
    rw [e] at q
    exact q
/-- the k-th of the law's names -/
def nmStep (c : Int) (k p : Nat) : Int := c / 36 % 26 + 5 * (p : Int) + (if (p : Int) = c / 6 % (1 + c % 6) then (k : Int) else 0)
def nmCode (c : Int) (k p : Nat) : Nat := 97 + (nmStep c k p % 26).toNat
def nmCodes (c : Int) (k n : Nat) : List Nat := (List.range n).map (nmCode c k)
def lawName (c : Int) (k : Nat) : Str := ⟨(nmCodes c k (1 + c % 6).toNat).toArray⟩
def lawNames (c : Int) (n : Nat) : List Str := (List.range n).map (lawName c)
def sp__law_names : Sp := fun vs H Q _ => ∃ (c : Int) (n : Nat), vs = [.int c, .int n] ∧ n ≤ 1000 ∧ ∀ r H', Same H H' → H r = none → H' r = some (.lst ((lawNames c n).map V.str)) → Q (.ref r) H'
theorem ln__law_names {vs : List V} {H : Hp} {Q : VK} {E : XK} (h : sp__law_names vs H Q E) : vs.length = 2 := by
  obtain ⟨c, n, rfl, _⟩ := h
  rfl
abbrev n__law_names : List Str := ["_law_cell", "_law_many", "_law_letters", "_law_size", "_law_at", "_law_out", "_law_k", "_law_name", "_law_place", "_law_step"]
def t__law_names (K : PySem.W.Frag) (W : WX) : TS :=
  tSeq (tAsg (tC (.str "abcdefghijklmnopqrstuvwxyz")) (gName 2))
  (tSeq (tAsg (tOp rAddI (tC (.int 1)) (tOp rModI (tVar 0) (tC (.int 6)))) (gName 3))
  (tSeq (tAsg (tOp rModI (tOp rDivI (tVar 0) (tC (.int 6))) (tVar 3)) (gName 4))
  (tSeq (tAsg (tLst tNil) (gName 5))
  (tSeq (tFor (iRng1 (tCons (tVar 1) tNil)) (gName 6) (tSeq (tAsg (tC (.str "")) (gName 7))
  (tSeq (tFor (iRng1 (tCons (tVar 3) tNil)) (gName 8) (tSeq (tAsg (tOp rAddI (tOp rModI (tOp rDivI (tVar 0) (tC (.int 36))) (tC (.int 26))) (tOp rMulI (tC (.int 5)) (tVar 8))) (gName 9))
  (tSeq (tIfS (tTest (tOp rEq (tVar 8) (tVar 4))) (tAsg (tOp rAddI (tVar 9) (tVar 6)) (gName 9)) tNext)
  (tAsg (tOp rAddS (tVar 7) (tOp rIxS (tVar 2) (tOp rModI (tVar 9) (tC (.int 26))))) (gName 7)))))
  (tDrop (tBM K "list" rAppend (tVar 5) (tCons (tVar 7) tNil))))))
  (tRet (tVar 5))))))
theorem letters_at : ∀ i : Fin 26, (Str.ofString "abcdefghijklmnopqrstuvwxyz").cps.toList[i.val]? = some (97 + i.val) := by decide +kernel
theorem letters_len : (Str.ofString "abcdefghijklmnopqrstuvwxyz").length ≤ sizeLine := by decide +kernel
theorem letters_atI {z : Int} (h0 : 0 ≤ z) (h : z < 26) : atI (Str.ofString "abcdefghijklmnopqrstuvwxyz").cps.toList z = some (97 + z.toNat) := by
  have e : (Str.ofString "abcdefghijklmnopqrstuvwxyz").cps.toList[z.toNat]? = some (97 + z.toNat) := letters_at ⟨z.toNat, by omega⟩
  have e2 : z = ((z.toNat : Nat) : Int) := by omega
  have e3 := atI_nat e
  rw [← e2] at e3
  exact e3
theorem str_snoc (l : List Nat) (c : Nat) : (⟨l.toArray⟩ : Str) ++ (⟨#[c]⟩ : Str) = ⟨(l ++ [c]).toArray⟩ := by
  apply str_ext
  show ((l.toArray ++ #[c]).toList : List Nat) = _
  simp
theorem divw (a : Int) {b : Int} (h : 0 < b) (h2 : b < 1000) : CDivW a b := wide_div (b := 10) h (Nat.lt_of_lt_of_le (show b.natAbs < 1000 by omega) (by decide)) (by decide) (by decide)
theorem mulok {a b : Int} (h0 : -(2 ^ 64) < a) (h : a < 2 ^ 64) : IntMulOk a b := (show CMul a b from .inl ⟨h0, h⟩).ok
theorem pure__law_names {K : PySem.W.Frag} {vs : List V} {H : Hp} {Q : VK} {E : XK} {W : WX} (h : sp__law_names vs H Q E) : t__law_names K W { nx := fun _ H' => Q .non H', rt := Q } (start n__law_names vs) H := by
  obtain ⟨c, n, rfl, hn, k⟩ := h
  show t__law_names K W _ [some (.int c), some (.int n), none, none, none, none, none, none, none, none] H
  unfold t__law_names
  walk_at "go"
  refine e_mod (by decide) ?_
  walk_at "go"
  refine e_div (divw c (by decide) (by decide)) ?_
  walk_at "go"
  refine e_mod (by omega) ?_
  walk_at "go"
  intro r hr
  walk_at "go"
  refine k_forR (n := (n : Int)) (fun i σ H' => ∃ v6 v7 v8 v9 : Option V, σ = [some (.int c), some (.int n), some (.str "abcdefghijklmnopqrstuvwxyz"), some (.int (1 + c % 6)), some (.int (c / 6 % (1 + c % 6))), some (.ref r), v6, v7, v8, v9] ∧ Same H H' ∧ H' r = some (.lst ((lawNames c i).map V.str)))
    (by omega) (by omega) ⟨none, none, none, none, rfl, same_up (Same.refl H) hr, upd_same⟩ ?_ ?_
  · rintro i σ H1 hi ⟨v6, v7, v8, v9, rfl, s1, h1⟩
    walk_at "go"
    refine k_forR (n := 1 + c % 6) (fun p σ H' => ∃ v8 v9 : Option V, σ = [some (.int c), some (.int n), some (.str "abcdefghijklmnopqrstuvwxyz"), some (.int (1 + c % 6)), some (.int (c / 6 % (1 + c % 6))), some (.ref r), some (.int i), some (.str ⟨(nmCodes c i p).toArray⟩), v8, v9] ∧ H' = H1)
      (by omega) (by omega) ⟨v8, v9, rfl, rfl⟩ ?_ ?_
    · rintro p σ H2 hp ⟨v8, v9, rfl, rfl⟩
      walk_at "go"
      refine e_div (divw c (by decide) (by decide)) ?_
      walk_at "go"
      refine e_mod (by decide) ?_
      walk_at "go"
      refine e_mul (mulok (by decide) (by decide)) ?_
      walk_at "go"
      have fin : ∀ z : Int, z = nmStep c i p → ∀ G : VK, G (.str ⟨(nmCodes c i (p + 1)).toArray⟩) H2 → rModI (.int z) (.int 26) H2 fun y H => rIxS (.str "abcdefghijklmnopqrstuvwxyz") y H fun y H => rAddS (.str ⟨(nmCodes c i p).toArray⟩) y H G := by
        rintro z rfl G hG
        refine e_mod (by decide) ?_
        refine e_ixS letters_len (letters_atI (by omega) (by omega)) ?_
        refine e_addS ?_ ?_
        · show (nmCodes c i p).length + 1 ≤ sizeLine
          unfold nmCodes
          rw [List.length_map, List.length_range, sizeLine_eq]
          omega
        · rw [str_snoc]
          have e : nmCodes c i (p + 1) = nmCodes c i p ++ [97 + (nmStep c i p % 26).toNat] := by
            unfold nmCodes
            rw [List.range_succ, List.map_append]
            rfl
          rw [e] at hG
          exact hG
      refine ifd (fun h => ?_) (fun h => ?_)
      · walk_at "go"
        exact fin _ (by unfold nmStep; rw [if_pos h]) _ ⟨_, _, rfl, rfl⟩
      · walk_at "go"
        exact fin _ (by unfold nmStep; rw [if_neg h]; omega) _ ⟨_, _, rfl, rfl⟩
    · rintro σ H2 ⟨v8, v9, rfl, rfl⟩
      walk_at "go"
      refine e_tyl h1 ?_
      walk_at "go"
      refine e_app h1 ?_ ?_
      · show ((lawNames c i).map V.str).length < sizeLine
        rw [List.length_map, lawNames, List.length_map, List.length_range, sizeLine_eq]
        omega
      · refine ⟨_, _, _, _, rfl, same_mut s1 hr, ?_⟩
        rw [upd_same]
        unfold lawNames
        rw [List.range_succ, List.map_append, List.map_append]
        rfl
  · rintro σ H1 ⟨v6, v7, v8, v9, rfl, s1, h1⟩
    walk_at "go"
    exact k r H1 s1 hr h1
/-! ### the law's leanings -/
def pick (ys : List Str) (c : Int) : Str := ys.getD (c % (ys.length : Int)).toNat ""
def lnStep (ys : List Str) (m : List (Str × List Str)) (c : Int) : List (Str × List Str) := putS m (pick ys c) (getL m (pick ys c) ++ [pick ys (c / 16)])
def leansOf (ys : List Str) (cs : List Int) : List (Str × List Str) := cs.foldl (lnStep ys) []
theorem leansOf_snoc (ys : List Str) (cs : List Int) (c : Int) : leansOf ys (cs ++ [c]) = lnStep ys (leansOf ys cs) c := by
  unfold leansOf
  rw [List.foldl_append]
  rfl
theorem pick_at {ys : List Str} {c : Int} (h : 0 < ys.length) : atI (ys.map V.str) (c % (ys.length : Int)) = some (.str (pick ys c)) := by
  have h1 : 0 ≤ c % (ys.length : Int) := Int.emod_nonneg _ (by omega)
  have h2 : c % (ys.length : Int) < ys.length := Int.emod_lt_of_pos _ (by omega)
  have hk : (c % (ys.length : Int)).toNat < ys.length := by omega
  refine at_of (j := (c % (ys.length : Int)).toNat) (by omega) ?_
  rw [List.getElem?_map, List.getElem?_eq_getElem hk]
  unfold pick
  rw [List.getD_eq_getElem?_getD, List.getElem?_eq_getElem hk]
  rfl
theorem pick_mem {ys : List Str} {c : Int} (h : 0 < ys.length) : pick ys c ∈ ys := by
  have h1 : 0 ≤ c % (ys.length : Int) := Int.emod_nonneg _ (by omega)
  have h2 : c % (ys.length : Int) < ys.length := Int.emod_lt_of_pos _ (by omega)
  have hk : (c % (ys.length : Int)).toNat < ys.length := by omega
  unfold pick
  rw [List.getD_eq_getElem?_getD, List.getElem?_eq_getElem hk]
  exact List.getElem_mem hk
theorem getL_put (m : List (Str × List Str)) (k j : Str) (v : List Str) : getL (putS m k v) j = if k = j then v else getL m j := by
  unfold getL
  rw [getS_put]
  split <;> rfl
theorem leansOf_in {ys : List Str} (h : 0 < ys.length) : ∀ (n : Nat) (cs : List Int), cs.length = n → (∀ x, ∀ z ∈ getL (leansOf ys cs) x, z ∈ ys) ∧ (∀ x, (getL (leansOf ys cs) x).length ≤ n) ∧ (leansOf ys cs).length ≤ n ∧ ((leansOf ys cs).map (·.1)).Nodup ∧ ((leansOf ys cs).flatMap (·.2)).length = n := by
  intro n
  induction n with
  | zero =>
    intro cs hc
    cases cs with
    | nil => exact ⟨fun x z hz => absurd hz (by simp [leansOf, getL, getS]), fun x => by simp [leansOf, getL, getS], by simp [leansOf], by simp [leansOf], by simp [leansOf]⟩
    | cons _ _ => simp at hc
  | succ n ih =>
    intro cs hc
    obtain ⟨cs, c, rfl⟩ : ∃ l c, cs = l ++ [c] := ⟨cs.dropLast, cs.getLast (by intro z; rw [z] at hc; simp at hc), (List.dropLast_concat_getLast _).symm⟩
    have hc' : cs.length = n := by simpa using hc
    obtain ⟨i1, i2, i3, i4, i5⟩ := ih cs hc'
    rw [leansOf_snoc]
    unfold lnStep
    refine ⟨fun x z hz => ?_, fun x => ?_, ?_, putS_nodup _ _ i4, ?_⟩
    · rw [getL_put] at hz
      split at hz
      · rcases List.mem_append.mp hz with q | q
        · exact i1 _ z q
        · rw [List.mem_singleton.mp q]
          exact pick_mem h
      · exact i1 _ z hz
    · rw [getL_put]
      split
      · have := i2 (pick ys c)
        rw [List.length_append, List.length_singleton]
        omega
      · have := i2 x
        omega
    · have := putS_len (leansOf ys cs) (pick ys c) (getL (leansOf ys cs) (pick ys c) ++ [pick ys (c / 16)])
      omega
    · rw [← i5]
      generalize leansOf ys cs = m at i4 ⊢
      generalize pick ys c = x
      generalize pick ys (c / 16) = y
      clear i1 i2 i3 i5 hc hc' ih
      by_cases hx : x ∈ m.map (·.1)
      · unfold putS
        rw [any_key, if_pos (by simpa using hx)]
        induction m with
        | nil => cases hx
        | cons p r ihm =>
          rw [List.map_cons] at i4
          obtain ⟨n1, n2⟩ := List.nodup_cons.mp i4
          rw [List.map_cons, List.flatMap_cons, List.flatMap_cons, List.length_append, List.length_append]
          by_cases e : p.1 = x
          · have hr : ¬ x ∈ r.map (·.1) := e ▸ n1
            have er : r.map (fun q => if q.1 = x then (q.1, getL (p :: r) x ++ [y]) else q) = r := by
              conv => rhs; rw [← List.map_id r]
              apply List.map_congr_left
              intro q hq
              have : ¬ q.1 = x := fun z => hr (List.mem_map.mpr ⟨q, hq, z⟩)
              simp [this]
            rw [er, if_pos e]
            have eg : getL (p :: r) x = p.2 := by
              unfold getL
              rw [getS_cons, if_pos e]
              rfl
            rw [eg]
            simp only [List.length_append, List.length_singleton]
            omega
          · have hr : x ∈ r.map (·.1) := by
              rw [List.map_cons] at hx
              rcases List.mem_cons.mp hx with q | q
              · exact absurd q.symm e
              · exact q
            rw [if_neg e]
            have eg : getL (p :: r) x = getL r x := by
              unfold getL
              rw [getS_cons, if_neg e]
            rw [eg, ihm n2 hr]
            omega
      · rw [putS_new _ hx]
        have eg : getL m x = [] := by
          unfold getL
          rw [getS_none.mpr hx]
          rfl
        rw [eg, List.flatMap_append]
        simp
def sp_leans (K : PySem.W.Frag) : Sp := fun vs H Q _ => ∃ (a b : Addr) (cs : List Int) (ys : List Str), vs = [.ref a, .ref b] ∧ SqL K H a (cs.map V.int) ∧ SqL K H b (ys.map V.str) ∧ 0 < ys.length ∧ cs.length ≤ 1000 ∧
  ∀ (d : Addr) (l : List (Str × V)) (H' : Hp), Same H H' → H d = none → H' d = some (dS l) → LnRel H' (leansOf ys cs) l → Q (.ref d) H'
theorem ln__law_leans {K : PySem.W.Frag} {vs : List V} {H : Hp} {Q : VK} {E : XK} (h : sp_leans K vs H Q E) : vs.length = 2 := by
  obtain ⟨a, b, cs, ys, rfl, _⟩ := h
  rfl
abbrev n__law_leans : List Str := ["_law_cells", "_law_names_here", "_law_leans_here", "_law_cell", "_law_one"]
def t__law_leans (K : PySem.W.Frag) (W : WX) : TS :=
  tSeq (tAsg tDNewK (gName 2))
  (tSeq (tFor (iList K (tVar 0)) (gName 3) (tSeq (tAsg (tOp (rIxL K) (tVar 1) (tOp rModI (tVar 3) (tCB (rLenL K) (tCons (tVar 1) tNil)))) (gName 4))
  (sDp (tVar 2) (tVar 4) (tOp rCat (tDg2 (tVar 2) (tVar 4) (tLst tNil)) (tLst (tCons (tOp (rIxL K) (tVar 1) (tOp rModI (tOp rDivI (tVar 3) (tC (.int 16))) (tCB (rLenL K) (tCons (tVar 1) tNil)))) tNil))))))
  (tRet (tVar 2)))
/-- a new object, or a change of a dict, leaves the lists -/
theorem RefL.updD {H : Hp} {d : Addr} {k k' : List (Key × V)} {ys : List Str} {v : V} (h : H d = some (.dK k)) (r : RefL H ys v) : RefL (upd H d (.dK k')) ys v := by
  obtain ⟨b, e, hb⟩ := r
  refine ⟨b, e, ?_⟩
  rw [upd_ne (ne_of hb h (by intro z; cases z))]
  exact hb
theorem pure__law_leans {K : PySem.W.Frag} {vs : List V} {H : Hp} {Q : VK} {E : XK} {W : WX} (h : sp_leans K vs H Q E) : t__law_leans K W { nx := fun _ H' => Q .non H', rt := Q } (start n__law_leans vs) H := by
  obtain ⟨a, b, cs, ys, rfl, hcs, hys, h0, hc, k⟩ := h
  show t__law_leans K W _ [some (.ref a), some (.ref b), none, none, none] H
  unfold t__law_leans
  walk_at "go"
  intro d hd
  walk_at "go"
  have lc : (cs.map V.int).length = cs.length := List.length_map _
  have ly : (ys.map V.str).length = ys.length := List.length_map _
  have s0 : Same H (upd H d (.dK [])) := same_up (Same.refl H) hd
  refine k_forL (fun i σ H' => ∃ (v3 v4 : Option V) (l : List (Str × V)), σ = [some (.ref a), some (.ref b), some (.ref d), v3, v4] ∧ Same H H' ∧ H' d = some (dS l) ∧ LnRel H' (leansOf ys (cs.take i)) l) (s0.seq hcs)
    ⟨none, none, [], rfl, s0, upd_same, .nil⟩ (fun i σ H' _ ⟨_, _, _, _, s, _⟩ => s.seq hcs) ?_ ?_
  · rintro i x σ H1 hi ⟨v3, v4, l, rfl, s1, hl, R⟩
    have hil : i < cs.length := by
      have := (List.getElem?_eq_some_iff.mp hi).1
      omega
    obtain rfl : x = V.int cs[i] := by
      rw [List.getElem?_map, List.getElem?_eq_getElem hil] at hi
      exact (Option.some.inj hi).symm
    have et : cs.take (i + 1) = cs.take i ++ [cs[i]] := by rw [List.take_succ_eq_append_getElem hil]
    generalize cs[i] = c at et ⊢
    have B := leansOf_in h0 i (cs.take i) (by rw [List.length_take]; omega)
    generalize em : leansOf ys (cs.take i) = m at R B ⊢
    walk_at "go"
    refine e_lenL (s1.seq hys) ?_
    rw [ly]
    refine e_mod (by omega) ?_
    refine e_ixL (s1.seq hys) (pick_at h0) ?_
    walk_at "go"
    refine k_isD (.of hl) ?_
    walk_at "go"
    intro p hp
    have s2 : Same H1 (upd H1 p (.lst [])) := same_up (Same.refl H1) hp
    obtain ⟨q, eq, hq⟩ := dq_get (R.mono fun _ _ => RefL.same s2) (pick ys c) (p := p) upd_same
    refine k_dg2 (.of (s2 _ _ hl)) ?_
    rw [eq]
    walk_at "go"
    refine e_div (divw c (by decide) (by decide)) ?_
    walk_at "go"
    refine e_lenL (s2.seq (s1.seq hys)) ?_
    rw [ly]
    refine e_mod (by omega) ?_
    refine e_ixL (s2.seq (s1.seq hys)) (pick_at h0) ?_
    walk_at "go"
    intro r hr
    have s3 := same1 (o := .lst [.str (pick ys (c / 16))]) hr
    refine e_cat (s3 _ _ hq) upd_same ?_ ?_
    · have := B.2.1 (pick ys c)
      rw [List.length_map, sizeLine_eq]
      simp only [List.length_singleton]
      omega
    intro t ht
    have s4 : Same H1 (upd (upd (upd H1 p (.lst [])) r (.lst [.str (pick ys (c / 16))])) t (.lst ((getL m (pick ys c)).map V.str ++ [.str (pick ys (c / 16))]))) := (s2.trans s3).trans (same1 ht)
    have h4 : upd (upd (upd H1 p (.lst [])) r (.lst [.str (pick ys (c / 16))])) t (.lst ((getL m (pick ys c)).map V.str ++ [.str (pick ys (c / 16))])) t = some (.lst ((getL m (pick ys c) ++ [pick ys (c / 16)]).map V.str)) := by
      rw [upd_same, List.map_append]
      rfl
    generalize upd (upd (upd H1 p (.lst [])) r (.lst [.str (pick ys (c / 16))])) t (.lst ((getL m (pick ys c)).map V.str ++ [.str (pick ys (c / 16))])) = H4 at s4 h4 ⊢
    walk_at "go"
    refine k_dp (s4 _ _ hl) (by rw [← R.length, sizeLine_eq]; omega) ?_
    walk_at "go"
    refine ⟨_, _, _, rfl, same_mut (s1.trans s4) hd, upd_same, ?_⟩
    rw [et, leansOf_snoc, em]
    exact RelD.put (R.mono fun _ _ z => RefL.updD (s4 _ _ hl) (RefL.same s4 z)) (RefL.updD (s4 _ _ hl) ⟨t, rfl, h4⟩)
  · rintro σ H1 ⟨v3, v4, l, rfl, s1, hl, R⟩
    rw [lc, List.take_of_length_le (Nat.le_refl _)] at R
    walk_at "go"
    exact k d l H1 s1 hd hl R
/-! ### more operators: in a list of data, dicts of data unlike, slices with a step -/
section
open PySem.W (Datum)
def rInY (K : PySem.W.Frag) : R2 := fun x y H Q => ∃ (α : Type) (i1 : DecidableEq α) (i2 : Datum α) (a : α) (xs : List α) (p : Addr) (vs : List V), y = .ref p ∧ Datum.depth α ≤ 63 ∧ Dp K H x (Datum.toD a) ∧ SqL K H p vs ∧ DpAll K H vs (xs.map (fun z : α => Datum.toD z)) ∧ Q (.bl (decide (a ∈ xs))) H
def rNinY (K : PySem.W.Frag) : R2 := fun x y H Q => ∃ (α : Type) (i1 : DecidableEq α) (i2 : Datum α) (a : α) (xs : List α) (p : Addr) (vs : List V), y = .ref p ∧ Datum.depth α ≤ 63 ∧ Dp K H x (Datum.toD a) ∧ SqL K H p vs ∧ DpAll K H vs (xs.map (fun z : α => Datum.toD z)) ∧ Q (.bl (!decide (a ∈ xs))) H
variable {X : Cx}
theorem op_inY (hu : X.A.units + 64 < cLine) : OpR X (compareOp .In) (rInY X.K) := by
  intro pins s σ H x y v u Q I rx ry h
  obtain ⟨α, i1, i2, a, xs, p, vs, rfl, hd, ha, hl, hb, q⟩ := h
  obtain rfl : u = Value.ref p := ry
  obtain ⟨as, r1⟩ := Dp.reads I _ x v ha rx
  obtain ⟨its, rv, hli, hz⟩ := I.list hl
  obtain ⟨bs, r2⟩ := Dp.readsAll I _ _ its hb rv
  exact PySem.W.in_list_datum (x := a) (xs := xs) hli.isList ⟨bs, by simpa using r2⟩ ⟨as, r1⟩ (by omega) ⟨.bl _, H, I, rfl, q⟩
theorem op_ninY (hu : X.A.units + 64 < cLine) : OpR X (compareOp .NotIn) (rNinY X.K) := by
  intro pins s σ H x y v u Q I rx ry h
  obtain ⟨α, i1, i2, a, xs, p, vs, rfl, hd, ha, hl, hb, q⟩ := h
  obtain rfl : u = Value.ref p := ry
  obtain ⟨as, r1⟩ := Dp.reads I _ x v ha rx
  obtain ⟨its, rv, hli, hz⟩ := I.list hl
  obtain ⟨bs, r2⟩ := Dp.readsAll I _ _ its hb rv
  refine PySem.W.notIn_list_datum (x := a) (xs := xs) hli.isList ⟨bs, by simpa using r2⟩ ⟨as, r1⟩ (by omega) ⟨.bl _, H, I, rfl, ?_⟩
  rw [decide_not]
  exact q
theorem e_inY {K : PySem.W.Frag} {H : Hp} {Q : VK} {x : V} {p : Addr} {vs : List V} {α : Type} [DecidableEq α] [Datum α] (a : α) (xs : List α) (hd : Datum.depth α ≤ 63) (ha : Dp K H x (Datum.toD a)) (hl : SqL K H p vs) (hb : DpAll K H vs (xs.map Datum.toD)) (q : Q (.bl (decide (a ∈ xs))) H) : rInY K x (.ref p) H Q :=
  ⟨α, _, _, a, xs, p, vs, rfl, hd, ha, hl, hb, q⟩
theorem e_ninY {K : PySem.W.Frag} {H : Hp} {Q : VK} {x : V} {p : Addr} {vs : List V} {α : Type} [DecidableEq α] [Datum α] (a : α) (xs : List α) (hd : Datum.depth α ≤ 63) (ha : Dp K H x (Datum.toD a)) (hl : SqL K H p vs) (hb : DpAll K H vs (xs.map Datum.toD)) (q : Q (.bl (!decide (a ∈ xs))) H) : rNinY K x (.ref p) H Q :=
  ⟨α, _, _, a, xs, p, vs, rfl, hd, ha, hl, hb, q⟩
/-- d != e, two dicts of like data -/
def rNeDL (K : PySem.W.Frag) : R2 := fun x y H Q => ∃ (α : Type) (i1 : DecidableEq α) (i2 : Datum α) (a b : Addr) (ks ls : List (Key × V)), x = .ref a ∧ y = .ref b ∧ H a = some (.dK ks) ∧ H b = some (.dK ls) ∧ Datum.depth α ≤ 60 ∧ ks.length = ls.length ∧
  (∀ p ∈ ks, ∃ (u : V) (d : α), valV ls p.1 = some u ∧ Dp K H p.2 (Datum.toD d) ∧ Dp K H u (Datum.toD d)) ∧ Q (.bl false) H
theorem hits_dat {pins : List (Addr × Obj)} {σ : St} {H : Hp} {s : Shared} (I : Inv X pins σ H s) {A : Around} {α : Type} [DecidableEq α] [Datum α] (hA : A.units + Datum.depth α < cLine) {ls : List (Key × V)} {vb : List (Key × Value)} (rb : KV ls vb) {ks : List (Key × V)} {va : List (Key × Value)} (ra : KV ks va) :
    (∀ p ∈ ks, ∃ (u : V) (d : α), valV ls p.1 = some u ∧ Dp X.K H p.2 (Datum.toD d) ∧ Dp X.K H u (Datum.toD d)) → PySem.W.KeqHits A s vb va true := by
  unfold KV at ra
  induction ra with
  | nil => intro _; exact .nil
  | @cons p q ps qs h t ih =>
    intro hp
    obtain ⟨h1, h2⟩ := h
    obtain ⟨u, d, e, f1, f2⟩ := hp p List.mem_cons_self
    have rr : RelO (some u) (valueAt vb p.1) := by rw [← e]; exact rb.val p.1
    obtain ⟨y, hy, ry⟩ := rr.some_of
    obtain ⟨key, v⟩ := q
    have h1' : p.1 = key := h1
    rw [h1'] at hy
    obtain ⟨as, r1⟩ := Dp.reads I _ _ _ f1 h2
    obtain ⟨bs, r2⟩ := Dp.reads I _ _ _ f2 ry
    have eq := PySem.W.eqAt_datum (A := A) (x := d) (y := d) ⟨as, r1⟩ ⟨bs, r2⟩ hA
    rw [decide_eq_true (rfl : d = d)] at eq
    show PySem.W.KeqHits A s vb ((key, v) :: qs) (true && true)
    exact .hit hy eq (ih fun p' hm => hp p' (List.mem_cons_of_mem _ hm))
theorem op_neDL (hu : X.A.units + 64 < cLine) : OpR X (compareOp .NotEq) (rNeDL X.K) := by
  intro pins s σ H x y v u Q I rx ry h
  obtain ⟨α, i1, i2, a, b, ks, ls, rfl, rfl, ea, eb, hd, hlen, hp, q⟩ := h
  obtain rfl : v = Value.ref a := rx
  obtain rfl : u = Value.ref b := ry
  obtain ⟨_, ya, va, ra, da⟩ := (show ObjOk X.prog X.w H s.heap a (.dK ks) from I.hok a _ ea)
  obtain ⟨_, yb, vb, rb, db⟩ := (show ObjOk X.prog X.w H s.heap b (.dK ls) from I.hok b _ eb)
  have hl : va.length = vb.length := by rw [← ra.length, ← rb.length]; exact hlen
  refine PySem.W.keq_ne (knd := mixKind X.prog X.w) (r := true) ya yb da db (by omega) (fun _ => hits_dat (α := α) I (by show X.A.units + 1 + _ < cLine; omega) rb ra hp) ⟨.bl false, H, I, ?_, q⟩
  show Value.bool _ = Value.bool _
  simp [hl]
/-- the items of xs[lo:hi:st] -/
def pick3 {β : Type} (xs : List β) (lo hi : Option Int) (st : Int) : List β := (sliceRange (sliceBounds lo hi (some st) xs.length).1 (sliceBounds lo hi (some st) xs.length).2.1 (sliceBounds lo hi (some st) xs.length).2.2).filterMap (xs[·]?)
theorem pick3_map {β γ : Type} (f : β → γ) (xs : List β) (lo hi : Option Int) (st : Int) : pick3 (xs.map f) lo hi st = (pick3 xs lo hi st).map f := by
  unfold pick3
  rw [List.length_map, List.map_filterMap]
  congr 1
  funext i
  rw [List.getElem?_map]
theorem pick3_len {β : Type} (xs : List β) (lo hi : Option Int) (st : Int) : (pick3 xs lo hi st).length ≤ (sliceRange (sliceBounds lo hi (some st) xs.length).1 (sliceBounds lo hi (some st) xs.length).2.1 (sliceBounds lo hi (some st) xs.length).2.2).length := List.length_filterMap_le _ _
theorem vals_pick {xs : List V} {us : List Value} (r : Vals xs us) : ∀ is : List Nat, Vals (is.filterMap (xs[·]?)) (is.filterMap (us[·]?)) := by
  intro is
  induction is with
  | nil => exact .nil
  | cons i is ih =>
    rw [List.filterMap_cons, List.filterMap_cons]
    rcases hx : xs[i]? with _ | x
    · have hl := r.length
      have hu : us[i]? = none := by
        rw [List.getElem?_eq_none_iff] at hx ⊢
        omega
      rw [hu]
      exact ih
    · obtain ⟨u, hu, ru⟩ := Vals.get r hx
      rw [hu]
      exact .cons ru ih
def rSlL3 (K : PySem.W.Frag) (x : V) (lo hi : Option Int) (st : Int) (H : Hp) (Q : VK) : Prop := ∃ a xs, x = .ref a ∧ SqL K H a xs ∧ st ≠ 0 ∧ (pick3 xs lo hi st).length ≤ sizeLine ∧ ∀ p, H p = none → Q (.ref p) (upd H p (.lst (pick3 xs lo hi st)))
def tSl3 (K : PySem.W.Frag) (te : TE) (tl th tst : TO) : TE := fun σ H Q => te σ H fun x H1 => tl σ H1 fun l H2 => th σ H2 fun u H3 => tst σ H3 fun st H4 => ∃ i, st = some i ∧ rSlL3 K x l u i H4 Q
theorem an_slice3 {e : Expr} {te : TE} {lo hi : Option Expr} {e3 : Expr} {tl th tst : TO} {pos p2 : Pos} (he : PE X e te) (hl : PO X lo tl) (hu : PO X hi th) (hst : PO X (some e3) tst) : PE X (.Subscript e (.Slice lo hi (some e3) p2) pos) (tSl3 X.K te tl th tst) := by
  refine ⟨fun pins s σ H Q I h => ?_⟩
  refine Subscript_ (thn (he.run pins s σ H _ I h) fun v s1 ⟨x, H1, I1, r1, q1⟩ => ?_)
  refine wpAny_Slice (thn (hl.run pins s1 σ H1 _ I1 q1) fun vl s2 ⟨l, H2, I2, pl, q2⟩ => thn (hu.run pins s2 σ H2 _ I2 q2) fun vu s3 ⟨u, H3, I3, pu, q3⟩ => thn (hst.run pins s3 σ H3 _ I3 q3) fun vs s4 ⟨st, H4, I4, ps, q4⟩ => ?_)
  obtain ⟨i, rfl, a, xs, rfl, hx, hi0, hlen, q⟩ := q4
  have I5 : Inv X pins σ H4 { s4 with heap := s4.heap.push { cls := .type "slice", data := .fields #[vl, vu, vs] } } := I4.kept (t' := s4.toks) fun b ob q => Heap.get?_push_of_some _ q
  obtain rfl : v = Value.ref a := r1
  obtain ⟨its, r, ht, hz⟩ := I5.list hx
  have hl2 := r.length
  have hs2 : (⟨s4.heap.push { cls := .type "slice", data := .fields #[vl, vu, vs] }, s4.gens, s4.drawn, s4.toks, s4.os⟩ : Shared).heap.IsSliceOf s4.heap.objs.size vl vu vs := Heap.IsSliceOf.new ..
  refine tail_any (ops := [.ref a, .ref s4.heap.objs.size]) ht.isList.typeIs slot_list_getitem.lookup ?_ (by with_unfolding_all rfl)
  refine wpAny_getItem_list_slice ht.isList hs2 pl pu ps (by simpa using hi0) ?_ (by rw [List.size_toArray] <;> omega)
  have ep : slicePick its.toArray l u (some i) = (pick3 its l u i).toArray := by
    unfold slicePick pick3
    simp
  rw [ep]
  have el : pick3 its l u i = (sliceRange (sliceBounds l u (some i) xs.length).1 (sliceBounds l u (some i) xs.length).2.1 (sliceBounds l u (some i) xs.length).2.2).filterMap (its[·]?) := by
    unfold pick3
    rw [hl2]
  have rv : Vals (pick3 xs l u i) (pick3 its l u i) := by
    rw [el]
    exact vals_pick r _
  refine ⟨.ref _, _, I5.laid (t' := s4.toks) (o := .lst (pick3 xs l u i)) (fun b ob q => Heap.get?_push_of_some _ q) (Nat.le_refl _) ?_, rfl, q _ (I5.hok.fresh (Nat.le_refl _))⟩
  exact ⟨hlen, _, 0, rv, Heap.get?_push_size _ rfl⟩
theorem e_sl3 {K : PySem.W.Frag} {σ : St} {H : Hp} {Q : VK} {te : TE} {tl th tst : TO} (h : te σ H fun x H1 => tl σ H1 fun l H2 => th σ H2 fun u H3 => tst σ H3 fun st H4 => ∃ i, st = some i ∧ rSlL3 K x l u i H4 Q) : tSl3 K te tl th tst σ H Q := h
theorem e_slL3 {K : PySem.W.Frag} {H : Hp} {Q : VK} {a : Addr} {β : Type} {f : β → V} {xs : List β} {lo hi : Option Int} {st : Int} (h : SqL K H a (xs.map f)) (h0 : st ≠ 0) (hlen : (sliceRange (sliceBounds lo hi (some st) xs.length).1 (sliceBounds lo hi (some st) xs.length).2.1 (sliceBounds lo hi (some st) xs.length).2.2).length ≤ sizeLine)
    (q : ∀ p, H p = none → Q (.ref p) (upd H p (.lst ((pick3 xs lo hi st).map f)))) : ∃ i, some st = some i ∧ rSlL3 K (.ref a) lo hi i H Q :=
  ⟨st, rfl, a, _, rfl, h, h0, by rw [pick3_map, List.length_map]; exact Nat.le_trans (pick3_len ..) hlen, by rw [pick3_map]; exact q⟩
end
/-! ### comprehensions that sift a list of texts; heaps alike but for some places -/
def SameB (ds : List Addr) (H H' : Hp) : Prop := ∀ b o, ¬ b ∈ ds → H b = some o → H' b = some o
theorem SameB.refl {ds : List Addr} {H : Hp} : SameB ds H H := fun _ _ _ h => h
theorem SameB.same {ds : List Addr} {H H' H2 : Hp} (s : SameB ds H H') (s2 : Same H' H2) : SameB ds H H2 := fun b o hb h => s2 b o (s b o hb h)
theorem SameB.put {ds : List Addr} {H H' : Hp} {d : Addr} {o : HO} (s : SameB ds H H') (hd : d ∈ ds) : SameB ds H (upd H' d o) := fun b u hb h => by
  rw [upd_ne (fun e : b = d => hb (by rw [e]; exact hd))]
  exact s b u hb h
theorem SameB.of_same {ds : List Addr} {H H' : Hp} (s : Same H H') : SameB ds H H' := fun b o _ h => s b o h
theorem SameB.from {ds : List Addr} {H0 H H' : Hp} (s : SameB ds H H') (s0 : Same H0 H) (hn : ∀ d ∈ ds, H0 d = none) : Same H0 H' := fun b o h => s b o (fun hb => by rw [hn b hb] at h; cases h) (s0 b o h)
theorem SameB.refL {ds : List Addr} {H H' : Hp} {ys : List Str} {v : V} (s : SameB ds H H') (h : RefL H ys v) (hn : ∀ d ∈ ds, ∀ xs, H d ≠ some (.lst xs)) : RefL H' ys v := by
  obtain ⟨b, e, hb⟩ := h
  exact ⟨b, e, s _ _ (fun hd => hn b hd _ hb) hb⟩
def kLc (J : It) (g : TG) (tt : TT) (te : TE) (vs : List Nat) (σ : St) (Q : VK) (H1 : Hp) : Prop := ∀ D, H1 D = none → ∃ W : Nat → Nat → Hp → Prop, (∃ m, W 0 m (upd H1 D (.lst []))) ∧ ∀ i m H, W i m H →
  (J.stop i H ∧ Q (.ref D) H) ∨ (J.go i H ∧ ∃ Nx : Hp → Prop, (∀ H', Nx H' → ∃ m', m' < m ∧ W (i + 1) m' H') ∧ ∀ x H', J.yld i H x H' → g x (wipe σ vs) H' fun σ2 H2 => wipe σ2 vs = wipe σ vs ∧ tt σ2 H2 fun b H3 =>
    if b = true then te σ2 H3 fun y H4 => ∃ acc, H4 D = some (.lst acc) ∧ acc.length < sizeLine ∧ Nx (upd H4 D (.lst (acc ++ [y]))) else Nx H3)
theorem e_lc {wi : TI} {g : TG} {tt : TT} {te : TE} {vs : List Nat} {σ : St} {H : Hp} {Q : VK} (h : wi σ H fun J H1 => kLc J g tt te vs σ Q H1) : tLc wi g tt te vs σ H Q := h
theorem k_lcS {K : PySem.W.Frag} {a : Addr} {xs : List Str} {tt : TT} {i : Nat} {σ : St} {H : Hp} {Q : VK} (p : Str → Bool) (h : SqL K H a (xs.map V.str)) (hn : xs.length ≤ 1000)
    (hw : ∀ v, wipe ((wipe σ [i]).set i (some v)) [i] = wipe σ [i]) (hv : ∀ v : V, ((wipe σ [i]).set i (some v))[i]? = some (some v))
    (ht : ∀ (z : Str) (H' : Hp) (R : Bool → Hp → Prop), z ∈ xs → Same H H' → R (p z) H' → tt ((wipe σ [i]).set i (some (.str z))) H' R)
    (q : ∀ D H', H D = none → Same H H' → H' D = some (.lst ((xs.filter p).map V.str)) → Q (.ref D) H') : kIL K (.ref a) H fun J H1 => kLc J (gName i) tt (tVar i) [i] σ Q H1 := by
  refine ⟨a, rfl, ⟨_, h⟩, fun D hD => lc_list (fun n H' => Same H H' ∧ H' D = some (.lst (((xs.take n).filter p).map V.str))) ⟨same1 hD, upd_same⟩ (fun n H' _ z => z.1.seq h) ?_ ?_⟩
  · rintro n x H' hx ⟨s, hd⟩
    have hx2 : ∃ z, x = .str z ∧ xs[n]? = some z := by
      rw [List.getElem?_map] at hx
      cases e : xs[n]? with
      | none => rw [e] at hx; cases hx
      | some z => rw [e] at hx; exact ⟨z, (Option.some.inj hx).symm, rfl⟩
    obtain ⟨z, rfl, hz⟩ := hx2
    have hil := List.getElem?_eq_some_iff.mp hz
    have et : xs.take (n + 1) = xs.take n ++ [z] := by rw [List.take_succ_eq_append_getElem hil.1, hil.2]
    refine ⟨hw _, ht z H' _ (List.mem_of_getElem? hz) s ?_⟩
    cases e : p z with
    | true =>
      rw [if_pos rfl]
      refine ⟨_, hv _, _, hd, ?_, same_mut s hD, ?_⟩
      · rw [List.length_map]
        have := List.length_filter_le p (xs.take n)
        rw [List.length_take] at this
        exact small1000 (by omega)
      · rw [upd_same, et, List.filter_append, List.map_append, List.filter_cons, if_pos e]
        rfl
    | false =>
      rw [if_neg (by decide)]
      refine ⟨s, ?_⟩
      rw [et, List.filter_append, List.filter_cons, if_neg (by rw [e]; decide), List.filter_nil, List.append_nil]
      exact hd
  · rintro H' ⟨s, hd⟩
    rw [List.length_map, List.take_of_length_le (Nat.le_refl _)] at hd
    exact q D H' hD s hd
/-! ### law k07: theory -/
theorem Leads.trans {m : List (Str × List Str)} {x y z : Str} (h : Leads m x y) (h2 : Leads m y z) : Leads m x z := by
  induction h2 with
  | one h2 => exact .more h h2
  | more _ h2 ih => exact .more ih h2
/-- the leans among ys -/
def inS (ys : List Str) : Str → Bool := fun z => decide (z ∈ ys)
def withinL (m : List (Str × List Str)) (ys : List Str) : List Str → List (Str × List Str)
  | [] => []
  | xs => xs.foldl (fun w x => putS w x ((getL m x).filter (inS ys))) []
theorem within_snoc (m : List (Str × List Str)) (ys xs : List Str) (x : Str) : withinL m ys (xs ++ [x]) = putS (withinL m ys xs) x ((getL m x).filter (inS ys)) := by
  have e : ∀ xs, withinL m ys xs = xs.foldl (fun w x => putS w x ((getL m x).filter (inS ys))) [] := fun xs => by cases xs <;> rfl
  rw [e, e, List.foldl_append]
  rfl
theorem within_get (m : List (Str × List Str)) (ys : List Str) (x : Str) : ∀ (n : Nat) (xs : List Str), xs.length = n → getL (withinL m ys xs) x = if x ∈ xs then (getL m x).filter (inS ys) else [] := by
  intro n
  induction n with
  | zero =>
    intro xs h
    rw [List.length_eq_zero_iff.mp h]
    simp [withinL, getL, getS]
  | succ n ih =>
    intro xs h
    obtain ⟨l, c, rfl⟩ : ∃ l c, xs = l ++ [c] := ⟨xs.dropLast, xs.getLast (by intro z; rw [z] at h; simp at h), (List.dropLast_concat_getLast _).symm⟩
    have ih := ih l (by simpa using h)
    rw [within_snoc]
    unfold getL at ih ⊢
    rw [getS_put]
    by_cases e : c = x
    · rw [if_pos e, e, if_pos (by simp)]
      rfl
    · rw [if_neg e, ih]
      have : x ∈ l ++ [c] ↔ x ∈ l := by simp [Ne.symm e]
      by_cases hx : x ∈ l
      · rw [if_pos hx, if_pos (this.mpr hx)]
      · rw [if_neg hx, if_neg (fun h => hx (this.mp h))]
theorem within_len (m : List (Str × List Str)) (ys : List Str) : ∀ (n : Nat) (xs : List Str), xs.length = n → (withinL m ys xs).length ≤ n := by
  intro n
  induction n with
  | zero => intro xs h; rw [List.length_eq_zero_iff.mp h]; simp [withinL]
  | succ n ih =>
    intro xs h
    obtain ⟨l, c, rfl⟩ : ∃ l c, xs = l ++ [c] := ⟨xs.dropLast, xs.getLast (by intro z; rw [z] at h; simp at h), (List.dropLast_concat_getLast _).symm⟩
    have ih := ih l (by simpa using h)
    rw [within_snoc]
    have := putS_len (withinL m ys l) c ((getL m c).filter (inS ys))
    omega
open Classical in
noncomputable def knotL (w : List (Str × List Str)) (ys : List Str) (x : Str) : List Str := ys.filter fun o => decide (o = x ∨ (Leads w x o ∧ Leads w o x))
theorem knot_eq {w : List (Str × List Str)} {ys : List Str} {x y : Str} (h : y ∈ knotL w ys x) : knotL w ys y = knotL w ys x := by
  classical
  unfold knotL at h ⊢
  rw [List.mem_filter] at h
  have h2 := of_decide_eq_true h.2
  apply List.filter_congr
  intro o _
  apply decide_eq_decide.mpr
  rcases h2 with rfl | ⟨h1, h2⟩
  · exact Iff.rfl
  · constructor
    · rintro (rfl | ⟨a, b⟩)
      · exact .inr ⟨h1, h2⟩
      · exact .inr ⟨h1.trans a, b.trans h2⟩
    · rintro (rfl | ⟨a, b⟩)
      · exact .inr ⟨h2, h1⟩
      · exact .inr ⟨h2.trans a, b.trans h1⟩
theorem knot_self {w : List (Str × List Str)} {ys : List Str} {x : Str} (h : x ∈ ys) : x ∈ knotL w ys x := by
  classical
  unfold knotL
  rw [List.mem_filter]
  exact ⟨h, decide_eq_true (.inl rfl)⟩
/-- the knots, each once -/
def oneMore (acc : List (List Str)) (k : List Str) : List (List Str) := if k ∈ acc then acc else acc ++ [k]
theorem one_pos {acc : List (List Str)} {k : List Str} (h : k ∈ acc) : oneMore acc k = acc := by unfold oneMore; exact if_pos h
theorem one_neg {acc : List (List Str)} {k : List Str} (h : ¬ k ∈ acc) : oneMore acc k = acc ++ [k] := by unfold oneMore; exact if_neg h
noncomputable def knotsL (w : List (Str × List Str)) (ys xs : List Str) : List (List Str) := xs.foldl (fun acc x => oneMore acc (knotL w ys x)) []
theorem knots_snoc (w : List (Str × List Str)) (ys xs : List Str) (x : Str) : knotsL w ys (xs ++ [x]) = oneMore (knotsL w ys xs) (knotL w ys x) := by
  unfold knotsL
  rw [List.foldl_append]
  rfl
theorem knots_mem (w : List (Str × List Str)) (ys : List Str) (k : List Str) : ∀ (n : Nat) (xs : List Str), xs.length = n → (k ∈ knotsL w ys xs ↔ ∃ x ∈ xs, k = knotL w ys x) := by
  intro n
  induction n with
  | zero => intro xs h; rw [List.length_eq_zero_iff.mp h]; simp [knotsL]
  | succ n ih =>
    intro xs h
    obtain ⟨l, c, rfl⟩ : ∃ l c, xs = l ++ [c] := ⟨xs.dropLast, xs.getLast (by intro z; rw [z] at h; simp at h), (List.dropLast_concat_getLast _).symm⟩
    have ih := ih l (by simpa using h)
    rw [knots_snoc]
    unfold oneMore
    by_cases hk : knotL w ys c ∈ knotsL w ys l
    · rw [if_pos hk, ih]
      constructor
      · rintro ⟨x, hx, e⟩
        exact ⟨x, List.mem_append_left _ hx, e⟩
      · rintro ⟨x, hx, e⟩
        rcases List.mem_append.mp hx with q | q
        · exact ⟨x, q, e⟩
        · rw [List.mem_singleton.mp q] at e
          exact ih.mp (e ▸ hk)
    · rw [if_neg hk, List.mem_append, ih]
      constructor
      · rintro (⟨x, hx, e⟩ | q)
        · exact ⟨x, List.mem_append_left _ hx, e⟩
        · exact ⟨c, by simp, List.mem_singleton.mp q⟩
      · rintro ⟨x, hx, e⟩
        rcases List.mem_append.mp hx with q | q
        · exact .inl ⟨x, q, e⟩
        · rw [List.mem_singleton.mp q] at e
          exact .inr (List.mem_singleton.mpr e)
theorem knots_len (w : List (Str × List Str)) (ys : List Str) : ∀ (n : Nat) (xs : List Str), xs.length = n → (knotsL w ys xs).length ≤ n := by
  intro n
  induction n with
  | zero => intro xs h; rw [List.length_eq_zero_iff.mp h]; simp [knotsL]
  | succ n ih =>
    intro xs h
    obtain ⟨l, c, rfl⟩ : ∃ l c, xs = l ++ [c] := ⟨xs.dropLast, xs.getLast (by intro z; rw [z] at h; simp at h), (List.dropLast_concat_getLast _).symm⟩
    have ih := ih l (by simpa using h)
    rw [knots_snoc]
    unfold oneMore
    split
    · omega
    · rw [List.length_append, List.length_singleton]
      omega
/-- the ways of the names -/
def WaysR (H : Hp) (R : Str → Str → Prop) (xs : List Str) (lw : List (Str × V)) : Prop := ∀ x ∈ xs, ∃ (r : Addr) (zs : List Str), getS lw x = some (.ref r) ∧ H r = some (.lst (zs.map V.str)) ∧ ∀ z, z ∈ zs ↔ R x z
theorem WaysR.put {H : Hp} {R : Str → Str → Prop} {xs : List Str} {lw : List (Str × V)} {x : Str} {r : Addr} {zs : List Str} (h : WaysR H R xs lw) (hr : H r = some (.lst (zs.map V.str))) (hz : ∀ z, z ∈ zs ↔ R x z) : WaysR H R (xs ++ [x]) (putS lw x (.ref r)) := by
  intro y hy
  rw [getS_put]
  by_cases e : x = y
  · exact ⟨r, zs, if_pos e, hr, fun z => e ▸ hz z⟩
  · rw [if_neg e]
    rcases List.mem_append.mp hy with q | q
    · exact h y q
    · exact absurd (List.mem_singleton.mp q).symm e
local macro_rules | `(tactic| walk_at "g1") => `(tactic| first | (with_reducible apply e_lc) | (with_reducible apply e_sl3))
/-! ### law k07: knots_of -/
def sp_knots (K : PySem.W.Frag) : Sp := fun vs H Q _ => ∃ (a d : Addr) (ys : List Str) (m : List (Str × List Str)) (l : List (Str × V)), vs = [.ref a, .ref d] ∧ H a = some (.lst (ys.map V.str)) ∧ H d = some (dS l) ∧ LnRel H m l ∧ ys.length ≤ 60 ∧ (∀ x, (getL m x).length ≤ 1000) ∧
  ∀ (r : Addr) (rs : List V) (H' : Hp), Same H H' → H r = none → H' r = some (.lst rs) → Paired (RefL H') (knotsL (withinL m ys ys) ys ys) rs → Q (.ref r) H'
theorem ln_knots_of {K : PySem.W.Frag} {vs : List V} {H : Hp} {Q : VK} {E : XK} (h : sp_knots K vs H Q E) : vs.length = 2 := by
  obtain ⟨a, d, ys, m, l, rfl, _⟩ := h
  rfl
abbrev n_knots_of : List Str := ["names", "leans", "within", "name", "ways", "out", "placed", "knot", "other"]
def t_knots_of (K : PySem.W.Frag) (W : WX) : TS :=
  tSeq (tAsg tDNewK (gName 2))
  (tSeq (tFor (iList K (tVar 0)) (gName 3) (sDp (tVar 2) (tVar 3) (tLc (iList K (tDg2 (tVar 1) (tVar 3) (tLst tNil))) (gName 8) (tTest (tOp (rIn K false) (tVar 8) (tVar 0))) (tVar 8) [8])))
  (tSeq (tAsg tDNewK (gName 4))
  (tSeq (tFor (iList K (tVar 0)) (gName 3) (sDp (tVar 4) (tVar 3) (tCW (sp_led_to K) W (tCons (tVar 3) (tCons (tVar 2) tNil)))))
  (tSeq (tAsg (tLst tNil) (gName 5))
  (tSeq (tAsg tDNewK (gName 6))
  (tSeq (tFor (iList K (tVar 0)) (gName 3) (tSeq (tIfS (tB (tDi (tVar 3) (tVar 6))) tCont tNext)
  (tSeq (tAsg (tLc (iList K (tVar 0)) (gName 8) (tOr (tTest (tOp rEq (tVar 8) (tVar 3))) (tAnd (tTest (tOp (rIn K false) (tVar 8) (tDg (tVar 4) (tVar 3)))) (tTest (tOp (rIn K false) (tVar 3) (tDg (tVar 4) (tVar 8)))))) (tVar 8) [8]) (gName 7))
  (tSeq (tFor (iList K (tVar 7)) (gName 8) (sDp (tVar 6) (tVar 8) (tC (.bl true))))
  (tDrop (tBM K "list" rAppend (tVar 5) (tCons (tVar 7) tNil)))))))
  (tRet (tVar 5))))))))
theorem str_at {xs : List Str} {i : Nat} {x : V} (h : (xs.map V.str)[i]? = some x) : ∃ z, x = .str z ∧ xs[i]? = some z ∧ xs.take (i + 1) = xs.take i ++ [z] ∧ z ∈ xs := by
  rw [List.getElem?_map] at h
  cases e : xs[i]? with
  | none => rw [e] at h; cases h
  | some z =>
    rw [e] at h
    have hil := List.getElem?_eq_some_iff.mp e
    exact ⟨z, (Option.some.inj h).symm, rfl, by rw [List.take_succ_eq_append_getElem hil.1, hil.2], List.mem_of_getElem? e⟩
/-- a list of texts, not at o -/
def RefLx (o : Addr) (H : Hp) (ys : List Str) (v : V) : Prop := ∃ b, v = .ref b ∧ b ≠ o ∧ H b = some (.lst (ys.map V.str))
theorem paired_snoc {R : α → β → Prop} {x : α} {y : β} : ∀ {xs : List α} {ys : List β}, Paired R xs ys → R x y → Paired R (xs ++ [x]) (ys ++ [y])
  | _, _, .nil, h => .cons h .nil
  | _, _, .cons a r, h => .cons a (paired_snoc r h)
theorem pure_knots_of {K : PySem.W.Frag} {vs : List V} {H : Hp} {Q : VK} {E : XK} {W : WX} (h : sp_knots K vs H Q E) : t_knots_of K W { nx := fun _ H' => Q .non H', rt := Q } (start n_knots_of vs) H := by
  classical
  obtain ⟨a, d, ys, m, l, rfl, ha, hd, hm, hn, hb, k⟩ := h
  show t_knots_of K W _ [some (.ref a), some (.ref d), none, none, none, none, none, none, none] H
  unfold t_knots_of
  have ly : (ys.map V.str).length = ys.length := List.length_map _
  have full : ys.take ys.length = ys := List.take_of_length_le (Nat.le_refl _)
  walk_at "go"
  intro w hw
  walk_at "go"
  have s0 : Same H (upd H w (.dK [])) := same1 hw
  refine k_forL (fun i σ H' => ∃ (v3 : Option V) (lw : List (Str × V)), σ = [some (.ref a), some (.ref d), some (.ref w), v3, none, none, none, none, none] ∧ Same H H' ∧ H' w = some (dS lw) ∧ LnRel H' (withinL m ys (ys.take i)) lw) (SqL.of (s0 _ _ ha))
    ⟨none, [], rfl, s0, upd_same, .nil⟩ (fun i σ H' _ ⟨_, _, _, s, _⟩ => SqL.of (s _ _ ha)) ?_ ?_
  · rintro i x σ H1 hi ⟨v3, lw, rfl, s1, hl, R⟩
    obtain ⟨z, rfl, hz, et, hzy⟩ := str_at hi
    walk_at "go"
    refine k_isD (.of (s1 _ _ hd)) ?_
    walk_at "go"
    intro p hp
    have s2 : Same H1 (upd H1 p (.lst [])) := same1 hp
    obtain ⟨q, eq, hq⟩ := dq_get (hm.mono fun _ _ => RefL.same (s1.trans s2)) z (p := p) upd_same
    refine k_dg2 (.of (s2 _ _ (s1 _ _ hd))) ?_
    rw [eq]
    refine k_lcS (inS ys) (SqL.of hq) (hb z) (fun _ => rfl) (fun _ => rfl) (fun y H' R hy sH hR => ?_) fun D H' hD sH hDv => ?_
    · show tTest _ [some (.ref a), some (.ref d), some (.ref w), some (.str z), none, none, none, none, some (.str y)] H' R
      walk_at "go"
      refine e_inS (SqL.of (sH _ _ (s2 _ _ (s1 _ _ ha)))) ?_
      walk_at "go"
      exact hR
    · walk_at "go"
      have s3 : Same H1 H' := s2.trans sH
      have lw0 := within_len m ys _ (ys.take i) rfl
      rw [List.length_take, R.length] at lw0
      refine k_dp (s3 _ _ hl) (small1000 (by omega)) ?_
      walk_at "go"
      refine ⟨_, _, rfl, same_mut (s1.trans s3) hw, upd_same, ?_⟩
      rw [et, within_snoc]
      exact RelD.put (R.mono fun _ _ z => RefL.updD (s3 _ _ hl) (RefL.same s3 z)) (RefL.updD (s3 _ _ hl) ⟨D, rfl, hDv⟩)
  · rintro σ H1 ⟨v3, lw, rfl, s1, hwv, Rw⟩
    rw [ly, full] at Rw
    have gw : ∀ x, getL (withinL m ys ys) x = if x ∈ ys then (getL m x).filter (inS ys) else [] := fun x => within_get m ys x _ ys rfl
    generalize withinL m ys ys = wm at Rw gw k
    have gIn : ∀ x, (getL wm x).length ≤ 1000 ∧ ∀ z ∈ getL wm x, z ∈ ys := fun x => by
      rw [gw]
      split
      · exact ⟨Nat.le_trans (List.length_filter_le _ _) (hb x), fun z hz => of_decide_eq_true (List.mem_filter.mp hz).2⟩
      · exact ⟨Nat.zero_le _, fun z hz => absurd hz (by simp)⟩
    have lead_in : ∀ x z, Leads wm x z → z ∈ ys := fun x z h => by
      cases h with
      | one h => exact (gIn _).2 _ h
      | more _ h => exact (gIn _).2 _ h
    walk_at "go"
    intro e he
    walk_at "go"
    have heH : H e = none := by
      cases q : H e with
      | none => rfl
      | some o => rw [s1 _ _ q] at he; cases he
    have s0 : Same H1 (upd H1 e (.dK [])) := same1 he
    have base : ∀ H', Same H1 H' → SqL K H' a (ys.map V.str) := fun H' s => SqL.of (s _ _ (s1 _ _ ha))
    refine k_forL (fun i σ H' => ∃ (v3 : Option V) (le : List (Str × V)), σ = [some (.ref a), some (.ref d), some (.ref w), v3, some (.ref e), none, none, none, none] ∧ Same H1 H' ∧ H' e = some (dS le) ∧ le.length ≤ i ∧ WaysR H' (Leads wm) (ys.take i) le) (base _ s0)
      ⟨v3, [], rfl, s0, upd_same, Nat.le_refl _, fun x hx => absurd hx (by simp)⟩ (fun i σ H' _ ⟨_, _, _, s, _⟩ => base _ s) ?_ ?_
    · rintro i x σ H2 hi ⟨v3, le, rfl, s2, hle, lle, R⟩
      obtain ⟨z, rfl, hz, et, hzy⟩ := str_at hi
      have hil := (List.getElem?_eq_some_iff.mp hz).1
      walk_at "go"
      refine ⟨z, w, wm, lw, ys, rfl, s2 _ _ hwv, Rw.mono fun _ _ => RefL.same s2, by omega, gIn, fun r zs H3 s3 r0 hr pz mz => ?_⟩
      walk_at "go"
      refine k_dp (s3 _ _ hle) (small1000 (by omega)) ?_
      walk_at "go"
      have hre : ∀ (r : Addr) (zs : List Str), H3 r = some (.lst (zs.map V.str)) → upd H3 e (dS (putS le z (.ref r))) r = some (.lst (zs.map V.str)) := fun r zs h => by
        rw [upd_ne (ne_of h (s3 _ _ hle) (by intro z; cases z))]
        exact h
      refine ⟨_, _, rfl, same_mut (s2.trans s3) he, upd_same, by have := putS_len le z (.ref r); omega, ?_⟩
      rw [et]
      refine WaysR.put (fun x hx => ?_) (hre r zs hr) mz
      obtain ⟨r', zs', g1, g2, g3⟩ := R x hx
      exact ⟨r', zs', g1, by
        rw [upd_ne (ne_of (s3 _ _ g2) (s3 _ _ hle) (by intro z; cases z))]
        exact s3 _ _ g2, g3⟩
    · rintro σ H2 ⟨v3', le, rfl, s2, hle, lle, Re⟩
      rw [ly, full] at Re
      walk_at "go"
      intro o ho
      walk_at "go"
      intro c hc
      walk_at "go"
      have ho2 := none_up hc
      have hH2 : ∀ x, H2 x = none → H x = none := fun x hx => by
        cases q : H x with
        | none => rfl
        | some u => rw [s2 _ _ (s1 _ _ q)] at hx; cases hx
      have base2 : ∀ H', Same H2 H' → SqL K H' a (ys.map V.str) := fun H' s => base _ (s2.trans s)
      have s3 : Same H2 (upd (upd H2 o (.lst [])) c (.dK [])) := same_up (same1 ho) hc
      refine k_forL (fun i σ H' => ∃ (v3 v7 v8 : Option V) (ro : List V) (lc : List (Str × V)), σ = [some (.ref a), some (.ref d), some (.ref w), v3, some (.ref e), some (.ref o), some (.ref c), v7, v8] ∧ Same H2 H' ∧ H' o = some (.lst ro) ∧ H' c = some (dS lc) ∧
        Paired (RefLx o H') (knotsL wm ys (ys.take i)) ro ∧ (∀ z, (getS lc z).isSome = true ↔ ∃ x ∈ ys.take i, z ∈ knotL wm ys x) ∧ lc.length ≤ i * 60) (base2 _ s3)
        ⟨v3', none, none, [], [], rfl, s3, by rw [upd_ne ho2.2.symm, upd_same], upd_same, by rw [List.take_zero]; exact .nil, fun z => by simp [getS], by simp⟩ (fun i σ H' _ ⟨_, _, _, _, _, _, s, _⟩ => base2 _ s) ?_ ?_
      · rintro i x σ H3 hi ⟨v3, v7, v8, ro, lc, rfl, s3, hro, hlc, Pk, plc, llc⟩
        obtain ⟨z, rfl, hz, et, hzy⟩ := str_at hi
        have hil := (List.getElem?_eq_some_iff.mp hz).1
        walk_at "go"
        refine k_di (.of hlc) ?_
        walk_at "go"
        refine ifb (fun hin => ?_) (fun hin => ?_)
        · walk_at "go"
          refine ⟨_, _, _, ro, lc, rfl, s3, hro, hlc, ?_, fun y => ?_, by omega⟩
          · rw [et, knots_snoc]
            unfold oneMore
            obtain ⟨x, hx, hzx⟩ := (plc z).mp hin
            rw [if_pos ((knots_mem wm ys _ _ (ys.take i) rfl).mpr ⟨x, hx, knot_eq hzx⟩)]
            exact Pk
          · rw [plc, et]
            constructor
            · rintro ⟨x, hx, hy⟩
              exact ⟨x, List.mem_append_left _ hx, hy⟩
            · rintro ⟨x, hx, hy⟩
              rcases List.mem_append.mp hx with q | q
              · exact ⟨x, q, hy⟩
              · rw [List.mem_singleton.mp q] at hy
                obtain ⟨x', hx', hzx⟩ := (plc z).mp hin
                exact ⟨x', hx', (knot_eq hzx) ▸ hy⟩
        · walk_at "go"
          refine k_lcS (fun y => decide (y = z ∨ (Leads wm z y ∧ Leads wm y z))) (base2 _ s3) (by omega) (fun _ => rfl) (fun _ => rfl) (fun y H' R hy sH hR => ?_) fun D H4 hD s4 hDv => ?_
          · show tOr _ _ [some (.ref a), some (.ref d), some (.ref w), some (.str z), some (.ref e), some (.ref o), some (.ref c), v7, some (.str y)] H' R
            obtain ⟨r1, z1, g1, h1, m1⟩ := Re z hzy
            obtain ⟨r2, z2, g2, h2, m2⟩ := Re y hy
            have hle' := (s3.trans sH) _ _ hle
            walk_at "go"
            refine ifd (fun e1 => ?_) (fun e1 => ?_)
            · rw [decide_eq_true (p := y = z ∨ _) (.inl e1)] at hR
              exact hR
            · walk_at "go"
              refine k_dg (.of hle') g1 ?_
              refine e_inS (SqL.of ((s3.trans sH) _ _ h1)) ?_
              walk_at "go"
              refine ifd (fun e2 => ?_) (fun e2 => ?_)
              · walk_at "go"
                refine k_dg (.of hle') g2 ?_
                refine e_inS (SqL.of ((s3.trans sH) _ _ h2)) ?_
                walk_at "go"
                have e3 : decide (z ∈ z2) = decide (y = z ∨ (Leads wm z y ∧ Leads wm y z)) := decide_eq_decide.mpr ⟨fun h => .inr ⟨(m1 y).mp e2, (m2 z).mp h⟩, fun h => h.elim (fun h => absurd h e1) fun h => (m2 z).mpr h.2⟩
                rw [e3]
                exact hR
              · rw [decide_eq_false (p := y = z ∨ _) (fun h => h.elim e1 fun h => e2 ((m1 y).mpr h.1))] at hR
                exact hR
          · have hDv : H4 D = some (.lst ((knotL wm ys z).map V.str)) := hDv
            have kl : (knotL wm ys z).length ≤ 60 := Nat.le_trans (List.length_filter_le _ _) hn
            have nD3 : H3 D = none := hD
            have Do : D ≠ o := fun q => by rw [q, hro] at nD3; cases nD3
            have Dc : D ≠ c := fun q => by rw [q, hlc] at nD3; cases nD3
            walk_at "go"
            have co : c ≠ o := fun q => by rw [q, hro] at hlc; cases hlc
            refine k_forL (fun j σ H' => ∃ (v8 : Option V) (lc' : List (Str × V)), σ = [some (.ref a), some (.ref d), some (.ref w), some (.str z), some (.ref e), some (.ref o), some (.ref c), some (.ref D), v8] ∧ SameB [c] H4 H' ∧ H' c = some (dS lc') ∧
              (∀ y, (getS lc' y).isSome = true ↔ (getS lc y).isSome = true ∨ y ∈ (knotL wm ys z).take j) ∧ lc'.length ≤ lc.length + j) (SqL.of hDv) ⟨_, lc, rfl, SameB.refl, s4 _ _ hlc, fun y => by simp, by omega⟩
              (fun j σ H' _ ⟨_, _, _, s, _⟩ => SqL.of (s _ _ (by simpa using Dc) hDv)) ?_ ?_
            · rintro j x σ H5 hj ⟨v8, lc', rfl, s5, hlc', plc', llc'⟩
              obtain ⟨y, rfl, hy, et', hyk⟩ := str_at hj
              have hjl := (List.getElem?_eq_some_iff.mp hy).1
              walk_at "go"
              refine k_dp hlc' (by
                have : i * 60 ≤ 60 * 60 := Nat.mul_le_mul_right _ (by omega)
                rw [sizeLine_eq]
                omega) ?_
              walk_at "go"
              refine ⟨_, _, rfl, s5.put (by simp), upd_same, fun u => ?_, by have := putS_len lc' y (.bl true); omega⟩
              rw [getS_put, et', List.mem_append]
              by_cases q : y = u
              · simp [q]
              · rw [if_neg q, plc']
                have : u ∉ [y] := by simpa using Ne.symm q
                simp [this]
            · rintro σ H5 ⟨v8, lc', rfl, s5, hlc', plc', llc'⟩
              rw [List.length_map] at plc' llc'
              rw [List.take_of_length_le (Nat.le_refl _)] at plc'
              walk_at "go"
              have ho5 : H5 o = some (.lst ro) := s5 _ _ (by simpa using co.symm) (s4 _ _ hro)
              refine e_tyl ho5 ?_
              walk_at "go"
              have lro : ro.length ≤ i := by
                rw [← Paired.length Pk]
                exact Nat.le_trans (knots_len wm ys _ (ys.take i) rfl) (by rw [List.length_take]; omega)
              refine e_app ho5 (small1000 (by omega)) ?_
              walk_at "go"
              have s25 : Same H2 H5 := SameB.from s5 (s3.trans s4) (by simpa using ho2.1)
              have nacc : ¬ knotL wm ys z ∈ knotsL wm ys (ys.take i) := fun h => by
                obtain ⟨x, hx, e⟩ := (knots_mem wm ys _ _ (ys.take i) rfl).mp h
                have := (plc z).mpr ⟨x, hx, e ▸ knot_self hzy⟩
                rw [hin] at this
                cases this
              refine ⟨_, _, _, _, lc', rfl, same_mut s25 ho, upd_same, by rw [upd_ne co]; exact hlc', ?_, fun y => ?_, by rw [Nat.succ_mul]; omega⟩
              · rw [et, knots_snoc]
                unfold oneMore
                rw [if_neg nacc]
                refine paired_snoc (Paired.mapP Pk fun _ _ ⟨b, e1, e2, e3⟩ => ⟨b, e1, e2, ?_⟩) ⟨D, rfl, Do, ?_⟩
                · rw [upd_ne e2]
                  exact s5 _ _ (by
                    have : b ≠ c := fun q => by rw [q, hlc] at e3; cases e3
                    simpa using this) (s4 _ _ e3)
                · rw [upd_ne Do]
                  exact s5 _ _ (by simpa using Dc) hDv
              · rw [plc', plc, et]
                constructor
                · rintro (⟨x, hx, hy⟩ | h)
                  · exact ⟨x, List.mem_append_left _ hx, hy⟩
                  · exact ⟨z, by simp, h⟩
                · rintro ⟨x, hx, hy⟩
                  rcases List.mem_append.mp hx with q | q
                  · exact .inl ⟨x, q, hy⟩
                  · rw [List.mem_singleton.mp q] at hy
                    exact .inr hy
      · rintro σ H3 ⟨v3, v7, v8, ro, lc, rfl, s3, hro, hlc, Pk, _⟩
        rw [ly, full] at Pk
        walk_at "go"
        exact k o ro H3 (s1.trans (s2.trans s3)) (hH2 _ ho) hro (Paired.mapP Pk fun _ _ ⟨b, e1, _, e3⟩ => ⟨b, e1, e3⟩)
/-! ### law k07: the law's ways -/
def WayR (w : List (Str × List Str)) (x z : Str) : Prop := z = x ∨ Leads w x z
def sp_ways (K : PySem.W.Frag) : Sp := fun vs H Q _ => ∃ (a d : Addr) (ys : List Str) (m : List (Str × List Str)) (l : List (Str × V)), vs = [.ref a, .ref d] ∧ H a = some (.lst (ys.map V.str)) ∧ H d = some (dS l) ∧ LnRel H m l ∧ ys.length ≤ 60 ∧ (∀ x, (getL m x).length ≤ 1000) ∧
  ∀ (r : Addr) (lw : List (Str × V)) (H' : Hp), Same H H' → H r = none → H' r = some (dS lw) → WaysR H' (WayR (withinL m ys ys)) ys lw → Q (.ref r) H'
theorem ln__law_ways {K : PySem.W.Frag} {vs : List V} {H : Hp} {Q : VK} {E : XK} (h : sp_ways K vs H Q E) : vs.length = 2 := by
  obtain ⟨a, d, ys, m, l, rfl, _⟩ := h
  rfl
abbrev n__law_ways : List Str := ["_law_names_here", "_law_leans_here", "_law_ways_here", "_law_name", "_law_row", "_law_k", "_law_other"]
def t__law_ways (K : PySem.W.Frag) (W : WX) : TS :=
  tSeq (tAsg tDNewK (gName 2))
  (tSeq (tFor (iList K (tVar 0)) (gName 3) (tSeq (tAsg (tLst (tCons (tVar 3) tNil)) (gName 4))
  (tSeq (tAsg (tC (.int 0)) (gName 5))
  (tSeq (tWhile (tTest (tOp rLtI (tVar 5) (tCB (rLenL K) (tCons (tVar 4) tNil)))) (tSeq (tFor (iList K (tDg2 (tVar 1) (tOp (rIxL K) (tVar 4) (tVar 5)) (tLst tNil))) (gName 6) (tIfS (tAnd (tTest (tOp (rIn K false) (tVar 6) (tVar 0))) (tTest (tOp (rIn K true) (tVar 6) (tVar 4)))) (tDrop (tBM K "list" rAppend (tVar 4) (tCons (tVar 6) tNil))) tNext))
  (tAsg (tOp rAddI (tVar 5) (tC (.int 1))) (gName 5))))
  (sDp (tVar 2) (tVar 3) (tVar 4))))))
  (tRet (tVar 2)))
theorem pure__law_ways {K : PySem.W.Frag} {vs : List V} {H : Hp} {Q : VK} {E : XK} {W : WX} (h : sp_ways K vs H Q E) : t__law_ways K W { nx := fun _ H' => Q .non H', rt := Q } (start n__law_ways vs) H := by
  obtain ⟨a, d, ys, m, l, rfl, ha, hd, hm, hn, hb, k⟩ := h
  show t__law_ways K W _ [some (.ref a), some (.ref d), none, none, none, none, none] H
  unfold t__law_ways
  have ly : (ys.map V.str).length = ys.length := List.length_map _
  have full : ys.take ys.length = ys := List.take_of_length_le (Nat.le_refl _)
  have gw : ∀ x, getL (withinL m ys ys) x = if x ∈ ys then (getL m x).filter (inS ys) else [] := fun x => within_get m ys x _ ys rfl
  generalize withinL m ys ys = wm at gw k
  walk_at "go"
  intro w hw
  walk_at "go"
  have base : ∀ H', Same H H' → SqL K H' a (ys.map V.str) := fun H' s => SqL.of (s _ _ ha)
  refine k_forL (fun i σ H' => ∃ (v3 v4 v5 v6 : Option V) (lw : List (Str × V)), σ = [some (.ref a), some (.ref d), some (.ref w), v3, v4, v5, v6] ∧ Same H H' ∧ H' w = some (dS lw) ∧ lw.length ≤ i ∧ WaysR H' (WayR wm) (ys.take i) lw) (base _ (same1 hw))
    ⟨none, none, none, none, [], rfl, same1 hw, upd_same, Nat.le_refl _, fun x hx => absurd hx (by simp)⟩ (fun i σ H' _ ⟨_, _, _, _, _, _, s, _⟩ => base _ s) ?_ ?_
  · rintro i x σ H1 hi ⟨v3, v4, v5, v6, lw, rfl, s1, hlw, llw, R⟩
    obtain ⟨z, rfl, hz, et, hzy⟩ := str_at hi
    have hil := (List.getElem?_eq_some_iff.mp hz).1
    walk_at "go"
    intro r hr
    walk_at "go"
    have s2 : Same H1 (upd H1 r (.lst [.str z])) := same1 hr
    have hrH : H r = none := by
      cases q : H r with
      | none => rfl
      | some o => rw [s1 _ _ q] at hr; cases hr
    have rows : ∀ A : List Str, A.Nodup → (∀ z ∈ A, z ∈ ys) → A.length ≤ 60 := fun A nA hA => Nat.le_trans (List.Nodup.length_le_of_subset nA (fun z h => hA z h)) hn
    refine st_while (fun n σ H' => ∃ (kk : Nat) (A : List Str) (v6 : Option V), σ = [some (.ref a), some (.ref d), some (.ref w), some (.str z), some (.ref r), some (.int kk), v6] ∧ Same H1 H' ∧ H' r = some (.lst (A.map V.str)) ∧
      A.Nodup ∧ (∀ y ∈ A, y ∈ ys) ∧ (∀ y ∈ A, WayR wm z y) ∧ z ∈ A ∧ (∀ i y, i < kk → A[i]? = some y → ∀ u ∈ getL wm y, u ∈ A) ∧ kk ≤ A.length ∧ n = 64 - kk) 64
      ⟨0, [z], v6, rfl, s2, upd_same, by simp, by simpa using hzy, fun y hy => .inl (List.mem_singleton.mp hy), by simp, by simp, by simp, rfl⟩ ?_
    rintro n σ H2 ⟨kk, A, v6', rfl, s3, hA, nA, inA, lA, zA, cl, hk, rfl⟩
    have hl60 := rows A nA inA
    walk_at "go"
    refine e_lenL (SqL.of hA) ?_
    rw [List.length_map]
    walk_at "go"
    refine ifd (fun hlt => ?_) (fun hge => ?_)
    · apply st_wt
      have hkl : kk < A.length := by omega
      obtain ⟨y, hy⟩ : ∃ y, A[kk]? = some y := ⟨_, List.getElem?_eq_getElem hkl⟩
      have hyA := List.mem_of_getElem? hy
      walk_at "go"
      refine k_isD (.of (s3 _ _ (s1 _ _ hd))) ?_
      walk_at "go"
      refine e_ixL (SqL.of hA) (atI_nat (by rw [List.getElem?_map, hy]; rfl)) ?_
      walk_at "go"
      intro p hp
      obtain ⟨f, ef, hf⟩ := dq_get (hm.mono fun _ _ => RefL.same ((s1.trans s3).trans (same1 hp))) y (p := p) upd_same
      refine k_dg2 (.of (((s1.trans s3).trans (same1 hp)) _ _ hd)) ?_
      rw [ef]
      have f0 : Same H1 (upd H2 p (.lst [])) := s3.trans (same1 hp)
      have g0 := (same1 (o := .lst []) hp) _ _ hA
      have hfr : f ≠ r := fun q => by
        rw [q, g0] at hf
        rcases (hm.get (k := y)) with ⟨e1, e2⟩ | ⟨zs, v, e1, e2, b, rfl, hb'⟩
        · rw [e2] at ef
          have : p = r := by
            have := V.ref.inj ef
            rw [this, q]
          rw [this, hA] at hp
          cases hp
        · rw [e2] at ef
          have : b = r := by
            have := V.ref.inj ef
            rw [this, q]
          rw [this] at hb'
          rw [hrH] at hb'
          cases hb'
      generalize upd H2 p (.lst []) = H3 at f0 g0 hf ⊢
      refine k_forL (fun i σ H' => ∃ (A' T : List Str) (v6 : Option V), σ = [some (.ref a), some (.ref d), some (.ref w), some (.str z), some (.ref r), some (.int kk), v6] ∧ SameB [r] H3 H' ∧ Same H1 H' ∧ H' r = some (.lst (A'.map V.str)) ∧
        A'.Nodup ∧ (∀ y ∈ A', y ∈ ys) ∧ (∀ y ∈ A', WayR wm z y) ∧ A' = A ++ T ∧ ∀ u ∈ (getL m y).take i, u ∈ ys → u ∈ A')
        (SqL.of hf) ⟨A, [], v6', rfl, SameB.refl, f0, g0, nA, inA, lA, by simp, by simp⟩ (fun i σ H' _ ⟨_, _, _, _, s, _⟩ => SqL.of (s _ _ (by simpa using hfr) hf)) ?_ ?_
      · rintro i x σ H4 hi ⟨A', T, v6, rfl, s4, s5, hA', nA', inA', lA', eT, ht⟩
        obtain ⟨u, rfl, hu, et2, huy⟩ := str_at hi
        walk_at "go"
        refine e_inS (base _ (s1.trans s5)) ?_
        walk_at "go"
        refine ifd (fun hin => ?_) (fun hin => ?_)
        · walk_at "go"
          refine e_ninS (SqL.of hA') ?_
          walk_at "go"
          refine ifn (fun hnu => ?_) (fun hyu => ?_)
          · walk_at "go"
            refine e_tyl hA' ?_
            walk_at "go"
            have nA2 : (A' ++ [u]).Nodup := nd_snoc nA' hnu
            have inA2 : ∀ y ∈ A' ++ [u], y ∈ ys := fun y hy => by
              rcases List.mem_append.mp hy with q | q
              · exact inA' y q
              · rw [List.mem_singleton.mp q]; exact hin
            have := rows _ nA' inA'
            refine e_app hA' (by rw [List.length_map]; exact small1000 (by omega)) ?_
            walk_at "go"
            have huw : u ∈ getL wm y := by
              rw [gw, if_pos (inA y hyA)]
              exact List.mem_filter.mpr ⟨huy, decide_eq_true hin⟩
            refine ⟨A' ++ [u], T ++ [u], _, rfl, s4.put (by simp), same_mut s5 hr, by rw [upd_same, List.map_append]; rfl, nA2, inA2, fun y' hy' => ?_, by rw [eT, List.append_assoc], fun v hv hvy => ?_⟩
            · rcases List.mem_append.mp hy' with q | q
              · exact lA' y' q
              · rw [List.mem_singleton.mp q]
                rcases lA y hyA with e | h
                · exact .inr (.one (e ▸ huw))
                · exact .inr (.more h huw)
            · rw [et2] at hv
              rcases List.mem_append.mp hv with q | q
              · exact List.mem_append_left _ (ht v q hvy)
              · exact List.mem_append_right _ q
          · walk_at "go"
            refine ⟨A', T, _, rfl, s4, s5, hA', nA', inA', lA', eT, fun v hv hvy => ?_⟩
            rw [et2] at hv
            rcases List.mem_append.mp hv with q | q
            · exact ht v q hvy
            · rw [List.mem_singleton.mp q]; exact hyu
        · walk_at "go"
          refine ⟨A', T, _, rfl, s4, s5, hA', nA', inA', lA', eT, fun v hv hvy => ?_⟩
          rw [et2] at hv
          rcases List.mem_append.mp hv with q | q
          · exact ht v q hvy
          · rw [List.mem_singleton.mp q] at hvy; exact absurd hvy hin
      · rintro σ H4 ⟨A', T, v6, rfl, s4, s5, hA', nA', inA', lA', eT, ht⟩
        rw [List.length_map, List.take_of_length_le (Nat.le_refl _)] at ht
        walk_at "go"
        have sub : ∀ u ∈ A, u ∈ A' := fun u hu => by rw [eT]; exact List.mem_append_left _ hu
        refine ⟨_, ?_, kk + 1, A', _, rfl, s5, hA', nA', inA', lA', sub z zA, fun i y' hi hy' u hu => ?_, ?_, rfl⟩
        · omega
        · rw [eT, List.getElem?_append_left (by omega)] at hy'
          by_cases e : i = kk
          · rw [e, hy] at hy'
            cases hy'
            rw [gw, if_pos (inA y hyA)] at hu
            have := List.mem_filter.mp hu
            exact ht u this.1 (of_decide_eq_true this.2)
          · exact sub u (cl i y' (by omega) hy' u hu)
        · rw [eT, List.length_append]
          omega
    · have hkl : kk = A.length := by omega
      have all : ∀ u, u ∈ A ↔ WayR wm z u := fun u => by
        refine ⟨lA u, fun h => ?_⟩
        rcases h with e | h
        · rw [e]; exact zA
        · induction h with
          | one h =>
            obtain ⟨j, hj⟩ := List.mem_iff_getElem?.mp zA
            have := (List.getElem?_eq_some_iff.mp hj).1
            exact cl j _ (by omega) hj _ h
          | more _ h ih =>
            obtain ⟨j, hj⟩ := List.mem_iff_getElem?.mp ih
            have := (List.getElem?_eq_some_iff.mp hj).1
            exact cl j _ (by omega) hj _ h
      walk_at "go"
      refine k_dp (s3 _ _ hlw) (small1000 (by omega)) ?_
      walk_at "go"
      have keep : ∀ (q : Addr) (zs : List Str), H2 q = some (.lst (zs.map V.str)) → upd H2 w (dS (putS lw z (.ref r))) q = some (.lst (zs.map V.str)) := fun q zs h => by
        rw [upd_ne (ne_of h (s3 _ _ hlw) (by intro z; cases z))]
        exact h
      refine ⟨_, _, _, _, _, rfl, same_mut (s1.trans s3) hw, upd_same, by have := putS_len lw z (.ref r); omega, ?_⟩
      rw [et]
      refine WaysR.put (fun x hx => ?_) (keep _ _ hA) all
      obtain ⟨r', zs', g1, g2, g3⟩ := R x hx
      exact ⟨r', zs', g1, keep _ _ (s3 _ _ g2), g3⟩
  · rintro σ H1 ⟨v3, v4, v5, v6, lw, rfl, s1, hlw, llw, R⟩
    rw [ly, full] at R
    walk_at "go"
    exact k w lw H1 s1 hw hlw R
theorem paired_at {R : α → β → Prop} {xs : List α} {ys : List β} (h : Paired R xs ys) : ∀ {i : Nat} {y : β}, ys[i]? = some y → ∃ x, xs[i]? = some x ∧ R x y := by
  induction h with
  | nil => intro i y e; cases e
  | cons a _ ih =>
    intro i y e
    cases i with
    | zero => cases e; exact ⟨_, rfl, a⟩
    | succ i => exact ih e
theorem paired_refl {R : α → α → Prop} : ∀ {xs : List α}, (∀ x ∈ xs, R x x) → Paired R xs xs
  | [], _ => .nil
  | x :: xs, h => .cons (h x List.mem_cons_self) (paired_refl fun y hy => h y (List.mem_cons_of_mem _ hy))
theorem flatB_strs (ys : List Str) : (ys.map V.str).all flatB = true := by
  rw [List.all_map, List.all_eq_true]
  exact fun _ _ => rfl
theorem getS_of_nodup {β : Type} {k : Str} {v : β} : ∀ {l : List (Str × β)}, (l.map (·.1)).Nodup → (k, v) ∈ l → getS l k = some v
  | (a, b) :: r, n, h => by
    rw [List.map_cons] at n
    obtain ⟨n1, n2⟩ := List.nodup_cons.mp n
    rw [getS_cons]
    rcases List.mem_cons.mp h with q | q
    · cases q
      exact if_pos rfl
    · rw [if_neg (fun e => n1 (by rw [show a = k from e]; exact List.mem_map.mpr ⟨_, q, rfl⟩))]
      exact getS_of_nodup n2 q
/-! ### law k07 -/
def sp_law (K : PySem.W.Frag) : Sp := fun vs H Q _ => ∃ (a : Addr) (ns : List Int), vs = [.ref a] ∧ SqL K H a (ns.map V.int) ∧ ns.length ≤ 63 ∧ ∀ H', Q (.bl true) H'
theorem ln_law {K : PySem.W.Frag} {vs : List V} {H : Hp} {Q : VK} {E : XK} (h : sp_law K vs H Q E) : vs.length = 1 := by
  obtain ⟨a, ns, rfl, _⟩ := h
  rfl
theorem sp_law_of {K : PySem.W.Frag} {H : Hp} {a : Addr} {ns : List Int} (hS : SqL K H a (ns.map V.int)) (hl : ns.length ≤ 63) : sp_law K [.ref a] H (fun v _ => v = .bl true) fun _ _ _ => False := ⟨a, ns, rfl, hS, hl, fun _ => rfl⟩
abbrev n_law : List Str := ["_law_script", "_law_names_here", "_law_leans_here", "_law_way", "_law_handed", "_law_name", "_law_given", "_law_found", "_law_ways_here", "_law_due", "_law_knot", "_law_other"]
def t_law (K : PySem.W.Frag) (W : WX) : TS :=
  tSeq (tAsg (tCW sp__law_names W (tCons (tCW (sp_cell_at K) W (tCons (tVar 0) (tCons (tC (.int 0)) tNil))) (tCons (tOp rAddI (tC (.int 1)) (tOp rModI (tCW (sp_cell_at K) W (tCons (tVar 0) (tCons (tC (.int 1)) tNil))) (tC (.int 9)))) tNil))) (gName 1))
  (tSeq (tAsg (tCW (sp_leans K) W (tCons (tSl (rSlL K) (tVar 0) (tPart (tC (.int 3))) tNoPart) (tCons (tOp rCat (tVar 1) (tLst (tCons (tC (.str "qqqqqq")) tNil))) tNil))) (gName 2))
  (tSeq (tAsg (tOp rModI (tCW (sp_cell_at K) W (tCons (tVar 0) (tCons (tC (.int 2)) tNil))) (tC (.int 4))) (gName 3))
  (tSeq (tIfS (tTest (tOp rEq (tVar 3) (tC (.int 1)))) (tAsg (tSl3 K (tVar 1) tNoPart tNoPart (tPart (tUn rNeg (tC (.int 1))))) (gName 1)) tNext)
  (tSeq (tIfS (tTest (tOp rEq (tVar 3) (tC (.int 2)))) (tAsg (tSl (rSlL K) (tVar 1) (tPart (tC (.int 1))) tNoPart) (gName 1)) tNext)
  (tSeq (tIfS (tTest (tOp rEq (tVar 3) (tC (.int 3)))) (tAsg (tOp rCat (tSl3 K (tVar 1) (tPart (tC (.int 1))) tNoPart (tPart (tC (.int 2)))) (tSl3 K (tVar 1) tNoPart tNoPart (tPart (tC (.int 2))))) (gName 1)) tNext)
  (tSeq (tAsg tDNewK (gName 4))
  (tSeq (tLock (tFor (iKeys (tVar 2)) (gName 5) (sDp (tVar 4) (tVar 5) (tCB (rListL K) (tCons (tDg (tVar 2) (tVar 5)) tNil)))))
  (tSeq (tAsg (tCB (rListL K) (tCons (tVar 1) tNil)) (gName 6))
  (tSeq (tAsg (tCW (sp_knots K) W (tCons (tVar 6) (tCons (tVar 4) tNil))) (gName 7))
  (tSeq (tIfS (tOr (tTest (tOp (rNeY K) (tVar 6) (tVar 1))) (tOr (tTest (tOp (rNeDL K) (tVar 4) (tVar 2))) (tNot (tB (tCB (rIsi K) (tCons (tVar 7) (tCons (tC (.ty "list")) tNil))))))) (tRet (tC (.bl false))) tNext)
  (tSeq (tAsg (tCW (sp_ways K) W (tCons (tVar 1) (tCons (tVar 2) tNil))) (gName 8))
  (tSeq (tAsg (tLst tNil) (gName 9))
  (tSeq (tFor (iList K (tVar 1)) (gName 5) (tSeq (tAsg (tLc (iList K (tVar 1)) (gName 11) (tAnd (tTest (tOp (rIn K false) (tVar 11) (tDg (tVar 8) (tVar 5)))) (tTest (tOp (rIn K false) (tVar 5) (tDg (tVar 8) (tVar 11))))) (tVar 11) [11]) (gName 10))
  (tIfS (tTest (tOp (rNinY K) (tVar 10) (tVar 9))) (tDrop (tBM K "list" rAppend (tVar 9) (tCons (tVar 10) tNil))) tNext)))
  (tRet (tOp (rEqY K) (tVar 7) (tVar 9))))))))))))))))
theorem dec_false {p : Prop} {i : Decidable p} (h : @decide p i = false) : ¬ p := by
  cases i with
  | isTrue _ => cases h
  | isFalse n => exact n
theorem dec_true {p : Prop} {i : Decidable p} (h : @decide p i = true) : p := by
  cases i with
  | isTrue n => exact n
  | isFalse _ => cases h
theorem st_ifK {c : TT} {A u : TS} {D : Ends} {σ : St} {H : Hp} (J : St → Hp → Prop) (hJ : ∀ σ' H', J σ' H' → u D σ' H') (h : ∀ N : St → Hp → Prop, (∀ σ' H', J σ' H' → N σ' H') → tIfS c A tNext ⟨N, D.rt, D.bk, D.ct⟩ σ H) : tSeq (tIfS c A tNext) u D σ H := h _ hJ
theorem rng_short (n : Nat) (h : n ≤ 9) : (sliceRange (sliceBounds none none (some (-1)) n).1 (sliceBounds none none (some (-1)) n).2.1 (sliceBounds none none (some (-1)) n).2.2).length ≤ 9 ∧
    (sliceRange (sliceBounds (some 1) none (some 2) n).1 (sliceBounds (some 1) none (some 2) n).2.1 (sliceBounds (some 1) none (some 2) n).2.2).length ≤ 9 ∧
    (sliceRange (sliceBounds none none (some 2) n).1 (sliceBounds none none (some 2) n).2.1 (sliceBounds none none (some 2) n).2.2).length ≤ 9 := by
  have : ∀ n < 10, (sliceRange (sliceBounds none none (some (-1)) n).1 (sliceBounds none none (some (-1)) n).2.1 (sliceBounds none none (some (-1)) n).2.2).length ≤ 9 ∧
    (sliceRange (sliceBounds (some 1) none (some 2) n).1 (sliceBounds (some 1) none (some 2) n).2.1 (sliceBounds (some 1) none (some 2) n).2.2).length ≤ 9 ∧
    (sliceRange (sliceBounds none none (some 2) n).1 (sliceBounds none none (some 2) n).2.1 (sliceBounds none none (some 2) n).2.2).length ≤ 9 := by decide +kernel
  exact this n (by omega)
theorem dpa_lists {K : PySem.W.Frag} {H : Hp} {ks : List (List Str)} {rs : List V} (h : Paired (RefL H) ks rs) : DpAll K H rs (ks.map (fun z => PySem.W.Datum.toD z)) := by
  induction h with
  | nil => exact .nil
  | cons a _ ih =>
    obtain ⟨b, rfl, hb⟩ := a
    exact .cons (dp_strs (SqL.of hb)) ih
theorem pure_law {K : PySem.W.Frag} {vs : List V} {H : Hp} {Q : VK} {E : XK} {W : WX} (h : sp_law K vs H Q E) : t_law K W { nx := fun _ H' => Q .non H', rt := Q } (start n_law vs) H := by
  obtain ⟨a, ns, rfl, hS, hn, k⟩ := h
  show t_law K W _ [some (.ref a), none, none, none, none, none, none, none, none, none, none, none] H
  unfold t_law
  walk_at "go"
  refine ⟨a, ns, 0, rfl, hS, by decide, ?_⟩
  walk_at "go"
  refine ⟨a, ns, 1, rfl, hS, by decide, ?_⟩
  walk_at "go"
  refine e_mod (by decide) ?_
  walk_at "go"
  have hc0 : 0 ≤ cellAt ns 1 % 9 := Int.emod_nonneg _ (by decide)
  have hc9 : cellAt ns 1 % 9 < 9 := Int.emod_lt_of_pos _ (by decide)
  have hm : (((1 + cellAt ns 1 % 9).toNat : Nat) : Int) = 1 + cellAt ns 1 % 9 := by omega
  refine ⟨cellAt ns 0, (1 + cellAt ns 1 % 9).toNat, by rw [hm], by omega, fun r H1 s1 r0 h1 => ?_⟩
  have hy9 : (lawNames (cellAt ns 0) (1 + cellAt ns 1 % 9).toNat).length ≤ 9 := by unfold lawNames; rw [List.length_map, List.length_range]; omega
  generalize lawNames (cellAt ns 0) (1 + cellAt ns 1 % 9).toNat = ys at h1 hy9
  walk_at "go"
  refine e_slL (s1.seq hS) fun c hc => ?_
  rw [show (3 : Int) = ((3 : Nat) : Int) from rfl, cut_from, ← List.map_drop]
  walk_at "go"
  intro q hq
  have s2 := s1.trans ((same1 (o := .lst ((ns.drop 3).map V.int)) hc).trans (same1 (o := .lst [.str "qqqqqq"]) hq))
  have h1q : upd (upd H1 c (.lst ((ns.drop 3).map V.int))) q (.lst [.str "qqqqqq"]) r = some (.lst (ys.map V.str)) := ((same1 hc).trans (same1 hq)) _ _ h1
  have hcq : upd (upd H1 c (.lst ((ns.drop 3).map V.int))) q (.lst [.str "qqqqqq"]) c = some (.lst ((ns.drop 3).map V.int)) := (same1 hq) _ _ upd_same
  refine e_cat h1q upd_same (by rw [List.length_map, sizeLine_eq]; simp only [List.length_singleton]; omega) fun t ht => ?_
  have s3 := s2.trans (same1 (o := .lst (ys.map V.str ++ [.str "qqqqqq"])) ht)
  have h1t := (same1 (o := .lst (ys.map V.str ++ [.str "qqqqqq"])) ht) _ _ h1q
  have hct := (same1 (o := .lst (ys.map V.str ++ [.str "qqqqqq"])) ht) _ _ hcq
  have htt : upd (upd (upd H1 c (.lst ((ns.drop 3).map V.int))) q (.lst [.str "qqqqqq"])) t (.lst (ys.map V.str ++ [.str "qqqqqq"])) t = some (.lst ((ys ++ [("qqqqqq" : Str)]).map V.str)) := by rw [upd_same, List.map_append]; rfl
  generalize upd (upd (upd H1 c (.lst ((ns.drop 3).map V.int))) q (.lst [.str "qqqqqq"])) t (.lst (ys.map V.str ++ [.str "qqqqqq"])) = H2 at s3 h1t hct htt ⊢
  clear hcq h1q s2 ht hq hc
  walk_at "go"
  refine ⟨c, t, ns.drop 3, ys ++ [("qqqqqq" : Str)], rfl, SqL.of hct, SqL.of htt, by simp, by rw [List.length_drop]; omega, fun d l H3 s4 d0 hd R => ?_⟩
  have B := leansOf_in (ys := ys ++ [("qqqqqq" : Str)]) (by simp) _ (ns.drop 3) rfl
  rw [List.length_drop] at B
  generalize leansOf (ys ++ [("qqqqqq" : Str)]) (ns.drop 3) = m at B R
  have h1' := s4 _ _ h1t
  have s5 := s3.trans s4
  clear h1t hct htt s3 s4 h1 s1
  walk_at "go"
  refine ⟨a, ns, 2, rfl, s5.seq hS, by decide, ?_⟩
  walk_at "go"
  refine e_mod (by decide) ?_
  generalize cellAt ns 2 % 4 = way
  let J : Nat → St → Hp → Prop := fun b σ H' => ∃ (r : Addr) (ys : List Str), σ = [some (.ref a), some (.ref r), some (.ref d), some (.int way), none, none, none, none, none, none, none, none] ∧ Same H3 H' ∧ H' r = some (.lst (ys.map V.str)) ∧ ys.length ≤ b
  have J0 : J 9 [some (.ref a), some (.ref r), some (.ref d), some (.int way), none, none, none, none, none, none, none, none] H3 := ⟨r, ys, rfl, Same.refl _, h1', hy9⟩
  refine st_ifK (J 9) (fun σ H' hJ => ?_) fun N hN => ?_
  rotate_left
  · walk_at "go"
    refine ifd (fun _ => ?_) (fun _ => ?_)
    · walk_at "go"
      refine ⟨1, rfl, -1, rfl, ?_⟩
      refine e_slL3 (SqL.of h1') (by decide) (Nat.le_trans (rng_short _ hy9).1 (by decide)) fun p hp => ?_
      exact hN _ _ ⟨p, _, rfl, same1 hp, upd_same, Nat.le_trans (pick3_len ..) (rng_short _ hy9).1⟩
    · walk_at "go"
      exact hN _ _ J0
  obtain ⟨r, ys, rfl, s6, hr, hy9⟩ := hJ
  clear J0 h1'
  refine st_ifK (J 9) (fun σ H' hJ => ?_) fun N hN => ?_
  rotate_left
  · walk_at "go"
    refine ifd (fun _ => ?_) (fun _ => ?_)
    · walk_at "go"
      refine e_slL (SqL.of hr) fun p hp => ?_
      rw [show (1 : Int) = ((1 : Nat) : Int) from rfl, cut_from, ← List.map_drop]
      exact hN _ _ ⟨p, _, rfl, s6.trans (same1 hp), upd_same, by rw [List.length_drop]; omega⟩
    · walk_at "go"
      exact hN _ _ ⟨r, ys, rfl, s6, hr, hy9⟩
  clear hr s6 hy9
  obtain ⟨r, ys, rfl, s6, hr, hy9⟩ := hJ
  refine st_ifK (J 20) (fun σ H5 hJ => ?_) fun N hN => ?_
  rotate_left
  · walk_at "go"
    refine ifd (fun _ => ?_) (fun _ => ?_)
    · walk_at "go"
      refine e_slL3 (SqL.of hr) (by decide) (Nat.le_trans (rng_short _ hy9).2.1 (by decide)) fun p hp => ?_
      walk_at "go"
      refine e_slL3 (SqL.of ((same1 hp) _ _ hr)) (by decide) (Nat.le_trans (rng_short _ hy9).2.2 (by decide)) fun p2 hp2 => ?_
      have l1 := Nat.le_trans (pick3_len ys (some 1) none 2) (rng_short _ hy9).2.1
      have l2 := Nat.le_trans (pick3_len ys none none 2) (rng_short _ hy9).2.2
      refine e_cat ((same1 hp2) _ _ upd_same) upd_same (by rw [List.length_map, List.length_map, sizeLine_eq]; omega) fun p3 hp3 => ?_
      refine hN _ _ ⟨p3, pick3 ys (some 1) none 2 ++ pick3 ys none none 2, rfl, s6.trans ((same1 hp).trans ((same1 hp2).trans (same1 hp3))), by rw [upd_same, List.map_append], by rw [List.length_append]; omega⟩
    · walk_at "go"
      exact hN _ _ ⟨r, ys, rfl, s6, hr, by omega⟩
  clear hr s6 hy9
  obtain ⟨r, ys, rfl, s6, hr, hy9⟩ := hJ
  have hd5 := s6 _ _ hd
  have R5 : LnRel H5 m l := R.mono fun _ _ => RefL.same s6
  clear s6 R hd
  walk_at "go"
  intro e he
  walk_at "go"
  have hed : e ≠ d := fun z => by rw [z, hd5] at he; cases he
  refine k_lock d (dS l) (by rw [upd_ne hed.symm]; exact hd5) trivial fun od => ?_
  walk_at "go"
  refine k_forK (fun i σ H' => ∃ (lh : List (Str × V)) (v8 : Option V), σ = [some (.ref a), some (.ref r), some (.ref d), some (.int way), some (.ref e), v8, none, none, none, none, none, none] ∧ H' e = some (dS lh) ∧ H' d = some (.frz od (dS l)) ∧
    (∀ p u, p ≠ d → H5 p = some u → H' p = some u) ∧ LnRel H' (m.take i) lh) (upd_same) ⟨[], _, rfl, by rw [upd_ne hed, upd_same]; rfl, upd_same, fun p u hp hu => by rw [upd_ne hp, upd_ne (ne_of_none hu he)]; exact hu, by rw [List.take_zero]; exact .nil⟩ (fun i σ H' ⟨_, _, _, _, q, _⟩ => q) ?_ ?_
  · rintro i k v σ H' hi ⟨lh, v8, rfl, he', hd', s', R'⟩
    obtain ⟨⟨k', ys'⟩, hm, e1, b1, e2, hb1⟩ := paired_at R5 hi
    obtain rfl : k = k' := Eq.symm e1
    obtain rfl : v = V.ref b1 := e2
    have hb1d : b1 ≠ d := fun z => by
      rw [z, hd5] at hb1
      cases hb1
    have hb1' : H' b1 = some (.lst (ys'.map V.str)) := s' _ _ hb1d hb1
    walk_at "go"
    have gl : getS l k = some (.ref b1) := getS_of_nodup (by rw [← R5.keys]; exact B.2.2.2.1) (List.mem_of_getElem? hi)
    refine k_dg (.inr ⟨od, hd'⟩) gl ?_
    walk_at "go"
    refine e_listL (SqL.of hb1') fun f hf => ?_
    walk_at "go"
    have lm : i < m.length := (List.getElem?_eq_some_iff.mp hm).1
    have ll : lh.length ≤ 60 := by
      rw [← R'.length, List.length_take]
      have := B.2.2.1
      omega
    have he2 : upd H' f (.lst (ys'.map V.str)) e = some (dS lh) := by rw [upd_ne (ne_of_none he' hf)]; exact he'
    refine k_dp he2 (small1000 (by omega)) ?_
    have et : m.take (i + 1) = m.take i ++ [(k, ys')] := by
      have h := List.getElem?_eq_some_iff.mp hm
      rw [List.take_succ_eq_append_getElem h.1, h.2]
    have nk : ¬ k ∈ lh.map (·.1) := by
      rw [← R'.keys]
      have nd := B.2.2.2.1
      have h2 : (m.take (i + 1)).map (·.1) <+: m.map (·.1) := (List.take_prefix _ _).map _
      have h3 := List.Sublist.nodup h2.sublist nd
      rw [et, List.map_append, List.nodup_append] at h3
      intro hk
      exact h3.2.2 _ hk k (by simp) rfl
    have R2 : LnRel (upd H' f (.lst (ys'.map V.str))) (m.take i) lh := R'.mono fun _ _ => RefL.same (same1 hf)
    refine ⟨_, _, rfl, upd_same, ?_, fun p u hp hu => ?_, ?_⟩
    · rw [upd_ne hed.symm, upd_ne (ne_of_none hd' hf)]
      exact hd'
    · have := s' p u hp hu
      rw [upd_ne (ne_of_none hu he), upd_ne (ne_of_none this hf)]
      exact this
    · rw [et, putS_new _ nk]
      exact RelD.snoc (R2.mono fun _ _ z => RefL.updD he2 z) (RefL.updD he2 ⟨f, rfl, upd_same⟩)
  · rintro σ H' ⟨lh, v8, rfl, he', hd', s', R'⟩
    rw [← R5.length, List.take_of_length_le (Nat.le_refl _)] at R'
    refine ⟨hd', ?_⟩
    have R6 : LnRel (upd H' d (dS l)) m lh := R'.mono fun _ _ ⟨b1, e1, hb1⟩ => ⟨b1, e1, by
      rw [upd_ne (fun z => by rw [z, hd'] at hb1; cases hb1)]
      exact hb1⟩
    have he6 : upd H' d (dS l) e = some (dS lh) := by rw [upd_ne hed]; exact he'
    have hd6 : upd H' d (dS l) d = some (dS l) := upd_same
    have s6 : Same H5 (upd H' d (dS l)) := fun p u hu => by
      by_cases z : p = d
      · rw [z, upd_same, ← hd5, ← z, hu]
      · rw [upd_ne z]
        exact s' p u z hu
    generalize upd H' d (dS l) = H6 at R6 he6 hd6 s6 ⊢
    have R6d : LnRel H6 m l := R5.mono fun _ _ => RefL.same s6
    have hr6 := s6 _ _ hr
    clear R' he' hd' s' R5 hd5 he hr s6
    have hb60 : ∀ x, (getL m x).length ≤ 1000 := fun x => by have := B.2.1 x; omega
    walk_at "go"
    refine e_listL (SqL.of hr6) fun g hg => ?_
    have s7 : Same H6 (upd H6 g (.lst (ys.map V.str))) := same1 hg
    have hg7 : upd H6 g (.lst (ys.map V.str)) g = some (.lst (ys.map V.str)) := upd_same
    generalize upd H6 g (.lst (ys.map V.str)) = H7 at s7 hg7 ⊢
    walk_at "go"
    refine ⟨g, e, ys, m, lh, rfl, hg7, s7 _ _ he6, R6.mono fun _ _ => RefL.same s7, by omega, hb60, fun fo rs H8 s8 fo0 hfo Pk => ?_⟩
    have s68 := s7.trans s8
    have g8 := s8 _ _ hg7
    have R8 : LnRel H8 m lh := R6.mono fun _ _ => RefL.same s68
    have R8d : LnRel H8 m l := R6d.mono fun _ _ => RefL.same s68
    have hr8 := s68 _ _ hr6
    have he8 := s68 _ _ he6
    have hd8 := s68 _ _ hd6
    clear s68 s8 s7 hg7 hg R6 R6d hr6 he6 hd6 fo0
    walk_at "go"
    refine e_neY ys ys (by decide) (dp_strs (SqL.of g8)) (dp_strs (SqL.of hr8)) ?_
    rw [decide_eq_true (rfl : ys = ys)]
    walk_at "go"
    refine iteF ?_
    walk_at "go"
    refine ⟨List Str, inferInstance, inferInstance, e, d, skv lh, skv l, rfl, rfl, he8, hd8, by decide, ?_, ?_, ?_⟩
    · rw [len_skv, len_skv, ← R8.length, ← R8d.length]
    · intro p hp
      obtain ⟨⟨kx, vx⟩, hk, rfl⟩ := List.mem_map.mp hp
      have g1 : getS lh kx = some vx := getS_of_nodup (by rw [← R8.keys]; exact B.2.2.2.1) hk
      rcases R8.get (k := kx) with ⟨_, z⟩ | ⟨xs, u, gm, gl, b1, rfl, hb1⟩
      · rw [z] at g1
        cases g1
      · rw [g1] at gl
        cases gl
        rcases R8d.get (k := kx) with ⟨z, _⟩ | ⟨xs', u, gm', gl', b2, rfl, hb2⟩
        · rw [z] at gm
          cases gm
        · rw [gm] at gm'
          cases gm'
          exact ⟨_, xs, (valV_skv kx l).trans gl', dp_strs (SqL.of hb1), dp_strs (SqL.of hb2)⟩
    walk_at "go"
    refine iteF ?_
    walk_at "go"
    refine e_isiL hfo (b := true) (by decide +kernel) ?_
    walk_at "go"
    refine iteF ?_
    walk_at "go"
    refine ⟨r, d, ys, m, l, rfl, hr8, hd8, R8d, by omega, hb60, fun wy lw H9 s9 wy0 hwy Rw => ?_⟩
    generalize withinL m ys ys = wm at Pk Rw
    walk_at "go"
    intro o ho
    walk_at "go"
    have base : ∀ H', Same H9 H' → SqL K H' r (ys.map V.str) := fun H' s => SqL.of (s _ _ (s9 _ _ hr8))
    refine k_forL (fun i σ H' => ∃ (v5 v10 v11 : Option V) (ro : List V), σ = [some (.ref a), some (.ref r), some (.ref d), some (.int way), some (.ref e), v5, some (.ref g), some (.ref fo), some (.ref wy), some (.ref o), v10, v11] ∧ Same H9 H' ∧ H' o = some (.lst ro) ∧
      Paired (RefLx o H') (knotsL wm ys (ys.take i)) ro) (base _ (same1 ho)) ⟨v8, none, none, [], rfl, same1 ho, upd_same, by rw [List.take_zero]; exact .nil⟩ (fun i σ H' _ ⟨_, _, _, _, _, s, _⟩ => base _ s) ?_ ?_
    · rintro i x σ H10 hi ⟨v5, v10, v11, ro, rfl, s10, hro, Px⟩
      obtain ⟨z, rfl, hz, et, hzy⟩ := str_at hi
      have hil := (List.getElem?_eq_some_iff.mp hz).1
      classical
      walk_at "go"
      refine k_lcS (fun y => decide (y = z ∨ (Leads wm z y ∧ Leads wm y z))) (base _ s10) (by omega) (fun _ => rfl) (fun _ => rfl) (fun y H' R hy sH hR => ?_) fun D H11 hD s11 hDv => ?_
      · show tAnd _ _ [some (.ref a), some (.ref r), some (.ref d), some (.int way), some (.ref e), some (.str z), some (.ref g), some (.ref fo), some (.ref wy), some (.ref o), v10, some (.str y)] H' R
        obtain ⟨r1, z1, g1, h1, m1⟩ := Rw z hzy
        obtain ⟨r2, z2, g2, h2, m2⟩ := Rw y hy
        have hwy' := (s10.trans sH) _ _ hwy
        walk_at "go"
        refine k_dg (.of hwy') g1 ?_
        refine e_inS (SqL.of ((s10.trans sH) _ _ h1)) ?_
        walk_at "go"
        refine ifd (fun e2 => ?_) (fun e2 => ?_)
        · walk_at "go"
          refine k_dg (.of hwy') g2 ?_
          refine e_inS (SqL.of ((s10.trans sH) _ _ h2)) ?_
          walk_at "go"
          have e3 : decide (z ∈ z2) = decide (y = z ∨ (Leads wm z y ∧ Leads wm y z)) := decide_eq_decide.mpr ⟨fun h => by
            rcases (m1 y).mp e2 with q | q
            · exact .inl q
            · rcases (m2 z).mp h with q2 | q2
              · exact .inl q2.symm
              · exact .inr ⟨q, q2⟩, fun h => (m2 z).mpr (h.elim (fun h => .inl h.symm) fun h => .inr h.2)⟩
          rw [e3]
          exact hR
        · rw [decide_eq_false (p := y = z ∨ _) (fun h => e2 ((m1 y).mpr (h.elim .inl fun h => .inr h.1)))] at hR
          exact hR
      · have hDv : H11 D = some (.lst ((knotL wm ys z).map V.str)) := hDv
        have Do : D ≠ o := fun q => by rw [q, hro] at hD; cases hD
        have Px11 : Paired (RefLx o H11) (knotsL wm ys (ys.take i)) ro := Paired.mapP Px fun _ _ ⟨b, e1, e2, e3⟩ => ⟨b, e1, e2, s11 _ _ e3⟩
        have lro : ro.length ≤ i := by
          rw [← Paired.length Px]
          exact Nat.le_trans (knots_len wm ys _ (ys.take i) rfl) (by rw [List.length_take]; omega)
        have ho11 := s11 _ _ hro
        walk_at "go"
        refine e_ninY (knotL wm ys z) (knotsL wm ys (ys.take i)) (by decide) (dp_strs (SqL.of hDv)) (SqL.of ho11) (dpa_lists (Paired.mapP Px11 fun _ _ ⟨b, e1, _, e3⟩ => ⟨b, e1, e3⟩)) ?_
        walk_at "go"
        refine ifnb (fun hnk => ?_) (fun hyk => ?_)
        · have hnk := dec_false hnk
          walk_at "go"
          refine e_tyl ho11 ?_
          walk_at "go"
          refine e_app ho11 (small1000 (by omega)) ?_
          walk_at "go"
          refine ⟨_, _, _, _, rfl, same_mut (s10.trans s11) ho, upd_same, ?_⟩
          rw [et, knots_snoc]
          rw [one_neg hnk]
          refine paired_snoc (Paired.mapP Px11 fun _ _ ⟨b, e1, e2, e3⟩ => ⟨b, e1, e2, ?_⟩) ⟨D, rfl, Do, ?_⟩
          · rw [upd_ne e2]
            exact e3
          · rw [upd_ne Do]
            exact hDv
        · have hyk := dec_true hyk
          walk_at "go"
          refine ⟨_, _, _, ro, rfl, s10.trans s11, ho11, ?_⟩
          rw [et, knots_snoc]
          rw [one_pos hyk]
          exact Px11
    · rintro σ H10 ⟨v5, v10, v11, ro, rfl, s10, hro, Px⟩
      rw [List.length_map, List.take_of_length_le (Nat.le_refl _)] at Px
      walk_at "go"
      have Pk10 : Paired (RefL H10) (knotsL wm ys ys) rs := Paired.mapP Pk fun _ _ => RefL.same (s9.trans s10)
      refine e_eqY (knotsL wm ys ys) (knotsL wm ys ys) (by decide) (.lst (SqL.of ((s9.trans s10) _ _ hfo)) (dpa_lists Pk10)) (.lst (SqL.of hro) (dpa_lists (Paired.mapP Px fun _ _ ⟨b, e1, _, e3⟩ => ⟨b, e1, e3⟩))) ?_
      rw [decide_eq_true rfl]
      exact k _
def top (i : Nat) : Stmt := PySem.Challenge.pw_anewhall_k07_knots_of_names.main.body.getD i (.Pass ⟨0, 0, 0, 0⟩)
open He (ga ma)
/-- what the walk asks of the text -/
structure Tx (K : PySem.W.Frag) (mg : Str → Option Value) : Prop where
  d_law : Def K "law" "law" (top 8) (ga K "law")
  g_law : mg "law" = some (.ref (ga K "law"))
  d_led_to : Def K "led_to" "led_to" (top 1) (ga K "led_to")
  f_list : mg "list" = none
  f_sorted : mg "sorted" = none
  d_knots_of : Def K "knots_of" "knots_of" (top 2) (ga K "knots_of")
  g_led_to : mg "led_to" = some (.ref (ga K "led_to"))
  d__law_cell_at : Def K "_law_cell_at" "_law_cell_at" (top 4) (ga K "_law_cell_at")
  f_len : mg "len" = none
  d__law_names : Def K "_law_names" "_law_names" (top 5) (ga K "_law_names")
  f_range : mg "range" = none
  d__law_leans : Def K "_law_leans" "_law_leans" (top 6) (ga K "_law_leans")
  d__law_ways : Def K "_law_ways" "_law_ways" (top 7) (ga K "_law_ways")
  g__law_names : mg "_law_names" = some (.ref (ga K "_law_names"))
  g__law_cell_at : mg "_law_cell_at" = some (.ref (ga K "_law_cell_at"))
  g__law_leans : mg "_law_leans" = some (.ref (ga K "_law_leans"))
  g_knots_of : mg "knots_of" = some (.ref (ga K "knots_of"))
  f_isinstance : mg "isinstance" = none
  g__law_ways : mg "_law_ways" = some (.ref (ga K "_law_ways"))
abbrev s_led_to : Stmt := top 1
theorem sc_led_to : FnScope n_led_to ["name", "leans"] (defScope s_led_to) := ⟨rfl, rfl, rfl, by decide +kernel, rfl, by decide +kernel, by decide +kernel⟩
theorem ok_led_to {P : Program} {w : World} {K : PySem.W.Frag} {mg : Str → Option Value} {base : Heap} (T : Tx K mg) : Ok P w K mg base 1 (ga K "led_to") ["name", "leans"] (sp_led_to K) := by
  refine ok0 T.d_led_to sc_led_to (fun _ _ _ _ _ _ us hl => match us, hl with | [_, _], _ => rfl) (fun vs H Q E h => ln_led_to h) (fun cdv A outer s H vs Q E hr h => ⟨t_led_to K (fun _ _ _ _ => False), ?_, pure_led_to h⟩)
  have hu := hu_of hr
  have tk := L2.takes0 (X := (cxOf (L2.CX P w) P w K mg base n_led_to "led_to" (defScope s_led_to) (ga K "led_to") cdv A outer s H E).nox)
  exact pss_cons (ps_set (i := 2) sc_led_to.nd rfl (Or.inl rfl) pe_dnewK)
      (pss_cons (ps_set (i := 3) sc_led_to.nd rfl (Or.inl rfl) (pe_callTy call_listL (by rfl) T.f_list (by decide +kernel) (pa_cons (an_dget2 hu (pv 1) (pv 0) (pe_lst pa_nil)) pa_nil)))
      (pss_cons (ps_while PassesOwn.never (pt_cmpR (op_neY hr.units) (pv 3) (pe_lst pa_nil) (nomark _)) (pss_cons (ps_set (i := 4) sc_led_to.nd rfl (Or.inl rfl) (pe_bm0 PySem.F.plainAttrs_list PySem.F.slot_list_pop PySem.F.type_list_pop mt_pop (pv 3)))
      (pss_one (ps_if (pt_cmp (an_dnin hu (pv 4) (pv 2))) (pss_cons (an_dput hu (pv 2) (pv 4) pe_bl)
      (pss_one (ps_expr (pe_bm PySem.F.plainAttrs_list PySem.F.slot_list_extend PySem.F.type_list_extend mt_extend (pv 3) (pa_cons (an_dget2 hu (pv 1) (pv 4) (pe_lst pa_nil)) pa_nil))))) pss_nil))))
      (pss_one (ps_ret (pe_callB cr_sortedS (by rfl) T.f_sorted (by decide +kernel) (pa_cons (pe_callTy (call_list_dK rfl) (by rfl) T.f_list (by decide +kernel) (pa_cons (pv 2) pa_nil)) pa_nil))))))
abbrev s_knots_of : Stmt := top 2
theorem sc_knots_of : FnScope n_knots_of ["names", "leans"] (defScope s_knots_of) := ⟨rfl, rfl, rfl, by decide +kernel, rfl, by decide +kernel, by decide +kernel⟩
theorem ok_knots_of {P : Program} {w : World} {K : PySem.W.Frag} {mg : Str → Option Value} {base : Heap} (T : Tx K mg) (F_led_to : Ok P w K mg base 1 (ga K "led_to") ["name", "leans"] (sp_led_to K)) : Ok P w K mg base 2 (ga K "knots_of") ["names", "leans"] (sp_knots K) := by
  refine ok0 T.d_knots_of sc_knots_of (fun _ _ _ _ _ _ us hl => match us, hl with | [_, _], _ => rfl) (fun vs H Q E h => ln_knots_of h) (fun cdv A outer s H vs Q E hr h => ⟨t_knots_of K (fun _ _ _ _ => False), ?_, pure_knots_of h⟩)
  have hu := hu_of hr
  have tk := L2.takes0 (X := (cxOf (L2.CX P w) P w K mg base n_knots_of "knots_of" (defScope s_knots_of) (ga K "knots_of") cdv A outer s H E).nox)
  exact pss_cons (ps_set (i := 2) sc_knots_of.nd rfl (Or.inl rfl) pe_dnewK)
      (pss_cons (ps_for PassesOwn.never rfl (pi_list (pv 0)) (pg_name (i := 3) sc_knots_of.nd rfl (Or.inr rfl)) (pss_one (an_dput hu (pv 2) (pv 3) (pe_lc (own := [("other", 8)]) (tt := (tTest (tOp (rIn K false) (tVar 8) (tVar 0)))) rfl sc_knots_of.nd (pi_list (an_dget2 hu (pv 1) (pv 3) (pe_lst pa_nil))) (blkOk_by (own := [("other", 8)]) (N := n_knots_of) (sc := defScope s_knots_of) (by decide +kernel)) (fun _ _ _ _ _ => (pg_name (i := 8) sc_knots_of.nd rfl (Or.inl rfl))) (fun _ _ _ _ _ => pts_one (pt_cmpR op_in_seq (pv 8) (pv 0) (by rfl))) (fun _ _ _ _ _ => (pv 8))))))
      (pss_cons (ps_set (i := 4) sc_knots_of.nd rfl (Or.inr rfl) pe_dnewK)
      (pss_cons (ps_for PassesOwn.never rfl (pi_list (pv 0)) (pg_name (i := 3) sc_knots_of.nd rfl (Or.inr rfl)) (pss_one (an_dput hu (pv 4) (pv 3) (an_call F_led_to (hr.mono (by decide)) tk T.g_led_to (pa_cons (pv 3) (pa_cons (pv 2) pa_nil))))))
      (pss_cons (ps_set (i := 5) sc_knots_of.nd rfl (Or.inl rfl) (pe_lst pa_nil))
      (pss_cons (ps_set (i := 6) sc_knots_of.nd rfl (Or.inl rfl) pe_dnewK)
      (pss_cons (ps_for PassesOwn.never rfl (pi_list (pv 0)) (pg_name (i := 3) sc_knots_of.nd rfl (Or.inr rfl)) (pss_cons (ps_if (pt_cmp (an_din hu (pv 3) (pv 6))) (pss_one ps_continue) pss_nil)
      (pss_cons (ps_setLc (i := 7) (own := [("other", 8)]) (tt := (tOr (tTest (tOp rEq (tVar 8) (tVar 3))) (tAnd (tTest (tOp (rIn K false) (tVar 8) (tDg (tVar 4) (tVar 3)))) (tTest (tOp (rIn K false) (tVar 3) (tDg (tVar 4) (tVar 8))))))) rfl sc_knots_of.nd rfl rfl (sw_true rfl rfl rfl (by decide +kernel)) (pi_list (pv 0)) (blkOk_by (own := [("other", 8)]) (N := n_knots_of) (sc := defScope s_knots_of) (by decide +kernel)) (fun _ _ _ _ _ => (pg_name (i := 8) sc_knots_of.nd rfl (Or.inl rfl))) (fun _ _ _ _ _ => pts_one (PW.pt (pw_or (pt_cmpR op_eq (pv 8) (pv 3) (nomark _)) (pw_or1 (PW.pt (pw_and (pt_cmpR op_in_seq (pv 8) (an_dget hu (pv 4) (pv 3)) (by rfl)) (pw_and1 (pt_cmpR op_in_seq (pv 3) (an_dget hu (pv 4) (pv 8)) (by rfl))))))))) (fun _ _ _ _ _ => (pv 8)))
      (pss_cons (ps_for PassesOwn.never rfl (pi_list (pv 7)) (pg_name (i := 8) sc_knots_of.nd rfl (Or.inl rfl)) (pss_one (an_dput hu (pv 6) (pv 8) pe_bl)))
      (pss_one (ps_expr (pe_bm PySem.F.plainAttrs_list PySem.F.slot_list_append PySem.F.type_list_append mt_append (pv 5) (pa_cons (pv 7) pa_nil))))))))
      (pss_one (ps_ret (pv 5)))))))))
abbrev s__law_cell_at : Stmt := top 4
theorem sc__law_cell_at : FnScope n__law_cell_at ["_law_script", "_law_k"] (defScope s__law_cell_at) := ⟨rfl, rfl, rfl, by decide +kernel, rfl, by decide +kernel, by decide +kernel⟩
theorem ok__law_cell_at {P : Program} {w : World} {K : PySem.W.Frag} {mg : Str → Option Value} {base : Heap} (T : Tx K mg) : Ok P w K mg base 1 (ga K "_law_cell_at") ["_law_script", "_law_k"] (sp_cell_at K) := by
  refine ok0 T.d__law_cell_at sc__law_cell_at (fun _ _ _ _ _ _ us hl => match us, hl with | [_, _], _ => rfl) (fun vs H Q E h => ln__law_cell_at h) (fun cdv A outer s H vs Q E hr h => ⟨t__law_cell_at K (fun _ _ _ _ => False), ?_, pure__law_cell_at h⟩)
  have hu := hu_of hr
  have tk := L2.takes0 (X := (cxOf (L2.CX P w) P w K mg base n__law_cell_at "_law_cell_at" (defScope s__law_cell_at) (ga K "_law_cell_at") cdv A outer s H E).nox)
  exact pss_cons (ps_if (pt_cmpR op_lt (pv 1) (pe_callB call_lenL (by rfl) T.f_len (by decide +kernel) (pa_cons (pv 0) pa_nil)) (nomark _)) (pss_one (ps_ret (pe_ix ix_list (pv 0) (pv 1) (fun _ _ => rfl)))) pss_nil)
      (pss_one (ps_ret pe_int))
abbrev s__law_names : Stmt := top 5
theorem sc__law_names : FnScope n__law_names ["_law_cell", "_law_many"] (defScope s__law_names) := ⟨rfl, rfl, rfl, by decide +kernel, rfl, by decide +kernel, by decide +kernel⟩
theorem ok__law_names {P : Program} {w : World} {K : PySem.W.Frag} {mg : Str → Option Value} {base : Heap} (T : Tx K mg) : Ok P w K mg base 1 (ga K "_law_names") ["_law_cell", "_law_many"] sp__law_names := by
  refine ok0 T.d__law_names sc__law_names (fun _ _ _ _ _ _ us hl => match us, hl with | [_, _], _ => rfl) (fun vs H Q E h => ln__law_names h) (fun cdv A outer s H vs Q E hr h => ⟨t__law_names K (fun _ _ _ _ => False), ?_, pure__law_names h⟩)
  have hu := hu_of hr
  have tk := L2.takes0 (X := (cxOf (L2.CX P w) P w K mg base n__law_names "_law_names" (defScope s__law_names) (ga K "_law_names") cdv A outer s H E).nox)
  exact pss_cons (ps_set (i := 2) sc__law_names.nd rfl (Or.inl rfl) pe_str)
      (pss_cons (ps_set (i := 3) sc__law_names.nd rfl (Or.inl rfl) (pe_op op_add pe_int (pe_op op_mod (pv 0) pe_int)))
      (pss_cons (ps_set (i := 4) sc__law_names.nd rfl (Or.inl rfl) (pe_op op_mod (pe_op op_fdivW (pv 0) pe_int) (pv 3)))
      (pss_cons (ps_set (i := 5) sc__law_names.nd rfl (Or.inl rfl) (pe_lst pa_nil))
      (pss_cons (ps_for PassesOwn.never rfl (pi_range1 (by rfl) T.f_range (pa_cons (pv 1) pa_nil)) (pg_name (i := 6) sc__law_names.nd rfl (Or.inl rfl)) (pss_cons (ps_set (i := 7) sc__law_names.nd rfl (Or.inl rfl) pe_str)
      (pss_cons (ps_for PassesOwn.never rfl (pi_range1 (by rfl) T.f_range (pa_cons (pv 3) pa_nil)) (pg_name (i := 8) sc__law_names.nd rfl (Or.inl rfl)) (pss_cons (ps_set (i := 9) sc__law_names.nd rfl (Or.inl rfl) (pe_op op_add (pe_op op_mod (pe_op op_fdivW (pv 0) pe_int) pe_int) (pe_op op_mulX pe_int (pv 8))))
      (pss_cons (ps_if (pt_cmpR op_eq (pv 8) (pv 4) (nomark _)) (pss_one (ps_set (i := 9) sc__law_names.nd rfl (Or.inl rfl) (pe_op op_add (pv 9) (pv 6)))) pss_nil)
      (pss_one (ps_set (i := 7) sc__law_names.nd rfl (Or.inl rfl) (pe_op op_addS (pv 7) (pe_ix ix_str (pv 2) (pe_op op_mod (pv 9) pe_int) (fun _ _ => rfl))))))))
      (pss_one (ps_expr (pe_bm PySem.F.plainAttrs_list PySem.F.slot_list_append PySem.F.type_list_append mt_append (pv 5) (pa_cons (pv 7) pa_nil)))))))
      (pss_one (ps_ret (pv 5)))))))
abbrev s__law_leans : Stmt := top 6
theorem sc__law_leans : FnScope n__law_leans ["_law_cells", "_law_names_here"] (defScope s__law_leans) := ⟨rfl, rfl, rfl, by decide +kernel, rfl, by decide +kernel, by decide +kernel⟩
theorem ok__law_leans {P : Program} {w : World} {K : PySem.W.Frag} {mg : Str → Option Value} {base : Heap} (T : Tx K mg) : Ok P w K mg base 1 (ga K "_law_leans") ["_law_cells", "_law_names_here"] (sp_leans K) := by
  refine ok0 T.d__law_leans sc__law_leans (fun _ _ _ _ _ _ us hl => match us, hl with | [_, _], _ => rfl) (fun vs H Q E h => ln__law_leans h) (fun cdv A outer s H vs Q E hr h => ⟨t__law_leans K (fun _ _ _ _ => False), ?_, pure__law_leans h⟩)
  have hu := hu_of hr
  have tk := L2.takes0 (X := (cxOf (L2.CX P w) P w K mg base n__law_leans "_law_leans" (defScope s__law_leans) (ga K "_law_leans") cdv A outer s H E).nox)
  exact pss_cons (ps_set (i := 2) sc__law_leans.nd rfl (Or.inl rfl) pe_dnewK)
      (pss_cons (ps_for PassesOwn.never rfl (pi_list (pv 0)) (pg_name (i := 3) sc__law_leans.nd rfl (Or.inl rfl)) (pss_cons (ps_set (i := 4) sc__law_leans.nd rfl (Or.inl rfl) (pe_ix ix_list (pv 1) (pe_op op_mod (pv 3) (pe_callB call_lenL (by rfl) T.f_len (by decide +kernel) (pa_cons (pv 1) pa_nil))) (fun _ _ => rfl)))
      (pss_one (an_dput hu (pv 2) (pv 4) (pe_op op_cat (an_dget2 hu (pv 2) (pv 4) (pe_lst pa_nil)) (pe_lst (pa_cons (pe_ix ix_list (pv 1) (pe_op op_mod (pe_op op_fdivW (pv 3) pe_int) (pe_callB call_lenL (by rfl) T.f_len (by decide +kernel) (pa_cons (pv 1) pa_nil))) (fun _ _ => rfl)) pa_nil)))))))
      (pss_one (ps_ret (pv 2))))
abbrev s__law_ways : Stmt := top 7
theorem sc__law_ways : FnScope n__law_ways ["_law_names_here", "_law_leans_here"] (defScope s__law_ways) := ⟨rfl, rfl, rfl, by decide +kernel, rfl, by decide +kernel, by decide +kernel⟩
theorem ok__law_ways {P : Program} {w : World} {K : PySem.W.Frag} {mg : Str → Option Value} {base : Heap} (T : Tx K mg) : Ok P w K mg base 1 (ga K "_law_ways") ["_law_names_here", "_law_leans_here"] (sp_ways K) := by
  refine ok0 T.d__law_ways sc__law_ways (fun _ _ _ _ _ _ us hl => match us, hl with | [_, _], _ => rfl) (fun vs H Q E h => ln__law_ways h) (fun cdv A outer s H vs Q E hr h => ⟨t__law_ways K (fun _ _ _ _ => False), ?_, pure__law_ways h⟩)
  have hu := hu_of hr
  have tk := L2.takes0 (X := (cxOf (L2.CX P w) P w K mg base n__law_ways "_law_ways" (defScope s__law_ways) (ga K "_law_ways") cdv A outer s H E).nox)
  exact pss_cons (ps_set (i := 2) sc__law_ways.nd rfl (Or.inl rfl) pe_dnewK)
      (pss_cons (ps_for PassesOwn.never rfl (pi_list (pv 0)) (pg_name (i := 3) sc__law_ways.nd rfl (Or.inl rfl)) (pss_cons (ps_set (i := 4) sc__law_ways.nd rfl (Or.inl rfl) (pe_lst (pa_cons (pv 3) pa_nil)))
      (pss_cons (ps_set (i := 5) sc__law_ways.nd rfl (Or.inl rfl) pe_int)
      (pss_cons (ps_while PassesOwn.never (pt_cmpR op_lt (pv 5) (pe_callB call_lenL (by rfl) T.f_len (by decide +kernel) (pa_cons (pv 4) pa_nil)) (nomark _)) (pss_cons (ps_for PassesOwn.never rfl (pi_list (an_dget2 hu (pv 1) (pe_ix ix_list (pv 4) (pv 5) (fun _ _ => rfl)) (pe_lst pa_nil))) (pg_name (i := 6) sc__law_ways.nd rfl (Or.inl rfl)) (pss_one (ps_if (PW.pt (pw_and (pt_cmpR op_in_seq (pv 6) (pv 0) (by rfl)) (pw_and1 (pt_cmpR op_notIn_seq (pv 6) (pv 4) (by rfl))))) (pss_one (ps_expr (pe_bm PySem.F.plainAttrs_list PySem.F.slot_list_append PySem.F.type_list_append mt_append (pv 4) (pa_cons (pv 6) pa_nil)))) pss_nil)))
      (pss_one (ps_set (i := 5) sc__law_ways.nd rfl (Or.inl rfl) (pe_op op_add (pv 5) pe_int)))))
      (pss_one (an_dput hu (pv 2) (pv 3) (pv 4)))))))
      (pss_one (ps_ret (pv 2))))
abbrev s_law : Stmt := top 8
theorem sc_law : FnScope n_law ["_law_script"] (defScope s_law) := ⟨rfl, rfl, rfl, by decide +kernel, rfl, by decide +kernel, by decide +kernel⟩
theorem ok_law {P : Program} {w : World} {K : PySem.W.Frag} {mg : Str → Option Value} {base : Heap} (T : Tx K mg) (F__law_cell_at : Ok P w K mg base 1 (ga K "_law_cell_at") ["_law_script", "_law_k"] (sp_cell_at K)) (F__law_names : Ok P w K mg base 1 (ga K "_law_names") ["_law_cell", "_law_many"] sp__law_names) (F__law_leans : Ok P w K mg base 1 (ga K "_law_leans") ["_law_cells", "_law_names_here"] (sp_leans K)) (F_knots_of : Ok P w K mg base 2 (ga K "knots_of") ["names", "leans"] (sp_knots K)) (F__law_ways : Ok P w K mg base 1 (ga K "_law_ways") ["_law_names_here", "_law_leans_here"] (sp_ways K)) : Ok P w K mg base 3 (ga K "law") ["_law_script"] (sp_law K) := by
  refine ok0 T.d_law sc_law (fun _ _ _ _ _ _ us hl => match us, hl with | [_], _ => rfl) (fun vs H Q E h => ln_law h) (fun cdv A outer s H vs Q E hr h => ⟨t_law K (fun _ _ _ _ => False), ?_, pure_law h⟩)
  have hu := hu_of hr
  have tk := L2.takes0 (X := (cxOf (L2.CX P w) P w K mg base n_law "law" (defScope s_law) (ga K "law") cdv A outer s H E).nox)
  exact pss_cons (ps_set (i := 1) sc_law.nd rfl (Or.inl rfl) (an_call F__law_names (hr.mono (by decide)) tk T.g__law_names (pa_cons (an_call F__law_cell_at (hr.mono (by decide)) tk T.g__law_cell_at (pa_cons (pv 0) (pa_cons pe_int pa_nil))) (pa_cons (pe_op op_add pe_int (pe_op op_mod (an_call F__law_cell_at (hr.mono (by decide)) tk T.g__law_cell_at (pa_cons (pv 0) (pa_cons pe_int pa_nil))) pe_int)) pa_nil))))
      (pss_cons (ps_set (i := 2) sc_law.nd rfl (Or.inl rfl) (an_call F__law_leans (hr.mono (by decide)) tk T.g__law_leans (pa_cons (pe_slice sl_list (pv 0) (po_some pe_int) po_none) (pa_cons (pe_op op_cat (pv 1) (pe_lst (pa_cons pe_str pa_nil))) pa_nil))))
      (pss_cons (ps_set (i := 3) sc_law.nd rfl (Or.inl rfl) (pe_op op_mod (an_call F__law_cell_at (hr.mono (by decide)) tk T.g__law_cell_at (pa_cons (pv 0) (pa_cons pe_int pa_nil))) pe_int))
      (pss_cons (ps_if (pt_cmpR op_eq (pv 3) pe_int (nomark _)) (pss_one (ps_set (i := 1) sc_law.nd rfl (Or.inl rfl) (an_slice3 (pv 1) po_none po_none (po_some (pe_un un_neg pe_int))))) pss_nil)
      (pss_cons (ps_if (pt_cmpR op_eq (pv 3) pe_int (nomark _)) (pss_one (ps_set (i := 1) sc_law.nd rfl (Or.inl rfl) (pe_slice sl_list (pv 1) (po_some pe_int) po_none))) pss_nil)
      (pss_cons (ps_if (pt_cmpR op_eq (pv 3) pe_int (nomark _)) (pss_one (ps_set (i := 1) sc_law.nd rfl (Or.inl rfl) (pe_op op_cat (an_slice3 (pv 1) (po_some pe_int) po_none (po_some pe_int)) (an_slice3 (pv 1) po_none po_none (po_some pe_int))))) pss_nil)
      (pss_cons (ps_set (i := 4) sc_law.nd rfl (Or.inl rfl) pe_dnewK)
      (pss_cons (ps_lock (ps_for PassesOwn.never rfl (pi_keys (pv 2)) (pg_name (i := 5) sc_law.nd rfl (Or.inr rfl)) (pss_one (an_dput hu (pv 4) (pv 5) (pe_callTy call_listL (by rfl) T.f_list (by decide +kernel) (pa_cons (an_dget hu (pv 2) (pv 5)) pa_nil))))))
      (pss_cons (ps_set (i := 6) sc_law.nd rfl (Or.inl rfl) (pe_callTy call_listL (by rfl) T.f_list (by decide +kernel) (pa_cons (pv 1) pa_nil)))
      (pss_cons (ps_set (i := 7) sc_law.nd rfl (Or.inl rfl) (an_call F_knots_of (hr.mono (by decide)) tk T.g_knots_of (pa_cons (pv 6) (pa_cons (pv 4) pa_nil))))
      (pss_cons (ps_if (PW.pt (pw_or (pt_cmpR (op_neY hr.units) (pv 6) (pv 1) (nomark _)) (pw_or (pt_cmpR (op_neDL hr.units) (pv 4) (pv 2) (nomark _)) (pw_or1 (pt_not (pt_val (pe_callB call_isi (by rfl) T.f_isinstance (by decide +kernel) (pa_cons (pv 7) (pa_cons (pe_bltn (by rfl) T.f_list (by decide +kernel) rfl) pa_nil))))))))) (pss_one (ps_ret pe_bl)) pss_nil)
      (pss_cons (ps_set (i := 8) sc_law.nd rfl (Or.inr rfl) (an_call F__law_ways (hr.mono (by decide)) tk T.g__law_ways (pa_cons (pv 1) (pa_cons (pv 2) pa_nil))))
      (pss_cons (ps_set (i := 9) sc_law.nd rfl (Or.inl rfl) (pe_lst pa_nil))
      (pss_cons (ps_for PassesOwn.never rfl (pi_list (pv 1)) (pg_name (i := 5) sc_law.nd rfl (Or.inr rfl)) (pss_cons (ps_setLc (i := 10) (own := [("_law_other", 11)]) (tt := (tAnd (tTest (tOp (rIn K false) (tVar 11) (tDg (tVar 8) (tVar 5)))) (tTest (tOp (rIn K false) (tVar 5) (tDg (tVar 8) (tVar 11)))))) rfl sc_law.nd rfl rfl (sw_true rfl rfl rfl (by decide +kernel)) (pi_list (pv 1)) (blkOk_by (own := [("_law_other", 11)]) (N := n_law) (sc := defScope s_law) (by decide +kernel)) (fun _ _ _ _ _ => (pg_name (i := 11) sc_law.nd rfl (Or.inl rfl))) (fun _ _ _ _ _ => pts_one (PW.pt (pw_and (pt_cmpR op_in_seq (pv 11) (an_dget hu (pv 8) (pv 5)) (by rfl)) (pw_and1 (pt_cmpR op_in_seq (pv 5) (an_dget hu (pv 8) (pv 11)) (by rfl)))))) (fun _ _ _ _ _ => (pv 11)))
      (pss_one (ps_if (pt_cmpR (op_ninY hr.units) (pv 10) (pv 9) (by rfl)) (pss_one (ps_expr (pe_bm PySem.F.plainAttrs_list PySem.F.slot_list_append PySem.F.type_list_append mt_append (pv 9) (pa_cons (pv 10) pa_nil)))) pss_nil))))
      (pss_one (ps_ret (pe_cmpR (op_eqY hr.units) (pv 7) (pv 9) (nomark _)))))))))))))))))

def fn : List He.DefD := [⟨("law", none), "law", "law", defArgs (top 8), defBody (top 8), defScope (top 8), [], []⟩, ⟨("led_to", none), "led_to", "led_to", defArgs (top 1), defBody (top 1), defScope (top 1), [], []⟩, ⟨("knots_of", none), "knots_of", "knots_of", defArgs (top 2), defBody (top 2), defScope (top 2), [], []⟩, ⟨("_law_cell_at", none), "_law_cell_at", "_law_cell_at", defArgs (top 4), defBody (top 4), defScope (top 4), [], []⟩, ⟨("_law_names", none), "_law_names", "_law_names", defArgs (top 5), defBody (top 5), defScope (top 5), [], []⟩, ⟨("_law_leans", none), "_law_leans", "_law_leans", defArgs (top 6), defBody (top 6), defScope (top 6), [], []⟩, ⟨("_law_ways", none), "_law_ways", "_law_ways", defArgs (top 7), defBody (top 7), defScope (top 7), [], []⟩]
def fa : List He.Fa := [.glo "law", .free "list", .free "sorted", .glo "led_to", .free "len", .free "range", .glo "_law_names", .glo "_law_cell_at", .glo "_law_leans", .glo "knots_of", .free "isinstance", .glo "_law_ways"]
abbrev rowO : PySem.W.OpenRow := PySem.W.OpenLaw.row PySem.Challenge.rw_anewhall_k07_knots_of_names
abbrev hk : PySem.W.Hook := He.hookD 4 fa fn
def obT (s : PySem.W.SharedT) : He.AlD := He.obsDG 4 fa fn (HandSHeadRun.getT s)
theorem obT_eq (s : PySem.W.SharedT) : obT s = hk.obs s.abs := He.obsDG_eq (HandSHeadRun.getT_eq s)
theorem head_run (w : World) : HandSHeadRun.RunEq rowO (PySem.W.view rowO.prog [8]) hk obT 1000 ["led_to", "knots_of", "_law_cell_at", "_law_names", "_law_leans", "_law_ways"] w := by
  intro os
  kernel_rfl
theorem tx {K : PySem.W.Frag} {h : Heap} {mg : Str → Option Value} (X : K.In h) (G : h.Ns mainGlobals mg) (c : He.SaysD fa fn K) : Tx K mg where
  d_law := c.def_ 0 (d := He.DefD.mk ("law", none) "law" "law" (defArgs (top 8)) (defBody (top 8)) (defScope (top 8)) [] []) rfl
  g_law := He.glo_ok X G (c.fact 0 (f := .glo "law") rfl)
  d_led_to := c.def_ 1 (d := He.DefD.mk ("led_to", none) "led_to" "led_to" (defArgs (top 1)) (defBody (top 1)) (defScope (top 1)) [] []) rfl
  f_list := He.free_ok X G (c.fact 1 (f := .free "list") rfl)
  f_sorted := He.free_ok X G (c.fact 2 (f := .free "sorted") rfl)
  d_knots_of := c.def_ 2 (d := He.DefD.mk ("knots_of", none) "knots_of" "knots_of" (defArgs (top 2)) (defBody (top 2)) (defScope (top 2)) [] []) rfl
  g_led_to := He.glo_ok X G (c.fact 3 (f := .glo "led_to") rfl)
  d__law_cell_at := c.def_ 3 (d := He.DefD.mk ("_law_cell_at", none) "_law_cell_at" "_law_cell_at" (defArgs (top 4)) (defBody (top 4)) (defScope (top 4)) [] []) rfl
  f_len := He.free_ok X G (c.fact 4 (f := .free "len") rfl)
  d__law_names := c.def_ 4 (d := He.DefD.mk ("_law_names", none) "_law_names" "_law_names" (defArgs (top 5)) (defBody (top 5)) (defScope (top 5)) [] []) rfl
  f_range := He.free_ok X G (c.fact 5 (f := .free "range") rfl)
  d__law_leans := c.def_ 5 (d := He.DefD.mk ("_law_leans", none) "_law_leans" "_law_leans" (defArgs (top 6)) (defBody (top 6)) (defScope (top 6)) [] []) rfl
  d__law_ways := c.def_ 6 (d := He.DefD.mk ("_law_ways", none) "_law_ways" "_law_ways" (defArgs (top 7)) (defBody (top 7)) (defScope (top 7)) [] []) rfl
  g__law_names := He.glo_ok X G (c.fact 6 (f := .glo "_law_names") rfl)
  g__law_cell_at := He.glo_ok X G (c.fact 7 (f := .glo "_law_cell_at") rfl)
  g__law_leans := He.glo_ok X G (c.fact 8 (f := .glo "_law_leans") rfl)
  g_knots_of := He.glo_ok X G (c.fact 9 (f := .glo "knots_of") rfl)
  f_isinstance := He.free_ok X G (c.fact 10 (f := .free "isinstance") rfl)
  g__law_ways := He.glo_ok X G (c.fact 11 (f := .glo "_law_ways") rfl)
theorem law_ok {P : Program} {w : World} {K : PySem.W.Frag} {mg : Str → Option Value} {base : Heap} (T : Tx K mg) : Ok P w K mg base 3 (ga K "law") ["_law_script"] (sp_law K) := by
  have F_led_to : Ok P w K mg base 1 (ga K "led_to") ["name", "leans"] (sp_led_to K) := ok_led_to T
  have F_knots_of : Ok P w K mg base 2 (ga K "knots_of") ["names", "leans"] (sp_knots K) := ok_knots_of T F_led_to
  have F__law_cell_at : Ok P w K mg base 1 (ga K "_law_cell_at") ["_law_script", "_law_k"] (sp_cell_at K) := ok__law_cell_at T
  have F__law_names : Ok P w K mg base 1 (ga K "_law_names") ["_law_cell", "_law_many"] sp__law_names := ok__law_names T
  have F__law_leans : Ok P w K mg base 1 (ga K "_law_leans") ["_law_cells", "_law_names_here"] (sp_leans K) := ok__law_leans T
  have F__law_ways : Ok P w K mg base 1 (ga K "_law_ways") ["_law_names_here", "_law_leans_here"] (sp_ways K) := ok__law_ways T
  have F_law : Ok P w K mg base 3 (ga K "law") ["_law_script"] (sp_law K) := ok_law T F__law_cell_at F__law_names F__law_leans F_knots_of F__law_ways
  exact F_law
theorem law_at {P : Program} {w : World} {K : PySem.W.Frag} {mg : Str → Option Value} (T : Tx K mg) : ∃ fd : FuncData, (∀ base : Heap, FnOk P w K mg base (L2.CX P w) 3 (ga K "law") fd ["_law_script"] (sp_law K)) ∧ ∀ (s : Shared) (u : Value), BindsTo s fd ⟨[u], []⟩ [("_law_script", u)] :=
  ok_law_at T.d_law (fun _ _ _ _ _ _ us hl => match us, hl with | [_], _ => rfl) rfl fun base => law_ok T
end L2.An
open PySem PySem.W PySem.Calls PyProof.Rows
theorem PySem.Challenge.cw_anewhall_k07_knots_of_names_holds : PySem.Challenge.rw_anewhall_k07_knots_of_names.Holds := by
  w_on; o_law
  refine HandSHeadRun.head_any (r := OpenLaw.row PySem.Challenge.rw_anewhall_k07_knots_of_names) (q := view (OpenLaw.row PySem.Challenge.rw_anewhall_k07_knots_of_names).prog [8]) (H := L2.An.hk) (ob := L2.An.obT) (M := 1000) (loose := ["led_to", "knots_of", "_law_cell_at", "_law_names", "_law_leans", "_law_ways"]) (d := HandSHeadRun.topDef (OpenLaw.row PySem.Challenge.rw_anewhall_k07_knots_of_names).prog 8) (kwd := []) L2.An.obT_eq
    (by kernel_rfl) (fun s => by kernel_rfl) L2.An.head_run (by kernel_rfl) (by kernel_rfl) (by kernel_rfl) (by rfl) (by first | assumption | decide +kernel) (by decide +kernel) ⟨rfl, rfl, rfl, rfl, rfl, by decide +kernel⟩ ?hw ?hc
  case hw => w_witness2
  case hc =>
    refine LamX.walk_ofTsE (l := PySem.Challenge.rw_anewhall_k07_knots_of_names) (n := 63) (k := 3) (x := "_law_script") (CX := fun w => L2.CX (PySem.Challenge.rw_anewhall_k07_knots_of_names).prog w) rfl (by decide) (by kernel_rfl) ⟨rfl, by decide, by decide⟩ ?F (fun w H s e s' z => L2.An.cx_never z)
    intro w mg fa h Y G hmg0
    obtain ⟨K, KX, c⟩ := Y
    have hmg : mg ("law" : PySem.Str) = some (.ref fa) := by
      have e : (HandSHeadRun.topDef (OpenLaw.row PySem.Challenge.rw_anewhall_k07_knots_of_names).prog 8).name = ("law" : PySem.Str) := by kernel_rfl
      rw [← e]
      exact hmg0
    have T := L2.An.tx KX G c
    have e := hmg.symm.trans T.g_law
    cases e
    obtain ⟨fd, hF, hb⟩ := L2.An.law_at (P := (PySem.Challenge.rw_anewhall_k07_knots_of_names).prog) (w := w) T
    refine ⟨K, KX, fd, [], L2.An.sp_law K, ?_, ?_, ?_, hb, fun H a ns hl _ _ hS => L2.An.sp_law_of hS hl, fun base _ _ _ => hF base⟩ <;> exact fun _ h => nomatch h
