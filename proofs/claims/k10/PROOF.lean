import PyProof.Rows.All
import Wide.All
import OpenK.AllK
import Wide.FinOn
import HandS.ForMost
import HandS.Conv
import KE.Datum
import HandS.DeepEq
import HandS.Exc
import HandS.ExcOwn
import HandS.TryOnly
import HandS.TryMany
import HandS.WordsExc
import HandS.IsInst
import HandS.Wide
import HandS.Nested
import HandS.HeadHook4
import HandS.HeadWalk
import HandS.Head0
import HandS.Head1
import HandS.Head2
import HandS.HeadEnd
import HandS.Steps
import HandS.CallRecv
import PySem.Challenge.RW_anewhall_k10_wells_and_noughts
set_option Elab.async false
set_option linter.all false
set_option maxRecDepth 100000
set_option maxHeartbeats 4000000
/-! ## the layer of this proof: a def's promise by one word, readings by named steps -/
namespace L2.An
open PySem PySem.Spec PyProof.Rows

/-! ### defs -/
section
variable (P : Program) (w : World) (K : PySem.W.Frag) (mg : Str → Option Value) (base : Heap)
/-- the def at f keeps the promise -/
def Ok (k : Nat) (f : Addr) (ps : List Str) (sp : Sp) : Prop :=
  ∃ fd, FnOk P w K mg base (L2.CX P w) k f fd ps sp ∧ Binds K fd ps [] ∧ PySem.W.keepIn K (.ref f) = true ∧ ∃ oc od osl, K.lookup f = some ⟨oc, od, .func fd, osl⟩
end
section
variable {P : Program} {w : World} {K : PySem.W.Frag} {mg : Str → Option Value} {base : Heap} {k j : Nat} {f : Addr} {ps : List Str} {sp sp' : Sp}
theorem Ok.mono (o : Ok P w K mg base j f ps sp) (h : j ≤ k) : Ok P w K mg base k f ps sp := let ⟨fd, F, b, kp⟩ := o; ⟨fd, F.mono h, b, kp⟩
theorem Ok.imp (o : Ok P w K mg base k f ps sp) (h : ∀ vs H Q E, sp' vs H Q E → sp vs H Q E) : Ok P w K mg base k f ps sp' := let ⟨fd, F, b, kp⟩ := o; ⟨fd, F.imp h, b, kp⟩
/-- a def of the text as the head tells it -/
abbrev Def (K : PySem.W.Frag) (x qual : Str) (st : Stmt) (f : Addr) : Prop := ∃ fd, FunD K x qual (defArgs st) (defBody st) (defScope st) [] [] f fd
theorem def_lk {x qual : Str} {st : Stmt} {fd : FuncData} (F : FunD K x qual (defArgs st) (defBody st) (defScope st) [] [] f fd) : ∃ oc od osl, K.lookup f = some ⟨oc, od, .func fd, osl⟩ := by
  obtain ⟨oc, od, dV, kV, doc, pm, an, cdv, ct, osl, e, lk, _⟩ := F.ex
  exact ⟨oc, od, osl, e ▸ lk⟩
theorem ok_law_at {x qual : Str} {st : Stmt} (D : Def K x qual st f)
    (hb : ∀ (kV doc pm : Value) (an : Option Addr) (cdv ct : Value) (us : List Value), us.length = ps.length → bindArgs (PySem.W.fnOf x qual (defArgs st) (defBody st) (defScope st) .none kV doc pm an cdv ct) ⟨us, []⟩ = pure (ps.zip us))
    (hl : ps.length = 1) (F : ∀ base : Heap, Ok P w K mg base k f ps sp) : ∃ fd : FuncData, (∀ base : Heap, FnOk P w K mg base (L2.CX P w) k f fd ps sp) ∧ ∀ (s : Shared) (u : Value), BindsTo s fd ⟨[u], []⟩ (ps.zip [u]) := by
  obtain ⟨fd, D⟩ := D
  obtain ⟨oc, od, osl, lk⟩ := def_lk D
  refine ⟨fd, fun base => ?_, fun s u => FunD.bindsA D hb s [u] hl.symm⟩
  obtain ⟨fd2, F2, _, _, oc2, od2, osl2, lk2⟩ := F base
  rw [lk] at lk2
  cases lk2
  exact F2
theorem cx_never {P : Program} {w : World} {o : List Env} {H : Hp} {s s' : Shared} {u : Value} (z : L2.CX P w o H s (fun _ _ _ => False) u s') : False := by
  obtain ⟨_, _, _, _, _, _, _, _, _, _, _, _, z⟩ := z
  exact z
/-- a def that lets nothing out -/
theorem ok0 {x qual : Str} {st : Stmt} {N : List Str} (D : Def K x qual st f) (S : FnScope N ps (defScope st))
    (hb : ∀ (kV doc pm : Value) (an : Option Addr) (cdv ct : Value) (us : List Value), us.length = ps.length → bindArgs (PySem.W.fnOf x qual (defArgs st) (defBody st) (defScope st) .none kV doc pm an cdv ct) ⟨us, []⟩ = pure (ps.zip us))
    (len : ∀ vs H Q E, sp vs H Q E → vs.length = ps.length)
    (hbody : ∀ (cdv : Value) (A : Around) (outer : List Env) (s : Shared) (H : Hp) (vs : List V) (Q : VK) (E : XK), Room k (A.deeper (envOfC qual (defScope st) s.heap.objs.size f cdv)) → sp vs H Q E →
      ∃ t, PSs (cxOf (L2.CX P w) P w K mg base N qual (defScope st) f cdv A outer s H E).nox (defBody st) t ∧ t { nx := fun _ H' => Q .non H', rt := Q } (start N vs) H) : Ok P w K mg base (k + 1) f ps sp := by
  obtain ⟨fd, F⟩ := D
  refine ⟨fd, F.ok S len fun cdv A outer s H vs Q E hr h => ?_, FunD.bindsN F hb, F.kp, def_lk F⟩
  obtain ⟨t, ht, q⟩ := hbody cdv A outer s H vs Q E hr h
  exact ⟨t, ht.nox, q⟩
end

/-! ### calls of defs: the promise, what is let out by W -/
def tCW (sp : Sp) (W : WX) (t : TA) : TE := fun σ H Q => t σ H fun vs H1 => sp vs H1 Q (fun cls d H' => W cls d σ H')
section
variable {X : Cx} {W : WX} {k : Nat} {f : Addr} {ps : List Str} {sp : Sp} {x : Str} {p pos : Pos} {e : Expr} {es : List Expr} {t : TA}
theorem an_call (F : Ok X.prog X.w X.K X.mg X.base k f ps sp) (hr : Room k X.A) (tk : Takes X W) (hm : X.mg x = some (.ref f)) (ha : PA X (e :: es) t) (hg : Gl X x := by rfl)
    (hdb : (x == ("__debug__" : Str)) = false := by decide) (he : starEach (e :: es) X.env = (false, eval e X.env) :: starEach es X.env := by rfl) (hpl : (backTo pos (starEach es X.env)).any (·.1) = false := by rfl) :
    PE X (.Call (.Name x p) (e :: es) [] pos) (tCW sp W t) := by
  obtain ⟨fd, F, b, kp, _⟩ := F
  exact pe_callS (E := WE W) F hr hg hm kp b (passAt tk) ha hdb he hpl
end

def skv (l : List (Str × V)) : List (Key × V) := l.map fun p => (Sum.inr p.1, p.2)
abbrev dS (l : List (Str × V)) : HO := .dK (skv l)
/-! ### expressions: steps -/
section
variable {σ : St} {H : Hp} {Q : VK} {i : Nat} {v x y : V} {ta tb te : TE} {r : R2} {K : PySem.W.Frag}
theorem e_var (h : σ[i]? = some (some v)) (q : Q v H) : tVar i σ H Q := ⟨v, h, q⟩
theorem e_c (q : Q v H) : tC v σ H Q := q
theorem e_op (h : ta σ H fun x H1 => tb σ H1 fun y H2 => r x y H2 Q) : tOp r ta tb σ H Q := h
theorem e_un {r : V → Hp → VK → Prop} (h : ta σ H fun x H1 => r x H1 Q) : tUn r ta σ H Q := h
theorem e_I0 {g : Int → Int → V} {a b : Int} (q : Q (g a b) H) : rI0 g (.int a) (.int b) H Q := ⟨a, b, rfl, rfl, q⟩
theorem e_I {C : Int → Int → Prop} {g : Int → Int → V} {a b : Int} (c : C a b) (q : Q (g a b) H) : rI C g (.int a) (.int b) H Q := ⟨a, b, rfl, rfl, c, q⟩
theorem e_eqI {a b : Int} (q : Q (.bl (decide (a = b))) H) : rEq (.int a) (.int b) H Q := ⟨rfl, by
  rw [show decide (V.int a = V.int b) = decide (a = b) from decide_eq_decide.mpr ⟨fun e => V.int.inj e, fun e => congrArg _ e⟩]
  exact q⟩
theorem e_neI {a b : Int} (q : Q (.bl (!decide (a = b))) H) : rNe (.int a) (.int b) H Q := ⟨rfl, by
  rw [show decide (V.int a = V.int b) = decide (a = b) from decide_eq_decide.mpr ⟨fun e => V.int.inj e, fun e => congrArg _ e⟩]
  exact q⟩
theorem e_eqS {a b : Str} (q : Q (.bl (decide (a = b))) H) : rEq (.str a) (.str b) H Q := ⟨rfl, by
  rw [show decide (V.str a = V.str b) = decide (a = b) from decide_eq_decide.mpr ⟨fun e => V.str.inj e, fun e => congrArg _ e⟩]
  exact q⟩
theorem e_neS {a b : Str} (q : Q (.bl (!decide (a = b))) H) : rNe (.str a) (.str b) H Q := ⟨rfl, by
  rw [show decide (V.str a = V.str b) = decide (a = b) from decide_eq_decide.mpr ⟨fun e => V.str.inj e, fun e => congrArg _ e⟩]
  exact q⟩
theorem e_pn {e : TE} {tr : TA} {Q : List V → Hp → Prop} (h : e σ H fun x H1 => tr σ H1 fun xs H2 => Q (x :: xs) H2) : tCons e tr σ H Q := h
theorem e_p0 {Q : List V → Hp → Prop} (h : Q [] H) : tNil σ H Q := h
theorem e_cb {r : List V → Hp → VK → Prop} {t : TA} (h : t σ H fun vs H1 => r vs H1 Q) : tCB r t σ H Q := h
theorem e_cw {sp : Sp} {W : WX} {t : TA} (h : t σ H fun vs H1 => sp vs H1 Q (fun cls d H' => W cls d σ H')) : tCW sp W t σ H Q := h
theorem e_lst {t : TA} (h : t σ H fun xs H1 => xs.length ≤ sizeLine ∧ ∀ p, H1 p = none → Q (.ref p) (upd H1 p (.lst xs))) : tLst t σ H Q := h
theorem e_sz {xs : List V} {P : Prop} (h : Nat.ble xs.length sizeLine = true) (q : P) : xs.length ≤ sizeLine ∧ P := ⟨Nat.le_of_ble_eq_true h, q⟩
theorem e_tup {t : TA} (h : t σ H fun xs H1 => xs.length ≤ sizeLine ∧ ∀ p, H1 p = none → Q (.ref p) (upd H1 p (.tup xs))) : tTup t σ H Q := h
theorem e_bm {T : String} {r : V → List V → Hp → VK → Prop} {t : TA} (h : ta σ H fun x H1 => tyV K T x H1 ∧ t σ H1 fun xs H2 => r x xs H2 Q) : tBM K T r ta t σ H Q := h
theorem e_bm0 {T : String} {r : V → List V → Hp → VK → Prop} (h : ta σ H fun x H1 => tyV K T x H1 ∧ r x [] H1 Q) : tBM0 K T r ta σ H Q := h
theorem e_if {t : TT} (h : t σ H fun c H1 => if c = true then ta σ H1 Q else tb σ H1 Q) : tIf t ta tb σ H Q := h
end
/-! tests -/
section
variable {σ : St} {H : Hp} {Q : Bool → Hp → Prop} {t u : TT} {te : TE}
theorem e_tst (h : te σ H fun x H' => ∃ k, x = .bl k ∧ Q k H') : tTest te σ H Q := h
theorem e_tB (h : te σ H fun x H' => ∃ k, x = .bl k ∧ Q k H') : tB te σ H Q := h
theorem e_bk {k : Bool} {Q : Bool → Prop} (q : Q k) : ∃ k', V.bl k = .bl k' ∧ Q k' := ⟨k, rfl, q⟩
theorem e_and (h : t σ H fun c H1 => if c = true then u σ H1 Q else Q false H1) : tAnd t u σ H Q := h
theorem e_or (h : t σ H fun c H1 => if c = true then Q true H1 else u σ H1 Q) : tOr t u σ H Q := h
theorem e_not (h : t σ H fun c H1 => Q (!c) H1) : tNot t σ H Q := h
theorem ifd {p A B : Prop} [Decidable p] (h1 : p → A) (h2 : ¬ p → B) : if decide p = true then A else B := by
  by_cases h : p
  · rw [if_pos (decide_eq_true h)]
    exact h1 h
  · rw [if_neg (by rw [decide_eq_false h]; exact Bool.false_ne_true)]
    exact h2 h
theorem ifn {p A B : Prop} [Decidable p] (h1 : ¬ p → A) (h2 : p → B) : if (!decide p) = true then A else B := by
  by_cases h : p
  · rw [decide_eq_true h]
    exact iteF (h2 h)
  · rw [decide_eq_false h]
    exact iteT (h1 h)
theorem ifb {b : Bool} {A B : Prop} (h1 : b = true → A) (h2 : b = false → B) : if b = true then A else B := by
  cases b with
  | true => exact iteT (h1 rfl)
  | false => exact iteF (h2 rfl)
theorem ifnb {b : Bool} {A B : Prop} (h1 : b = false → A) (h2 : b = true → B) : if (!b) = true then A else B := by
  cases b with
  | true => exact iteF (h2 rfl)
  | false => exact iteT (h1 rfl)
end
/-- a for's word, named -/
def kFor (J : It) (g : TG) (tb : TS) (D : Ends) (σ : St) (H : Hp) : Prop := ∃ W : Nat → Nat → St → Hp → Prop, (∃ m, W 0 m σ H) ∧ ∀ i m σ H, W i m σ H →
  (J.stop i H ∧ D.nx σ H) ∨ (J.go i H ∧ ∃ N : St → Hp → Prop, (∀ σ' H', N σ' H' → ∃ m', m' < m ∧ W (i + 1) m' σ' H') ∧ ∀ x H', J.yld i H x H' → g x σ H' fun σ2 H2 => tb { D with nx := N, ct := N, bk := D.nx } σ2 H2)
def kIL (K : PySem.W.Frag) (x : V) (H : Hp) (R : It → Hp → Prop) : Prop := ∃ a, x = .ref a ∧ (∃ xs, SqL K H a xs) ∧ R (Itl K a) H
def kIU (K : PySem.W.Frag) (x : V) (H : Hp) (R : It → Hp → Prop) : Prop := ∃ a, x = .ref a ∧ (∃ xs, SqT K H a xs) ∧ R (Itt K a) H
def kIR (vs : List V) (H : Hp) (R : It → Hp → Prop) : Prop := ∃ j : Int, vs = [.int j] ∧ -(2 ^ 62) ≤ j ∧ j < 2 ^ 62 ∧ R (Itr 0 j.toNat) H
def kIS (x : V) (H : Hp) (R : It → Hp → Prop) : Prop := ∃ z, x = .str z ∧ R (Its z) H
def kIK (x : V) (H : Hp) (R : It → Hp → Prop) : Prop := ∃ d o, x = .ref d ∧ ((∃ kvs, H d = some (.frz o (.dK kvs)) ∧ R (Itk d o kvs) H) ∨ ∃ kvs, H d = some (.frz o (.dT kvs)) ∧ R (Itkt d o kvs) H)
def kLock (t : TS) (D : Ends) (σ : St) (H : Hp) : Prop := ∃ d u, H d = some u ∧ Mut (some u) ∧ ∀ od, t ⟨fun σ' H' => H' d = some (.frz od u) ∧ D.nx σ' (upd H' d u), fun v H' => H' d = some (.frz od u) ∧ D.rt v (upd H' d u), fun σ' H' => H' d = some (.frz od u) ∧ D.bk σ' (upd H' d u), fun σ' H' => H' d = some (.frz od u) ∧ D.ct σ' (upd H' d u)⟩ σ (upd H d (.frz od u))
/-! ### statements: steps -/
section
variable {D : Ends} {t u : TS} {σ : St} {H : Hp} {te ta : TE} {i : Nat}
theorem st_seq (h : t ⟨u D, D.rt, D.bk, D.ct⟩ σ H) : tSeq t u D σ H := h
theorem st_nx {N : St → Hp → Prop} {R : VK} {B C : St → Hp → Prop} (h : N σ H) : Ends.nx ⟨N, R, B, C⟩ σ H := h
theorem st_rt {N : St → Hp → Prop} {R : VK} {B C : St → Hp → Prop} {v : V} (h : R v H) : Ends.rt ⟨N, R, B, C⟩ v H := h
theorem st_bk {N : St → Hp → Prop} {R : VK} {B C : St → Hp → Prop} (h : B σ H) : Ends.bk ⟨N, R, B, C⟩ σ H := h
theorem st_ct {N : St → Hp → Prop} {R : VK} {B C : St → Hp → Prop} (h : C σ H) : Ends.ct ⟨N, R, B, C⟩ σ H := h
theorem st_while {c : TT} {tb : TS} (W : Nat → St → Hp → Prop) (m0 : Nat) (h0 : W m0 σ H) (hs : ∀ m σ H, W m σ H → c σ H fun b H1 => if b = true then ∃ N : St → Hp → Prop, (∀ σ' H', N σ' H' → ∃ m', m' < m ∧ W m' σ' H') ∧ tb { D with nx := N, ct := N, bk := D.nx } σ H1 else D.nx σ H1) : tWhile c tb D σ H :=
  ⟨W, ⟨m0, h0⟩, hs⟩
theorem st_wt {tb : TS} {W : Nat → St → Hp → Prop} {m : Nat} {R : VK} {B : St → Hp → Prop} (h : tb ⟨fun σ' H' => ∃ m', m' < m ∧ W m' σ' H', R, B, fun σ' H' => ∃ m', m' < m ∧ W m' σ' H'⟩ σ H) : ∃ N : St → Hp → Prop, (∀ σ' H', N σ' H' → ∃ m', m' < m ∧ W m' σ' H') ∧ tb ⟨N, R, B, N⟩ σ H := ⟨_, fun _ _ z => z, h⟩
theorem st_for {wi : TI} {g : TG} {tb : TS} (h : wi σ H fun J H1 => kFor J g tb D σ H1) : tFor wi g tb D σ H := h
theorem st_iL {K : PySem.W.Frag} {R : It → Hp → Prop} (h : te σ H fun x H1 => kIL K x H1 R) : iList K te σ H R := h
theorem st_iU {K : PySem.W.Frag} {R : It → Hp → Prop} (h : te σ H fun x H1 => kIU K x H1 R) : iTup K te σ H R := h
theorem st_iR1 {ta : TA} {R : It → Hp → Prop} (h : ta σ H fun vs H1 => kIR vs H1 R) : iRng1 ta σ H R := h
theorem st_iS {R : It → Hp → Prop} (h : te σ H fun v H1 => kIS v H1 R) : iStr te σ H R := h
theorem st_iK {R : It → Hp → Prop} (h : te σ H fun x H1 => kIK x H1 R) : iKeys te σ H R := h
/-- for over a list: the invariant, the list, the start, the list stays, a turn, behind -/
theorem k_forL {K : PySem.W.Frag} {a : Addr} {xs : List V} {g : TG} {tb : TS} (Pv : Nat → St → Hp → Prop) (hx : SqL K H a xs) (h0 : Pv 0 σ H) (hl : ∀ i σ H, i ≤ xs.length → Pv i σ H → SqL K H a xs)
    (hs : ∀ i x σ H, xs[i]? = some x → Pv i σ H → g x σ H fun σ2 H2 => tb ⟨Pv (i + 1), D.rt, D.nx, Pv (i + 1)⟩ σ2 H2) (hd : ∀ σ H, Pv xs.length σ H → D.nx σ H) : kIL K (.ref a) H fun J H1 => kFor J g tb D σ H1 :=
  ⟨a, rfl, ⟨xs, hx⟩, for_list Pv h0 hl hs hd⟩
theorem k_forU {K : PySem.W.Frag} {a : Addr} {xs : List V} {g : TG} {tb : TS} (Pv : Nat → St → Hp → Prop) (hx : SqT K H a xs) (h0 : Pv 0 σ H) (hl : ∀ i σ H, i ≤ xs.length → Pv i σ H → SqT K H a xs)
    (hs : ∀ i x σ H, xs[i]? = some x → Pv i σ H → g x σ H fun σ2 H2 => tb ⟨Pv (i + 1), D.rt, D.nx, Pv (i + 1)⟩ σ2 H2) (hd : ∀ σ H, Pv xs.length σ H → D.nx σ H) : kIU K (.ref a) H fun J H1 => kFor J g tb D σ H1 :=
  ⟨a, rfl, ⟨xs, hx⟩, for_tup Pv h0 hl hs hd⟩
theorem k_forR {n : Int} {g : TG} {tb : TS} (Pv : Nat → St → Hp → Prop) (hn : n < 2 ^ 62) (hn0 : 0 ≤ n) (h0 : Pv 0 σ H)
    (hs : ∀ (i : Nat) σ H, (i : Int) < n → Pv i σ H → g (.int i) σ H fun σ2 H2 => tb ⟨Pv (i + 1), D.rt, D.nx, Pv (i + 1)⟩ σ2 H2) (hd : ∀ σ H, Pv n.toNat σ H → D.nx σ H) : kIR [V.int n] H fun J H1 => kFor J g tb D σ H1 :=
  ⟨n, rfl, by omega, hn, for_range (lo := 0) (n := n.toNat) Pv h0 (fun i σ H hi p => by
        have e : (0 : Int) + (i : Nat) = (i : Int) := by omega
        have q := hs i σ H (by omega) p
        rw [← e] at q
        exact q) hd⟩
/-- for over a text -/
theorem k_forS {z : Str} {g : TG} {tb : TS} (Pv : Nat → St → Hp → Prop) (h0 : Pv 0 σ H)
    (hs : ∀ i c σ H, z.cps.toList[i]? = some c → Pv i σ H → g (.str ⟨#[c]⟩) σ H fun σ2 H2 => tb ⟨Pv (i + 1), D.rt, D.nx, Pv (i + 1)⟩ σ2 H2) (hd : ∀ σ H, Pv z.length σ H → D.nx σ H) : kIS (.str z) H fun J H1 => kFor J g tb D σ H1 :=
  ⟨z, rfl, fun i m σ H => m = z.length - i ∧ i ≤ z.length ∧ Pv i σ H, ⟨z.length, by simp, Nat.zero_le _, h0⟩, by
    rintro i m σ H ⟨rfl, hi, p⟩
    by_cases hlt : i < z.length
    · refine .inr ⟨hlt, Pv (i + 1), fun σ' H' p' => ⟨z.length - (i + 1), by omega, rfl, hlt, p'⟩, fun x H' y => ?_⟩
      obtain ⟨e, c, hc, y⟩ := y
      subst e y
      exact hs i c σ _ (by rw [Array.getElem?_toList]; exact hc) p
    · have e : i = z.length := by omega
      subst e
      exact .inl ⟨Nat.le_refl _, hd σ H p⟩⟩
theorem st_lock {t : TS} (h : kLock t D σ H) : tLock t D σ H := h
theorem k_lock {t : TS} (d : Addr) (u : HO) (h : H d = some u) (m : Mut (some u)) (q : ∀ od, t ⟨fun σ' H' => H' d = some (.frz od u) ∧ D.nx σ' (upd H' d u), fun v H' => H' d = some (.frz od u) ∧ D.rt v (upd H' d u), fun σ' H' => H' d = some (.frz od u) ∧ D.bk σ' (upd H' d u), fun σ' H' => H' d = some (.frz od u) ∧ D.ct σ' (upd H' d u)⟩ σ (upd H d (.frz od u))) : kLock t D σ H := ⟨d, u, h, m, q⟩
/-- for over a dict's keys, under the lock -/
theorem k_forK {d : Addr} {od : Obj} {l : List (Str × V)} {g : TG} {tb : TS} (Pv : Nat → St → Hp → Prop) (h : H d = some (.frz od (.dK (skv l)))) (h0 : Pv 0 σ H) (hl : ∀ i σ H, Pv i σ H → H d = some (.frz od (.dK (skv l))))
    (hs : ∀ i k v σ H, l[i]? = some (k, v) → Pv i σ H → g (.str k) σ H fun σ2 H2 => tb ⟨Pv (i + 1), D.rt, D.nx, Pv (i + 1)⟩ σ2 H2) (hd : ∀ σ H, Pv l.length σ H → D.nx σ H) : kIK (.ref d) H fun J H1 => kFor J g tb D σ H1 :=
  ⟨d, od, rfl, .inl ⟨skv l, h, fun i m σ H => m = l.length - i ∧ i ≤ l.length ∧ Pv i σ H, ⟨l.length, by simp, Nat.zero_le _, h0⟩, by
    rintro i m σ H ⟨rfl, hi, p⟩
    have ls : (skv l).length = l.length := List.length_map _
    by_cases hlt : i < l.length
    · refine .inr ⟨⟨hl i σ H p, by rw [ls]; exact hlt⟩, Pv (i + 1), fun σ' H' p' => ⟨l.length - (i + 1), by omega, rfl, hlt, p'⟩, fun x H' y => ?_⟩
      obtain ⟨e, k, v, hk, y⟩ := y
      subst e y
      unfold skv at hk
      rw [List.getElem?_map] at hk
      cases q : l[i]? with
      | none => rw [q] at hk; cases hk
      | some kv =>
        rw [q] at hk
        cases hk
        exact hs i kv.1 kv.2 σ _ (by rw [q]) p
    · have e : i = l.length := by omega
      subst e
      exact .inl ⟨⟨hl _ σ H p, by rw [ls]; exact Nat.le_refl _⟩, hd σ H p⟩⟩⟩
theorem st_next (h : D.nx σ H) : tNext D σ H := h
theorem st_brk (h : D.bk σ H) : tBreak D σ H := h
theorem st_cont (h : D.ct σ H) : tCont D σ H := h
theorem st_set (h : te σ H fun x H1 => D.nx (σ.set i (some x)) H1) : tAsg te (gName i) D σ H := h
theorem st_asg {g : TG} (h : te σ H fun x H1 => g x σ H1 D.nx) : tAsg te g D σ H := h
theorem st_drop (h : te σ H fun _ H1 => D.nx σ H1) : tDrop te D σ H := h
theorem st_ret (h : te σ H D.rt) : tRet te D σ H := h
theorem st_retN (h : D.rt .non H) : tRetN D σ H := h
theorem st_if {c : TT} (h : c σ H fun b H1 => if b = true then t D σ H1 else u D σ H1) : tIfS c t u D σ H := h
theorem st_name {v : V} {Q : St → Hp → Prop} (h : Q (σ.set i (some v)) H) : gName i v σ H Q := h
theorem st_gc {v : V} {r : List V} {g : TG} {gs : TGs} {Q : St → Hp → Prop} (h : g v σ H fun σ' H' => gs r σ' H' Q) : gCons g gs (v :: r) σ H Q := ⟨v, r, rfl, h⟩
theorem st_gn {Q : St → Hp → Prop} (h : Q σ H) : gNil [] σ H Q := ⟨rfl, h⟩
end

/-! ### dicts with text keys -/
section
variable {β γ : Type}
def getS (l : List (Str × β)) (k : Str) : Option β := (l.find? fun p => decide (p.1 = k)).map (·.2)
def putS (l : List (Str × β)) (k : Str) (v : β) : List (Str × β) :=
  if (l.any fun p => decide (p.1 = k)) = true then l.map (fun p => if p.1 = k then (p.1, v) else p) else l ++ [(k, v)]
def dropS (l : List (Str × β)) (k : Str) : List (Str × β) := l.filter fun p => decide (p.1 ≠ k)
end
theorem key_iff (a k : Str) : decide ((Sum.inr a : Key) = Sum.inr k) = decide (a = k) := decide_eq_decide.mpr ⟨fun e => Sum.inr.inj e, fun e => congrArg _ e⟩
theorem valV_skv (k : Str) : ∀ l : List (Str × V), valV (skv l) (Sum.inr k : Key) = getS l k
  | [] => rfl
  | (a, v) :: r => by
    have ih := valV_skv k r
    by_cases e : a = k
    · have e' : (Sum.inr a : Key) = Sum.inr k := congrArg _ e
      show valV ((Sum.inr a, v) :: skv r) _ = _
      rw [valV_pos e']
      simp [getS, List.find?_cons, e]
    · have e' : ¬ (Sum.inr a : Key) = Sum.inr k := fun z => e (Sum.inr.inj z)
      show valV ((Sum.inr a, v) :: skv r) _ = _
      rw [valV_neg e', ih]
      simp [getS, List.find?_cons, e]
theorem putK_skv (l : List (Str × V)) (k : Str) (v : V) : putK (skv l) (Sum.inr k : Key) v = skv (putS l k v) := by
  have ha : ((skv l).any fun kv => decide (kv.1 = (Sum.inr k : Key))) = l.any fun p => decide (p.1 = k) := by
    unfold skv
    rw [List.any_map]
    congr 1
    funext p
    exact key_iff _ _
  unfold putK putS
  rw [ha]
  split
  · unfold skv
    rw [List.map_map, List.map_map]
    apply List.map_congr_left
    intro p _
    show (if (Sum.inr p.1 : Key) = Sum.inr k then _ else _) = _
    by_cases e : p.1 = k
    · rw [if_pos (congrArg _ e)]
      simp [e]
    · rw [if_neg (fun z => e (Sum.inr.inj z))]
      simp [e]
  · simp [skv]
theorem dropK_skv (l : List (Str × V)) (k : Str) : dropK (skv l) (Sum.inr k : Key) = skv (dropS l k) := by
  unfold dropK dropS skv
  rw [List.filter_map]
  congr 1
  apply List.filter_congr
  intro p _
  show decide (¬ (Sum.inr p.1 : Key) = Sum.inr k) = decide (¬ p.1 = k)
  exact decide_eq_decide.mpr ⟨fun h e => h (congrArg _ e), fun h e => h (Sum.inr.inj e)⟩
theorem len_skv (l : List (Str × V)) : (skv l).length = l.length := List.length_map _
def kDg (x y : V) (H : Hp) (Q : VK) : Prop := ∃ a l s v, x = .ref a ∧ y = .str s ∧ Rd H a (dS l) ∧ getS l s = some v ∧ Q v H
def kIsD (x : V) (H : Hp) (P : Prop) : Prop := ∃ a l, x = .ref a ∧ Rd H a (dS l) ∧ P
def kDg2 (x y z : V) (H : Hp) (Q : VK) : Prop := ∃ a l s, x = .ref a ∧ y = .str s ∧ Rd H a (dS l) ∧ Q ((getS l s).getD z) H
def kDi (x y : V) (H : Hp) (Q : VK) : Prop := ∃ a l s, x = .ref a ∧ y = .str s ∧ Rd H a (dS l) ∧ Q (.bl (getS l s).isSome) H
def kDn (x y : V) (H : Hp) (Q : VK) : Prop := ∃ a l s, x = .ref a ∧ y = .str s ∧ Rd H a (dS l) ∧ Q (.bl (!(getS l s).isSome)) H
def kDp (x y v : V) (H : Hp) (P : Hp → Prop) : Prop := ∃ a l s, x = .ref a ∧ y = .str s ∧ H a = some (dS l) ∧ l.length < sizeLine ∧ P (upd H a (dS (putS l s v)))
def kPo (x y : V) (H : Hp) (Q : VK) : Prop := ∃ a l s v, x = .ref a ∧ y = .str s ∧ H a = some (dS l) ∧ getS l s = some v ∧ Q v (upd H a (dS (dropS l s)))
def kPo2 (x y z : V) (H : Hp) (Q : VK) : Prop := ∃ a l s, x = .ref a ∧ y = .str s ∧ H a = some (dS l) ∧ (∀ v, getS l s = some v → Q v (upd H a (dS (dropS l s)))) ∧ (getS l s = none → Q z H)
def tDg (td ty : TE) : TE := fun σ H Q => td σ H fun x H1 => ty σ H1 fun y H2 => kDg x y H2 Q
def tDg2 (td ty tx : TE) : TE := fun σ H Q => td σ H fun x H1 => kIsD x H1 (ty σ H1 fun y H2 => tx σ H2 fun z H3 => kDg2 x y z H3 Q)
def tDi (ty td : TE) : TE := fun σ H Q => ty σ H fun y H1 => td σ H1 fun x H2 => kDi x y H2 Q
def tDn (ty td : TE) : TE := fun σ H Q => ty σ H fun y H1 => td σ H1 fun x H2 => kDn x y H2 Q
def sDp (td ty tv : TE) : TS := fun D σ H => tv σ H fun v H1 => td σ H1 fun x H2 => ty σ H2 fun y H3 => kDp x y v H3 fun H4 => D.nx σ H4
def tPo (td ty : TE) : TE := fun σ H Q => td σ H fun x H1 => kIsD x H1 (ty σ H1 fun y H2 => kPo x y H2 Q)
def tPo2 (td ty tx : TE) : TE := fun σ H Q => td σ H fun x H1 => kIsD x H1 (ty σ H1 fun y H2 => tx σ H2 fun z H3 => kPo2 x y z H3 Q)
theorem dget_rd {H : Hp} {a : Addr} {l : List (Str × V)} (h : Rd H a (dS l)) (s : Str) : DGet H a (.str s) (getS l s) := .inl ⟨skv l, Sum.inr s, h, rfl, (valV_skv s l).symm ▸ rfl⟩
section
variable {X : Cx} {o i e f value : Expr} {pos pos' apos cpos : Pos} {td ty tx tv : TE}
theorem an_dget (hu : X.A.units + 1 < cLine) (ho : PE X o td) (hi : PE X i ty) (hs : NoSl i := by exact fun _ _ => rfl) : PE X (.Subscript o i pos) (tDg td ty) := by
  refine ⟨fun pins s σ H Q I h => ?_⟩
  refine subD_of PySem.F.slot_dict_getitem.lookup hs (thn (ho.run pins s σ H _ I h) fun u s1 ⟨x, H1, I1, rx, q1⟩ => thn (hi.run pins s1 σ H1 _ I1 q1) fun iv s2 ⟨y, H2, I2, ry, a, l, k, v, ex, ey, g, e, q2⟩ => ?_)
  subst ex ey
  obtain rfl : u = Value.ref a := rx
  have g' : DGet H2 a (.str k) (some v) := e ▸ dget_rd g k
  exact ⟨dict_typeIs I2 g', d_getItem hu I2 g' ry fun w' s3 I3 rw' => ⟨v, H2, I3, rw', q2⟩⟩
theorem an_din (hu : X.A.units + 1 < cLine) (hi : PE X i ty) (ho : PE X o td) : PC X .In i o (tDi ty td) := by
  refine ⟨fun pins s σ H Q I h => ?_⟩
  refine thn (hi.run pins s σ H _ I h) fun iv s1 ⟨y, H1, I1, ry, q1⟩ => thn (ho.run pins s1 σ H1 _ I1 q1) fun u s2 ⟨x, H2, I2, rx, a, l, k, ex, ey, g, q2⟩ => ?_
  subst ex ey
  obtain rfl : u = Value.ref a := rx
  exact d_in hu I2 (dget_rd g k) ry fun s3 I3 => ⟨.bl _, H2, I3, rfl, q2⟩
theorem an_dnin (hu : X.A.units + 1 < cLine) (hi : PE X i ty) (ho : PE X o td) : PC X .NotIn i o (tDn ty td) := by
  refine ⟨fun pins s σ H Q I h => ?_⟩
  refine thn (hi.run pins s σ H _ I h) fun iv s1 ⟨y, H1, I1, ry, q1⟩ => thn (ho.run pins s1 σ H1 _ I1 q1) fun u s2 ⟨x, H2, I2, rx, a, l, k, ex, ey, g, q2⟩ => ?_
  subst ex ey
  obtain rfl : u = Value.ref a := rx
  exact d_notIn hu I2 (dget_rd g k) ry fun s3 I3 => ⟨.bl _, H2, I3, rfl, q2⟩
theorem an_dput (hu : X.A.units + 1 < cLine) (ho : PE X o td) (hi : PE X i ty) (hv : PE X value tv) (hs : swapsWith value (some (.Subscript o i pos')) pos.line X.env = pure false := by rfl) :
    PS X (.Assign [.Subscript o i pos'] value pos) (sDp td ty tv) := by
  refine ⟨fun pins s σ H D I h => ?_⟩
  refine wpAny_Assign_Subscript (thn (hv.run pins s σ H _ I h) fun r s1 ⟨v, H1, I1, rv, q1⟩ => thn (ho.run pins s1 σ H1 _ I1 q1) fun u s2 ⟨x, H2, I2, rx, q2⟩ => thn (hi.run pins s2 σ H2 _ I2 q2) fun iv s3 ⟨y, H3, I3, ry, a, l, k, ex, ey, g, z, q3⟩ => ?_) hs
  subst ex ey
  obtain rfl : u = Value.ref a := rx
  have q4 : D.nx σ (upd H3 a (.dK (putK (skv l) (Sum.inr k) v))) := by
    rw [putK_skv]
    exact q3
  exact d_setItem hu I3 (DPut.k (k := Sum.inr k) g (by rw [len_skv]; exact z)) ry rv fun s4 I4 => ⟨σ, _, I4, q4⟩
theorem an_dget2 (hu : X.A.units + 1 < cLine) (ho : PE X o td) (he : PE X e ty) (hf : PE X f tx) (m : M2 X o "get" apos e f cpos := by exact ⟨rfl, rfl, rfl, rfl⟩) : PE X (.Call (.Attribute o "get" apos) [e, f] [] cpos) (tDg2 td ty tx) := by
  refine ⟨fun pins s σ H Q I h => ?_⟩
  refine wpAny_Call_method m.base m.few m.line PySem.F.plainAttrs_dict PySem.F.slot_dict_get PySem.F.type_dict_get (thn (ho.run pins s σ H _ I h) fun u s1 ⟨x, H1, I1, rx, a, l, ex, d, q1⟩ => ?_)
  subst ex
  obtain rfl : u = Value.ref a := rx
  obtain ⟨t1, t2, _⟩ := isD_at I1 (.inl ⟨_, d⟩)
  refine ⟨t1, t2, ?_⟩
  rw [m.trees]
  refine Calls.callWith_builtin rfl (Calls.evalArgs_plain (Calls.spliced_cons (thn (he.run pins s1 σ H1 _ I1 q1) fun iv s2 ⟨y, H2, I2, ry, q2⟩ =>
    Calls.spliced_cons (thn (hf.run pins s2 σ H2 _ I2 q2) fun fv s3 ⟨z, H3, I3, rz, a', l', k, ea, ey, d', q3⟩ => Calls.spliced_nil ?_))))
  subst ey
  cases ea
  exact d_get2 hu I3 (dget_rd d' k) ry rz fun w' s4 I4 rw' => ⟨_, H3, I4, rw', q3⟩
theorem an_dpop (ho : PE X o td) (he : PE X e ty) (m : M1 X o "pop" apos e cpos := by exact ⟨rfl, rfl, rfl, rfl⟩) : PE X (.Call (.Attribute o "pop" apos) [e] [] cpos) (tPo td ty) := by
  refine ⟨fun pins s σ H Q I h => ?_⟩
  refine wpAny_Call_method m.base m.few m.line PySem.F.plainAttrs_dict PySem.F.slot_dict_pop PySem.F.type_dict_pop (thn (ho.run pins s σ H _ I h) fun u s1 ⟨x, H1, I1, rx, a, l, ex, d, q1⟩ => ?_)
  subst ex
  obtain rfl : u = Value.ref a := rx
  obtain ⟨t1, t2, _⟩ := isD_at I1 (.inl ⟨_, d⟩)
  refine ⟨t1, t2, ?_⟩
  rw [m.trees]
  refine Calls.callWith_builtin rfl (Calls.evalArgs_plain (Calls.spliced_cons (thn (he.run pins s1 σ H1 _ I1 q1) fun iv s2 ⟨y, H2, I2, ry, a', l', k, v, ea, ey, d', g, q2⟩ => Calls.spliced_nil ?_)))
  subst ey
  cases ea
  have q3 : Q v (upd H2 a (.dK (dropK (skv l') (Sum.inr k)))) := by
    rw [dropK_skv]
    exact q2
  exact d_pop (k := Sum.inr k) I2 d' ry ((valV_skv k l').trans g) (.inl rfl) fun w' s3 I3 rw' => ⟨v, _, I3, rw', q3⟩
theorem an_dpop2 (ho : PE X o td) (he : PE X e ty) (hf : PE X f tx) (m : M2 X o "pop" apos e f cpos := by exact ⟨rfl, rfl, rfl, rfl⟩) : PE X (.Call (.Attribute o "pop" apos) [e, f] [] cpos) (tPo2 td ty tx) := by
  refine ⟨fun pins s σ H Q I h => ?_⟩
  refine wpAny_Call_method m.base m.few m.line PySem.F.plainAttrs_dict PySem.F.slot_dict_pop PySem.F.type_dict_pop (thn (ho.run pins s σ H _ I h) fun u s1 ⟨x, H1, I1, rx, a, l, ex, d, q1⟩ => ?_)
  subst ex
  obtain rfl : u = Value.ref a := rx
  obtain ⟨t1, t2, _⟩ := isD_at I1 (.inl ⟨_, d⟩)
  refine ⟨t1, t2, ?_⟩
  rw [m.trees]
  refine Calls.callWith_builtin rfl (Calls.evalArgs_plain (Calls.spliced_cons (thn (he.run pins s1 σ H1 _ I1 q1) fun iv s2 ⟨y, H2, I2, ry, q2⟩ =>
    Calls.spliced_cons (thn (hf.run pins s2 σ H2 _ I2 q2) fun fv s3 ⟨z, H3, I3, rz, a', l', k, ea, ey, d', q3, q4⟩ => Calls.spliced_nil ?_))))
  subst ey
  cases ea
  cases g : getS l' k with
  | some v =>
    have q5 : Q v (upd H3 a (.dK (dropK (skv l') (Sum.inr k)))) := by
      rw [dropK_skv]
      exact q3 v g
    exact d_pop (k := Sum.inr k) I3 d' ry ((valV_skv k l').trans g) (.inr ⟨fv, rfl⟩) fun w' s4 I4 rw' => ⟨v, _, I4, rw', q5⟩
  | none => exact d_popD (k := Sum.inr k) I3 d' ry ((valV_skv k l').trans g) fun s4 I4 => ⟨z, H3, I4, rz, q4 g⟩
/-- dict(d) -/
def rDictS : List V → Hp → VK → Prop := fun xs H Q => ∃ a l, xs = [.ref a] ∧ Rd H a (dS l) ∧ ∀ p, H p = none → Q (.ref p) (upd H p (dS l))
theorem call_dictS : CallR X (.type "dict") rDictS := by
  intro pins s σ H xs us Q I r h
  obtain ⟨a, l, rfl, ha, q⟩ := h
  obtain ⟨u, rfl, ru⟩ := vals1 r
  cases ru
  exact d_copyOf I ha fun p s' hp I' => ⟨.ref p, _, I', rfl, q p hp⟩
end
section
variable {D : Ends} {σ : St} {H : Hp} {Q : VK} {a : Addr} {l : List (Str × V)} {s : Str} {v z : V} {td ty tx tv : TE}
theorem e_dg (h : td σ H fun x H1 => ty σ H1 fun y H2 => kDg x y H2 Q) : tDg td ty σ H Q := h
theorem e_dg2 (h : td σ H fun x H1 => kIsD x H1 (ty σ H1 fun y H2 => tx σ H2 fun z H3 => kDg2 x y z H3 Q)) : tDg2 td ty tx σ H Q := h
theorem e_di (h : ty σ H fun y H1 => td σ H1 fun x H2 => kDi x y H2 Q) : tDi ty td σ H Q := h
theorem e_dn (h : ty σ H fun y H1 => td σ H1 fun x H2 => kDn x y H2 Q) : tDn ty td σ H Q := h
theorem e_dp (h : tv σ H fun v H1 => td σ H1 fun x H2 => ty σ H2 fun y H3 => kDp x y v H3 fun H4 => D.nx σ H4) : sDp td ty tv D σ H := h
theorem e_po (h : td σ H fun x H1 => kIsD x H1 (ty σ H1 fun y H2 => kPo x y H2 Q)) : tPo td ty σ H Q := h
theorem e_po2 (h : td σ H fun x H1 => kIsD x H1 (ty σ H1 fun y H2 => tx σ H2 fun z H3 => kPo2 x y z H3 Q)) : tPo2 td ty tx σ H Q := h
theorem k_dg (h : Rd H a (dS l)) (g : getS l s = some v) (q : Q v H) : kDg (.ref a) (.str s) H Q := ⟨a, l, s, v, rfl, rfl, h, g, q⟩
theorem k_isD {P : Prop} (h : Rd H a (dS l)) (q : P) : kIsD (.ref a) H P := ⟨a, l, rfl, h, q⟩
theorem k_dg2 (h : Rd H a (dS l)) (q : Q ((getS l s).getD z) H) : kDg2 (.ref a) (.str s) z H Q := ⟨a, l, s, rfl, rfl, h, q⟩
theorem k_di (h : Rd H a (dS l)) (q : Q (.bl (getS l s).isSome) H) : kDi (.ref a) (.str s) H Q := ⟨a, l, s, rfl, rfl, h, q⟩
theorem k_dn (h : Rd H a (dS l)) (q : Q (.bl (!(getS l s).isSome)) H) : kDn (.ref a) (.str s) H Q := ⟨a, l, s, rfl, rfl, h, q⟩
theorem k_dp {P : Hp → Prop} (h : H a = some (dS l)) (c : l.length < sizeLine) (q : P (upd H a (dS (putS l s v)))) : kDp (.ref a) (.str s) v H P := ⟨a, l, s, rfl, rfl, h, c, q⟩
theorem k_po (h : H a = some (dS l)) (g : getS l s = some v) (q : Q v (upd H a (dS (dropS l s)))) : kPo (.ref a) (.str s) H Q := ⟨a, l, s, v, rfl, rfl, h, g, q⟩
theorem e_dictS (h : Rd H a (dS l)) (q : ∀ p, H p = none → Q (.ref p) (upd H p (dS l))) : rDictS [.ref a] H Q := ⟨a, l, rfl, h, q⟩
end
/-! ### named rules -/
abbrev rAddI : R2 := rI0 fun i j => .int (i + j)
abbrev rSubI : R2 := rI0 fun i j => .int (i - j)
abbrev rModI : R2 := rI (fun _ j => 0 < j) fun i j => .int (i % j)
abbrev rDivI : R2 := rI CDivW fun i j => .int (i / j)
abbrev rMulI : R2 := rI IntMulOk fun i j => .int (i * j)
abbrev rPowI : R2 := rI CPow fun i j => .int (i ^ j.toNat)
abbrev rLtI : R2 := rI0 fun i j => .bl (decide (i < j))
abbrev rLeI : R2 := rI0 fun i j => .bl (decide (i ≤ j))
abbrev rGtI : R2 := rI0 fun i j => .bl (decide (j < i))
abbrev rGeI : R2 := rI0 fun i j => .bl (decide (j ≤ i))
abbrev rNeg : V → Hp → VK → Prop := rU fun i => .int (-i)
def rAddS : R2 := fun x y H Q => ∃ i j, x = .str i ∧ y = .str j ∧ i.length + j.length ≤ sizeLine ∧ Q (.str (i ++ j)) H
def rLenL (K : PySem.W.Frag) : List V → Hp → VK → Prop := fun xs H Q => ∃ p ys, xs = [.ref p] ∧ (SqL K H p ys ∨ SqT K H p ys) ∧ Q (.int ys.length) H
def rLenT : List V → Hp → VK → Prop := fun xs H Q => ∃ z, xs = [.str z] ∧ z.length ≤ sizeLine ∧ Q (.int z.length) H
def rLenD : List V → Hp → VK → Prop := fun xs H Q => ∃ a l, xs = [V.ref a] ∧ Rd H a (dS l) ∧ Q (.int l.length) H
def rListL (K : PySem.W.Frag) : List V → Hp → VK → Prop := fun xs H Q => ∃ p ys, xs = [.ref p] ∧ (SqL K H p ys ∨ SqT K H p ys) ∧ ∀ l, H l = none → Q (.ref l) (upd H l (.lst ys))
def rMin2 : List V → Hp → VK → Prop := fun xs H Q => ∃ i j, xs = [.int i, .int j] ∧ Q (.int (if j < i then j else i)) H
def rMax2 : List V → Hp → VK → Prop := fun xs H Q => ∃ i j, xs = [.int i, .int j] ∧ Q (.int (if j > i then j else i)) H
def rIntB : List V → Hp → VK → Prop := fun xs H Q => ∃ k, xs = [.bl k] ∧ Q (.int (if k = true then 1 else 0)) H
def rIntS : List V → Hp → VK → Prop := fun xs H Q => ∃ a n, xs = [.str a] ∧ PySem.intText? a = some n ∧ a.length ≤ 640 ∧ Q (.int n) H
def rStrI : List V → Hp → VK → Prop := fun xs H Q => ∃ i, xs = [.int i] ∧ i.natAbs.log2 < 1920 ∧ Q (.str (toString i)) H
section
variable {X : Cx}
theorem op_mulX : OpR X (binaryOp .Mult) rMulI := opI fun _ _ _ _ _ _ _ hc q => mul_int q hc
theorem op_addS : OpR X (binaryOp .Add) rAddS := op_add_str
theorem call_lenL : CallR X (.builtin "len") (rLenL X.K) := call_len_seq
theorem call_lenT : CallR X (.builtin "len") rLenT := call_len_str
theorem call_lenS : CallR X (.builtin "len") rLenD := by
  intro pins s σ H xs us Q I r h
  obtain ⟨a, l, rfl, ha, q⟩ := h
  obtain ⟨u, rfl, ru⟩ := vals1 r
  cases ru
  refine d_len I ha fun t s' I' => ⟨.int l.length, H, I', ⟨t, ?_⟩, q⟩
  rw [len_skv]
theorem call_listL : CallR X (.type "list") (rListL X.K) := call_list_of
theorem call_min2N (hc : X.calm = true) : CallR X (.builtin "min") rMin2 := call_min2 hc
theorem call_max2N (hc : X.calm = true) : CallR X (.builtin "max") rMax2 := call_max2 hc
theorem call_intB : CallR X (.type "int") rIntB := fun pins s σ H xs us Q I r h => call_int1 pins s σ H xs us Q I r (.inr h)
theorem call_strI : CallR X (.type "str") rStrI := call_str_int
theorem an_cint {x : Str} {i : Int} {pos : Pos} (h : ∃ t, X.mg x = some (.int i t)) (hg : Gl X x := by rfl) (hd : (x == ("__debug__" : Str)) = false := by decide) : PE X (.Name x pos) (tC (.int i)) := let ⟨t, h⟩ := h; pe_glob hg h ⟨t, rfl⟩ hd
theorem an_cstr {x z : Str} {pos : Pos} (h : ∃ t, X.mg x = some (.str z t)) (hg : Gl X x := by rfl) (hd : (x == ("__debug__" : Str)) = false := by decide) : PE X (.Name x pos) (tC (.str z)) := let ⟨t, h⟩ := h; pe_glob hg h ⟨t, rfl⟩ hd
end
section
variable {H : Hp} {Q : VK} {K : PySem.W.Frag} {p l : Addr} {ys xs zs : List V} {v : V}
theorem e_mod {a b : Int} (c : 0 < b) (q : Q (.int (a % b)) H) : rModI (.int a) (.int b) H Q := e_I c q
theorem e_div {a b : Int} (c : CDivW a b) (q : Q (.int (a / b)) H) : rDivI (.int a) (.int b) H Q := e_I c q
theorem e_mul {a b : Int} (c : IntMulOk a b) (q : Q (.int (a * b)) H) : rMulI (.int a) (.int b) H Q := e_I c q
theorem e_addS {a b : Str} (c : a.length + b.length ≤ sizeLine) (q : Q (.str (a ++ b)) H) : rAddS (.str a) (.str b) H Q := ⟨a, b, rfl, rfl, c, q⟩
theorem e_lenL (h : SqL K H p ys) (q : Q (.int ys.length) H) : rLenL K [.ref p] H Q := ⟨p, ys, rfl, .inl h, q⟩
theorem e_lenU (h : SqT K H p ys) (q : Q (.int ys.length) H) : rLenL K [.ref p] H Q := ⟨p, ys, rfl, .inr h, q⟩
theorem e_lenT {z : Str} (c : z.length ≤ sizeLine) (q : Q (.int z.length) H) : rLenT [.str z] H Q := ⟨z, rfl, c, q⟩
theorem e_lenD {l : List (Str × V)} (h : Rd H p (dS l)) (q : Q (.int l.length) H) : rLenD [.ref p] H Q := ⟨p, l, rfl, h, q⟩
theorem e_listL (h : SqL K H p ys) (q : ∀ l, H l = none → Q (.ref l) (upd H l (.lst ys))) : rListL K [.ref p] H Q := ⟨p, ys, rfl, .inl h, q⟩
theorem e_listD {l : List (Str × V)} (h : H p = some (dS l)) (q : ∀ r, H r = none → Q (.ref r) (upd H r (.lst (l.map fun p => V.str p.1)))) : rListD [.ref p] H Q := ⟨p, skv l, rfl, h, fun r hr => by
  have e : (skv l).map (fun kv => kV kv.1) = l.map fun p => V.str p.1 := by
    unfold skv
    rw [List.map_map]
    rfl
  rw [e]
  exact q r hr⟩
theorem e_ixL {i : Int} (h : SqL K H p ys) (a : atI ys i = some v) (q : Q v H) : rIxL K (.ref p) (.int i) H Q := ⟨p, ys, i, v, rfl, rfl, h, a, q⟩
theorem e_ixT {i : Int} (h : SqT K H p ys) (a : atI ys i = some v) (q : Q v H) : rIxT K (.ref p) (.int i) H Q := ⟨p, ys, i, v, rfl, rfl, h, a, q⟩
theorem e_ixS {z : Str} {i : Int} {c : Nat} (hz : z.length ≤ sizeLine) (a : atI z.cps.toList i = some c) (q : Q (.str ⟨#[c]⟩) H) : rIxS (.str z) (.int i) H Q := ⟨z, i, c, rfl, rfl, hz, a, q⟩
theorem e_app (h : H l = some (.lst xs)) (c : xs.length < sizeLine) (q : Q .non (upd H l (.lst (xs ++ [v])))) : rAppend (.ref l) [v] H Q := ⟨l, xs, v, rfl, rfl, h, c, q⟩
theorem e_ext (h : H l = some (.lst xs)) (h2 : H p = some (.lst zs)) (c : xs.length + zs.length ≤ sizeLine) (q : Q .non (upd H l (.lst (xs ++ zs)))) : rExtend (.ref l) [.ref p] H Q := ⟨l, p, xs, zs, rfl, rfl, h, h2, c, q⟩
theorem e_pop (h : H l = some (.lst xs)) (a : xs[xs.length - 1]? = some v) (q : Q v (upd H l (.lst xs.dropLast))) : rPop (.ref l) [] H Q := ⟨l, xs, v, rfl, rfl, h, a, q⟩
theorem e_cat (h : H l = some (.lst xs)) (h2 : H p = some (.lst zs)) (c : xs.length + zs.length ≤ sizeLine) (q : ∀ r, H r = none → Q (.ref r) (upd H r (.lst (xs ++ zs)))) : rCat (.ref l) (.ref p) H Q := ⟨l, p, xs, zs, rfl, rfl, h, h2, c, q⟩
theorem ty_list (h : H l = some (.lst xs)) : tyV K "list" (.ref l) H := .inl ⟨rfl, _, SqL.of h⟩
theorem e_tyl {P : Prop} (h : H l = some (.lst xs)) (q : P) : tyV K "list" (.ref l) H ∧ P := ⟨ty_list h, q⟩
end

/-! ### instances: attributes by place -/
def posOf (ns : List Str) (f : Str) : Option Nat := ns.findIdx? (· == f)
/-- an instance of the class at C with the attributes ns, of the values vs -/
abbrev ob (C : Addr) (ns : List Str) (dx : Addr) (vs : List V) : HO := .ins C dx (ns.zip vs)
structure IsC (K : PySem.W.Frag) (C : Addr) (ns : List Str) : Prop where
  cl : Cls K C
  no : ∀ f ∈ ns, NoAttr K C f
theorem posOf_lookup {f : Str} {i : Nat} : ∀ {ns : List Str} {vs : List V}, posOf ns f = some i → (ns.zip vs).lookup f = vs[i]?
  | [], vs, h => by cases h
  | n :: ns, [], h => by simp
  | n :: ns, v :: vs, h => by
    unfold posOf at h
    rw [List.findIdx?_cons] at h
    by_cases e : (n == f) = true
    · rw [if_pos e] at h
      cases h
      have e2 : (f == n) = true := by rw [beq_iff_eq] at e ⊢; exact e.symm
      simp [List.lookup, e2]
    · rw [if_neg e] at h
      have e2 : (f == n) = false := by
        rw [Bool.eq_false_iff]
        intro z
        rw [beq_iff_eq] at z
        exact e (beq_iff_eq.mpr z.symm)
      cases q : List.findIdx? (· == f) ns with
      | none => rw [q] at h; cases h
      | some j =>
        rw [q] at h
        cases h
        show (List.lookup f ((n, v) :: ns.zip vs)) = _
        unfold List.lookup
        rw [e2]
        simpa using posOf_lookup (ns := ns) (vs := vs) q
theorem posOf_mem {f : Str} {i : Nat} {ns : List Str} (h : posOf ns f = some i) : f ∈ ns := by
  unfold posOf at h
  obtain ⟨hi, hf, _⟩ := List.findIdx?_eq_some_iff_getElem.mp h
  rw [beq_iff_eq] at hf
  rw [← hf]
  exact List.getElem_mem hi
theorem posOf_put {f : Str} {i : Nat} {y : V} : ∀ {ns : List Str} {vs : List V}, posOf ns f = some i → i < vs.length → putF f y (ns.zip vs) = ns.zip (vs.set i y)
  | [], vs, h, _ => by cases h
  | n :: ns, [], h, hl => by simp at hl
  | n :: ns, v :: vs, h, hl => by
    unfold posOf at h
    rw [List.findIdx?_cons] at h
    by_cases e : (n == f) = true
    · rw [if_pos e] at h
      cases h
      have e1 : n = f := beq_iff_eq.mp e
      show (if n = f then (n, y) :: ns.zip vs else _) = (n, y) :: ns.zip vs
      rw [if_pos e1]
    · rw [if_neg e] at h
      cases q : List.findIdx? (· == f) ns with
      | none => rw [q] at h; cases h
      | some j =>
        rw [q] at h
        cases h
        have e1 : ¬ n = f := fun z => e (beq_iff_eq.mpr z)
        show (if n = f then _ else (n, v) :: putF f y (ns.zip vs)) = (n, v) :: ns.zip (vs.set j y)
        rw [if_neg e1, posOf_put (ns := ns) (vs := vs) q (by simpa using hl)]
/-- a first store appends -/
theorem put_new {f : Str} {y : V} : ∀ {ns : List Str} {vs : List V}, ns.length = vs.length → posOf ns f = none → putF f y (ns.zip vs) = (ns ++ [f]).zip (vs ++ [y])
  | [], [], _, _ => rfl
  | n :: ns, v :: vs, hl, h => by
    unfold posOf at h
    rw [List.findIdx?_cons] at h
    by_cases e : (n == f) = true
    · rw [if_pos e] at h
      cases h
    · rw [if_neg e] at h
      have e1 : ¬ n = f := fun z => e (beq_iff_eq.mpr z)
      have h' : posOf ns f = none := by
        cases q : List.findIdx? (· == f) ns with
        | none => exact q
        | some j => rw [q] at h; cases h
      show (if n = f then _ else (n, v) :: putF f y (ns.zip vs)) = (n, v) :: (ns ++ [f]).zip (vs ++ [y])
      rw [if_neg e1, put_new (by simpa using hl) h']
def kFi (C : Addr) (ns : List Str) (i : Nat) (x : V) (H : Hp) (Q : VK) : Prop := ∃ a dx vs v, x = .ref a ∧ H a = some (ob C ns dx vs) ∧ vs[i]? = some v ∧ Q v H
def kSf (C : Addr) (ns : List Str) (i : Nat) (x y : V) (H : Hp) (P : Hp → Prop) : Prop := ∃ a dx vs, x = .ref a ∧ H a = some (ob C ns dx vs) ∧ i < vs.length ∧ P (upd H a (ob C ns dx (vs.set i y)))
def kNw (C : Addr) (ns : List Str) (f : Str) (x y : V) (H : Hp) (P : Hp → Prop) : Prop := ∃ a dx vs, x = .ref a ∧ H a = some (ob C ns dx vs) ∧ vs.length = ns.length ∧ P (upd H a (ob C (ns ++ [f]) dx (vs ++ [y])))
/-- e.f -/
def tFi (C : Addr) (ns : List Str) (i : Nat) (ta : TE) : TE := fun σ H Q => ta σ H fun x H1 => kFi C ns i x H1 Q
/-- e.f = value, the attribute there -/
def sFi (C : Addr) (ns : List Str) (i : Nat) (ta tv : TE) : TS := fun D σ H => tv σ H fun y H1 => ta σ H1 fun x H2 => kSf C ns i x y H2 fun H3 => D.nx σ H3
/-- self.f = value in __init__: the attribute is new, ns are those there -/
def sNw (C : Addr) (ns : List Str) (f : Str) (ta tv : TE) : TS := fun D σ H => tv σ H fun y H1 => ta σ H1 fun x H2 => kNw C ns f x y H2 fun H3 => D.nx σ H3
section
variable {D : Ends} {σ : St} {H : Hp} {Q : VK} {a C dx : Addr} {ns : List Str} {vs : List V} {i : Nat} {v y : V} {ta tv : TE} {f : Str}
theorem e_fi (h : ta σ H fun x H1 => kFi C ns i x H1 Q) : tFi C ns i ta σ H Q := h
theorem e_sf (h : tv σ H fun y H1 => ta σ H1 fun x H2 => kSf C ns i x y H2 fun H3 => D.nx σ H3) : sFi C ns i ta tv D σ H := h
theorem e_nw (h : tv σ H fun y H1 => ta σ H1 fun x H2 => kNw C ns f x y H2 fun H3 => D.nx σ H3) : sNw C ns f ta tv D σ H := h
theorem k_fi (h : H a = some (ob C ns dx vs)) (l : vs[i]? = some v) (q : Q v H) : kFi C ns i (.ref a) H Q := ⟨a, dx, vs, v, rfl, h, l, q⟩
theorem k_sf {P : Hp → Prop} (h : H a = some (ob C ns dx vs)) (l : i < vs.length) (q : P (upd H a (ob C ns dx (vs.set i y)))) : kSf C ns i (.ref a) y H P := ⟨a, dx, vs, rfl, h, l, q⟩
theorem k_nw {P : Hp → Prop} (h : H a = some (ob C ns dx vs)) (l : vs.length = ns.length) (q : P (upd H a (ob C (ns ++ [f]) dx (vs ++ [y])))) : kNw C ns f (.ref a) y H P := ⟨a, dx, vs, rfl, h, l, q⟩
end
section
variable {X : Cx} {o e value : Expr} {f : Str} {pos pos' : Pos} {ta tv : TE} {C : Addr} {ns : List Str} {i : Nat}
theorem an_fld (t : IsC X.K C ns) (p : posOf ns f = some i) (he : PE X e ta) (hb : attributeBase e f X.env (eval e X.env) = eval e X.env := by rfl) : PE X (.Attribute e f pos) (tFi C ns i ta) := by
  refine ⟨fun pins s σ H Q I h => ?_⟩
  refine attr_of hb (thn (he.run pins s σ H _ I h) fun u s1 ⟨x, H1, I1, rx, a, dx, vs, v, ex, ea, l, q⟩ => ?_)
  subst ex
  obtain rfl : u = Value.ref a := rx
  exact getattr_ok I1 ea t.cl (t.no f (posOf_mem p)) ((posOf_lookup p).trans l) fun u' s2 I2 ru => ⟨v, H1, I2, ru, q⟩
theorem zip_small {ns : List Str} {vs : List V} (h : ns.length < 1000) : (ns.zip vs).length < 1000 := by
  rw [List.length_zip]
  omega
theorem an_sfld (t : IsC X.K C ns) (p : posOf ns f = some i) (ha : PE X o ta) (hv : PE X value tv) (hs : swapsWith value (some (.Attribute o f pos')) pos.line X.env = pure false := by rfl) (hl : ns.length < 1000 := by decide) : PS X (.Assign [.Attribute o f pos'] value pos) (sFi C ns i ta tv) := by
  refine ⟨fun pins s σ H D I h => ?_⟩
  refine plainObj_wpAny_Assign_Attribute (thn (hv.run pins s σ H _ I h) fun u s1 ⟨y, H1, I1, ry, q⟩ => thn (ha.run pins s1 σ H1 _ I1 q) fun ov s2 ⟨x, H2, I2, rx, a, dx, vs, ex, ea, l, q2⟩ => ?_) hs
  subst ex
  obtain rfl : ov = Value.ref a := rx
  rw [show ob C ns dx (vs.set i y) = HO.ins C dx (putF f y (ns.zip vs)) from congrArg (HO.ins C dx) (posOf_put p l).symm] at q2
  exact setattr_ok I2 ea t.cl (t.no f (posOf_mem p)) (zip_small hl) ry fun s3 I3 => ⟨σ, _, I3, q2⟩
theorem an_snew {nsA : List Str} (t : IsC X.K C nsA) (hf : f ∈ nsA) (p : posOf ns f = none) (ha : PE X o ta) (hv : PE X value tv) (hs : swapsWith value (some (.Attribute o f pos')) pos.line X.env = pure false := by rfl) (hl : ns.length < 1000 := by decide) : PS X (.Assign [.Attribute o f pos'] value pos) (sNw C ns f ta tv) := by
  refine ⟨fun pins s σ H D I h => ?_⟩
  refine plainObj_wpAny_Assign_Attribute (thn (hv.run pins s σ H _ I h) fun u s1 ⟨y, H1, I1, ry, q⟩ => thn (ha.run pins s1 σ H1 _ I1 q) fun ov s2 ⟨x, H2, I2, rx, a, dx, vs, ex, ea, l, q2⟩ => ?_) hs
  subst ex
  obtain rfl : ov = Value.ref a := rx
  rw [show ob C (ns ++ [f]) dx (vs ++ [y]) = HO.ins C dx (putF f y (ns.zip vs)) from congrArg (HO.ins C dx) (put_new l.symm p).symm] at q2
  exact setattr_ok I2 ea t.cl (t.no f hf) (zip_small hl) ry fun s3 I3 => ⟨σ, _, I3, q2⟩
end

/-! ### == and != of data with a Lean type -/
section
open PySem.W (Datum)
def rEqY (K : PySem.W.Frag) : R2 := fun x y H Q => ∃ (α : Type) (i1 : DecidableEq α) (i2 : Datum α) (a b : α), Datum.depth α ≤ 64 ∧ Dp K H x (Datum.toD a) ∧ Dp K H y (Datum.toD b) ∧ Q (.bl (decide (a = b))) H
def rNeY (K : PySem.W.Frag) : R2 := fun x y H Q => ∃ (α : Type) (i1 : DecidableEq α) (i2 : Datum α) (a b : α), Datum.depth α ≤ 64 ∧ Dp K H x (Datum.toD a) ∧ Dp K H y (Datum.toD b) ∧ Q (.bl (!decide (a = b))) H
variable {X : Cx}
theorem op_eqY (hu : X.A.units + 64 < cLine) : OpR X (compareOp .Eq) (rEqY X.K) := by
  intro pins s σ H x y v u Q I rx ry h
  obtain ⟨α, i1, i2, a, b, hd, ha, hb, q⟩ := h
  obtain ⟨as, r1⟩ := Dp.reads I _ x v ha rx
  obtain ⟨bs, r2⟩ := Dp.reads I _ y u hb ry
  exact PySem.W.eq_datum (x := a) (y := b) ⟨as, r1⟩ ⟨bs, r2⟩ (by omega) ⟨.bl _, H, I, rfl, q⟩
theorem op_neY (hu : X.A.units + 64 < cLine) : OpR X (compareOp .NotEq) (rNeY X.K) := by
  intro pins s σ H x y v u Q I rx ry h
  obtain ⟨α, i1, i2, a, b, hd, ha, hb, q⟩ := h
  obtain ⟨as, r1⟩ := Dp.reads I _ x v ha rx
  obtain ⟨bs, r2⟩ := Dp.reads I _ y u hb ry
  refine PySem.W.ne_datum (x := a) (y := b) ⟨as, r1⟩ ⟨bs, r2⟩ (by omega) ⟨.bl _, H, I, rfl, ?_⟩
  rw [decide_not]
  exact q
variable {K : PySem.W.Frag} {H : Hp} {Q : VK} {x y : V}
theorem e_eqY {α : Type} [DecidableEq α] [Datum α] (a b : α) (hd : Datum.depth α ≤ 64) (ha : Dp K H x (Datum.toD a)) (hb : Dp K H y (Datum.toD b)) (q : Q (.bl (decide (a = b))) H) : rEqY K x y H Q := ⟨α, _, _, a, b, hd, ha, hb, q⟩
theorem e_neY {α : Type} [DecidableEq α] [Datum α] (a b : α) (hd : Datum.depth α ≤ 64) (ha : Dp K H x (Datum.toD a)) (hb : Dp K H y (Datum.toD b)) (q : Q (.bl (!decide (a = b))) H) : rNeY K x y H Q := ⟨α, _, _, a, b, hd, ha, hb, q⟩
theorem dpa_map {α : Type} [DecidableEq α] [Datum α] {f : α → V} (h : ∀ a, Dp K H (f a) (Datum.toD a)) : ∀ ys : List α, DpAll K H (ys.map f) (ys.map Datum.toD)
  | [] => .nil
  | y :: ys => .cons (h y) (dpa_map h ys)
theorem dp_strs {p : Addr} {ys : List Str} (h : SqL K H p (ys.map V.str)) : Dp K H (.ref p) (Datum.toD ys) := .lst h (dpa_map (fun a => .str a) ys)
theorem dp_ints {p : Addr} {ys : List Int} (h : SqL K H p (ys.map V.int)) : Dp K H (.ref p) (Datum.toD ys) := .lst h (dpa_map (fun a => .int a) ys)
end

section
variable {K : PySem.W.Frag} {H : Hp} {Q : VK} {p : Addr}
theorem inV_strs (x : Str) (ys : List Str) : inV (.str x) (ys.map V.str) = decide (x ∈ ys) := by
  unfold inV
  rw [List.any_map, Bool.eq_iff_iff, List.any_eq_true, decide_eq_true_eq]
  constructor
  · rintro ⟨y, hy, e⟩
    have e' : (y == x) = true := e
    rw [beq_iff_eq] at e'
    exact e' ▸ hy
  · exact fun h => ⟨x, h, by show (x == x) = true; exact beq_self_eq_true x⟩
theorem flat_strs (ys : List Str) : (ys.map V.str).all flatV = true := by
  rw [List.all_map, List.all_eq_true]
  exact fun _ _ => rfl
theorem e_inS {x : Str} {ys : List Str} (h : SqL K H p (ys.map V.str)) (q : Q (.bl (decide (x ∈ ys))) H) : rIn K false (.str x) (.ref p) H Q := ⟨p, _, rfl, .inl h, rfl, flat_strs ys, by
  rw [inV_strs]
  exact q⟩
theorem e_ninS {x : Str} {ys : List Str} (h : SqL K H p (ys.map V.str)) (q : Q (.bl (!decide (x ∈ ys))) H) : rIn K true (.str x) (.ref p) H Q := ⟨p, _, rfl, .inl h, rfl, flat_strs ys, by
  rw [inV_strs]
  exact q⟩
end

section
variable {σ : St} {H : Hp} {Q : VK} {ta tb : TE} {K : PySem.W.Frag} {te : TE} {tl th : TO}
theorem e_andV (h : ta σ H fun x H1 => ∃ c, x = .bl c ∧ if c = true then tb σ H1 Q else Q (.bl false) H1) : tAndV ta tb σ H Q := h
theorem e_orV (h : ta σ H fun x H1 => ∃ c, x = .bl c ∧ if c = true then Q (.bl true) H1 else tb σ H1 Q) : tOrV ta tb σ H Q := h
theorem e_notV (h : ta σ H fun x H1 => ∃ c, x = .bl c ∧ Q (.bl (!c)) H1) : tNotV ta σ H Q := h
theorem e_sl {r : V → Option Int → Option Int → Hp → VK → Prop} (h : te σ H fun x H1 => tl σ H1 fun l H2 => th σ H2 fun u H3 => r x l u H3 Q) : tSl r te tl th σ H Q := h
theorem e_np {Q : Option Int → Hp → Prop} (h : Q none H) : tNoPart σ H Q := h
theorem e_prt {Q : Option Int → Hp → Prop} (h : te σ H fun x H1 => ∃ i, x = .int i ∧ Q (some i) H1) : tPart te σ H Q := h
theorem e_ik {i : Int} {P : Int → Prop} (h : P i) : ∃ j, V.int i = .int j ∧ P j := ⟨i, rfl, h⟩
theorem e_slL {a : Addr} {xs : List V} {lo hi : Option Int} (h : SqL K H a xs) (q : ∀ p, H p = none → Q (.ref p) (upd H p (.lst (cutV xs lo hi)))) : rSlL K (.ref a) lo hi H Q := ⟨a, xs, rfl, h, q⟩
theorem cut_from (xs : List V) (n : Nat) : cutV xs (some (n : Int)) none = xs.drop n := by
  unfold cutV
  have e : HT.sIx xs.length 0 (some (n : Int)) = min n xs.length := by
    show (if (n : Int) < 0 then ((n : Int) + (xs.length : Int)).toNat else min (n : Int).toNat xs.length) = _
    rw [if_neg (by omega)]
    simp
  rw [e]
  show List.take (xs.length - min n xs.length) (xs.drop (min n xs.length)) = _
  by_cases h : n ≤ xs.length
  · rw [Nat.min_eq_left h]
    exact List.take_of_length_le (by simp)
  · rw [Nat.min_eq_right (by omega)]
    rw [List.drop_of_length_le (i := n) (by omega)]
    simp
/-- isinstance, a built-in type -/
theorem e_isiL {a : Addr} {xs : List V} {n : String} {b : Bool} (h : H a = some (.lst xs)) (e : kitB "list" n = some b) (q : Q (.bl b) H) : rIsi K [.ref a, .ty n] H Q := ⟨_, _, _, _, b, rfl, .ty n, .base (.lst h), kit_ty e, q⟩
theorem e_isiI {i : Int} {n : String} {b : Bool} (e : kitB "int" n = some b) (q : Q (.bl b) H) : rIsi K [.int i, .ty n] H Q := ⟨_, _, _, _, b, rfl, .ty n, .base (.int i), kit_ty e, q⟩
theorem e_isiS {i : Str} {n : String} {b : Bool} (e : kitB "str" n = some b) (q : Q (.bl b) H) : rIsi K [.str i, .ty n] H Q := ⟨_, _, _, _, b, rfl, .ty n, .base (.str i), kit_ty e, q⟩
theorem e_isiT {a : Addr} {xs : List V} {n : String} {b : Bool} (h : H a = some (.tup xs)) (e : kitB "tuple" n = some b) (q : Q (.bl b) H) : rIsi K [.ref a, .ty n] H Q := ⟨_, _, _, _, b, rfl, .ty n, .base (.tup h), kit_ty e, q⟩
theorem e_isiD {a : Addr} {xs : List (Key × V)} {n : String} {b : Bool} (h : H a = some (.dK xs)) (e : kitB "dict" n = some b) (q : Q (.bl b) H) : rIsi K [.ref a, .ty n] H Q := ⟨_, _, _, _, b, rfl, .ty n, .base (.dK h), kit_ty e, q⟩
theorem e_sortS {a : Addr} {xs : List Str} (h : SqL K H a (xs.map V.str)) (c : xs.length < 64) (q : ∀ (ys : List Str) (p : Addr), ys.Perm xs → sortedS ys = true → H p = none → Q (.ref p) (upd H p (.lst (ys.map V.str)))) : rSortedS K [.ref a] H Q := ⟨a, xs, rfl, h, c, q⟩
end
end L2.An
namespace L2.An
open PySem PySem.Spec PyProof.Rows
local macro_rules | `(tactic| walk_at "g1") => `(tactic| first
  | (with_reducible apply st_seq) | (with_reducible apply st_set) | (with_reducible apply st_asg) | (with_reducible apply st_drop) | (with_reducible apply st_ret) | (with_reducible apply st_retN)
  | (with_reducible apply st_if) | (with_reducible apply st_next) | (with_reducible apply st_brk) | (with_reducible apply st_cont)
  | (with_reducible apply st_name) | (with_reducible apply st_gc) | (with_reducible apply st_gn)
  | ((with_reducible apply e_var); rfl) | (with_reducible apply e_c) | (with_reducible apply e_op) | (with_reducible apply e_un) | (with_reducible apply e_pn) | (with_reducible apply e_p0)
  | (with_reducible apply e_cb) | (with_reducible apply e_cw) | (with_reducible apply e_tst) | (with_reducible apply e_tB) | (with_reducible apply e_bk) | (with_reducible apply e_and) | (with_reducible apply e_or) | (with_reducible apply e_not)
  | (with_reducible apply e_I0) | (with_reducible apply e_eqI) | (with_reducible apply e_neI) | (with_reducible apply e_eqS) | (with_reducible apply e_neS)
  | (with_reducible apply e_lst) | (with_reducible apply e_tup) | (with_reducible apply e_bm) | (with_reducible apply e_bm0) | ((with_reducible apply e_sz); rfl) | (with_reducible apply e_if)
  | (with_reducible apply st_for) | (with_reducible apply st_lock) | (with_reducible apply st_iL) | (with_reducible apply st_iU) | (with_reducible apply st_iR1) | (with_reducible apply st_iS) | (with_reducible apply st_iK)
  | (with_reducible apply e_dg) | (with_reducible apply e_di) | (with_reducible apply e_dn) | (with_reducible apply e_dp) | (with_reducible apply e_dg2) | (with_reducible apply e_po) | (with_reducible apply e_po2)
  | (with_reducible apply e_andV) | (with_reducible apply e_orV) | (with_reducible apply e_notV) | (with_reducible apply e_sl) | (with_reducible apply e_np) | (with_reducible apply e_prt) | (with_reducible apply e_ik)
  | (with_reducible apply e_fi) | (with_reducible apply e_sf) | (with_reducible apply e_nw) | (dsimp only))
local macro_rules | `(tactic| walk_at "go") => `(tactic| repeat walk_at "g1")
/-! ### the order of texts -/
def ltS (a b : Str) : Prop := a.cps.toList < b.cps.toList
theorem str_ext {a b : Str} (h : a.cps.toList = b.cps.toList) : a = b := by
  cases a with
  | mk x =>
    cases b with
    | mk y =>
      have e : x = y := Array.toList_inj.mp h
      rw [e]
theorem ltS_irrefl (a : Str) : ¬ ltS a a := List.lt_irrefl _
theorem ltS_trans {a b c : Str} (h : ltS a b) (h2 : ltS b c) : ltS a c := List.lt_trans h h2
theorem ltS_asymm {a b : Str} (h : ltS a b) : ¬ ltS b a := fun h2 => ltS_irrefl a (ltS_trans h h2)
theorem ltS_or {a b : Str} (h : a ≠ b) : ltS a b ∨ ltS b a := by
  rcases Classical.em (a.cps.toList < b.cps.toList) with q | q
  · exact .inl q
  · rcases Classical.em (b.cps.toList < a.cps.toList) with p | p
    · exact .inr p
    · exact absurd (str_ext (List.le_antisymm (List.not_lt.mp p) (List.not_lt.mp q))) h
theorem ltCps_false {a b : Str} : ltCps b.cps.toList a.cps.toList = false ↔ ¬ ltS b a := by
  rw [ltCps_eq]
  simp [ltS]
theorem rising_pw : ∀ {l : List Str} {p : Str}, risingS p l = true → (p :: l).Pairwise (fun a b => ¬ ltS b a)
  | [], p, _ => by simp
  | x :: r, p, h => by
    have h' : (!ltCps x.cps.toList p.cps.toList && risingS x r) = true := h
    rw [Bool.and_eq_true, Bool.not_eq_true'] at h'
    have ih := rising_pw h'.2
    have h1 : ¬ ltS x p := ltCps_false.mp h'.1
    refine List.Pairwise.cons (fun y hy => ?_) ih
    rcases List.mem_cons.mp hy with e | hy
    · rw [e]; exact h1
    · intro hyp
      have h2 : ¬ ltS y x := List.rel_of_pairwise_cons ih hy
      by_cases e : x = p
      · rw [e] at h2; exact h2 hyp
      · rcases ltS_or e with q | q
        · exact h1 q
        · exact h2 (ltS_trans hyp q)
theorem sorted_pw {l : List Str} (h : sortedS l = true) : l.Pairwise (fun a b => ¬ ltS b a) := by
  cases l with
  | nil => exact .nil
  | cons x r => exact rising_pw h
theorem sorted_lt {l : List Str} (h : l.Pairwise (fun a b => ¬ ltS b a)) (n : l.Nodup) : l.Pairwise ltS := by
  induction l with
  | nil => exact .nil
  | cons x r ih =>
    obtain ⟨h1, h2⟩ := List.pairwise_cons.mp h
    obtain ⟨n1, n2⟩ := List.nodup_cons.mp n
    refine List.Pairwise.cons (fun y hy => ?_) (ih h2 n2)
    have e : x ≠ y := fun z => n1 (z ▸ hy)
    rcases ltS_or e with q | q
    · exact q
    · exact absurd q (h1 y hy)
theorem sorted_one : ∀ {xs ys : List Str}, xs.Pairwise ltS → ys.Pairwise ltS → (∀ z, z ∈ xs ↔ z ∈ ys) → xs = ys
  | [], [], _, _, _ => rfl
  | [], y :: ys, _, _, h => absurd ((h y).mpr List.mem_cons_self) (by simp)
  | x :: xs, [], _, _, h => absurd ((h x).mp List.mem_cons_self) (by simp)
  | x :: xs, y :: ys, hx, hy, h => by
    obtain ⟨x1, x2⟩ := List.pairwise_cons.mp hx
    obtain ⟨y1, y2⟩ := List.pairwise_cons.mp hy
    have e : x = y := by
      rcases List.mem_cons.mp ((h x).mp List.mem_cons_self) with e | q
      · exact e
      · rcases List.mem_cons.mp ((h y).mpr List.mem_cons_self) with e | p
        · exact e.symm
        · exact absurd (y1 x q) (ltS_asymm (x1 y p))
    subst e
    have t : ∀ z, z ∈ xs ↔ z ∈ ys := fun z => by
      constructor
      · intro hz
        rcases List.mem_cons.mp ((h z).mp (List.mem_cons_of_mem _ hz)) with e | q
        · rw [e] at hz; exact absurd (x1 _ hz) (ltS_irrefl _)
        · exact q
      · intro hz
        rcases List.mem_cons.mp ((h z).mpr (List.mem_cons_of_mem _ hz)) with e | q
        · rw [e] at hz; exact absurd (y1 _ hz) (ltS_irrefl _)
        · exact q
    rw [sorted_one x2 y2 t]
/-- the texts of a list of values -/
theorem map_str_inj : ∀ {a b : List Str}, a.map V.str = b.map V.str → a = b
  | [], [], _ => rfl
  | [], _ :: _, h => by cases h
  | _ :: _, [], h => by cases h
  | x :: a, y :: b, h => by
    rw [List.map_cons, List.map_cons] at h
    injection h with h1 h2
    injection h1 with h1
    rw [h1, map_str_inj h2]
/-! ### dicts by texts, plain -/
section
variable {β γ : Type}
theorem getS_nil (k : Str) : getS ([] : List (Str × β)) k = none := rfl
theorem getS_cons (p : Str × β) (l : List (Str × β)) (k : Str) : getS (p :: l) k = if p.1 = k then some p.2 else getS l k := by
  unfold getS
  rw [List.find?_cons]
  by_cases e : p.1 = k
  · simp [e]
  · simp [e]
theorem getS_mem {l : List (Str × β)} {k : Str} {v : β} (h : getS l k = some v) : (k, v) ∈ l := by
  induction l with
  | nil => cases h
  | cons p r ih =>
    rw [getS_cons] at h
    by_cases e : p.1 = k
    · rw [if_pos e] at h
      cases h
      rw [← e]
      exact List.mem_cons_self
    · rw [if_neg e] at h
      exact List.mem_cons_of_mem _ (ih h)
theorem getS_none {l : List (Str × β)} {k : Str} : getS l k = none ↔ ¬ k ∈ l.map (·.1) := by
  induction l with
  | nil => simp [getS]
  | cons p r ih =>
    rw [getS_cons]
    by_cases e : p.1 = k
    · simp [e]
    · rw [if_neg e, ih, List.map_cons, List.mem_cons]
      constructor
      · intro h q
        rcases q with q | q
        · exact e q.symm
        · exact h q
      · exact fun h q => h (.inr q)
theorem getS_isSome {l : List (Str × β)} {k : Str} : (getS l k).isSome = decide (k ∈ l.map (·.1)) := by
  cases e : getS l k with
  | none =>
    have := getS_none.mp e
    simp only [Option.isSome_none]
    exact (decide_eq_false this).symm
  | some v =>
    have : k ∈ l.map (·.1) := List.mem_map.mpr ⟨_, getS_mem e, rfl⟩
    simp only [Option.isSome_some]
    exact (decide_eq_true this).symm
theorem any_key {l : List (Str × β)} {k : Str} : (l.any fun p => decide (p.1 = k)) = decide (k ∈ l.map (·.1)) := by
  induction l with
  | nil => rfl
  | cons p r ih =>
    rw [List.any_cons, ih, List.map_cons]
    by_cases e : p.1 = k
    · simp [e]
    · have e' : ¬ k = p.1 := fun z => e z.symm
      simp [e, e']
theorem putS_new {l : List (Str × β)} {k : Str} (v : β) (h : ¬ k ∈ l.map (·.1)) : putS l k v = l ++ [(k, v)] := by
  unfold putS
  rw [any_key, if_neg (by simpa using h)]
theorem putS_keys (l : List (Str × β)) (k : Str) (v : β) : (putS l k v).map (·.1) = if k ∈ l.map (·.1) then l.map (·.1) else l.map (·.1) ++ [k] := by
  unfold putS
  rw [any_key]
  by_cases h : k ∈ l.map (·.1)
  · rw [if_pos (by simpa using h), if_pos h, List.map_map]
    apply List.map_congr_left
    intro p _
    show (if p.1 = k then (p.1, v) else p).1 = p.1
    split <;> rfl
  · rw [if_neg (by simpa using h), if_neg h, List.map_append]
    rfl
theorem putS_len (l : List (Str × β)) (k : Str) (v : β) : (putS l k v).length ≤ l.length + 1 := by
  unfold putS
  split
  · rw [List.length_map]; exact Nat.le_succ _
  · rw [List.length_append]; exact Nat.le_refl _
theorem getS_app (l r : List (Str × β)) (k : Str) : getS (l ++ r) k = (getS l k).or (getS r k) := by
  induction l with
  | nil => rfl
  | cons p l ih =>
    rw [List.cons_append, getS_cons, getS_cons, ih]
    by_cases e : p.1 = k
    · rw [if_pos e, if_pos e]; rfl
    · rw [if_neg e, if_neg e]
theorem getS_put (l : List (Str × β)) (k j : Str) (v : β) : getS (putS l k v) j = if k = j then some v else getS l j := by
  unfold putS
  rw [any_key]
  by_cases h : k ∈ l.map (·.1)
  · rw [if_pos (by simpa using h)]
    induction l with
    | nil => cases h
    | cons p r ih =>
      rw [List.map_cons, getS_cons, getS_cons]
      by_cases e : p.1 = k
      · rw [if_pos e]
        show (if p.1 = j then some v else _) = _
        by_cases ej : k = j
        · rw [if_pos (e.trans ej), if_pos ej]
        · have e2 : ¬ p.1 = j := fun z => ej (e.symm.trans z)
          rw [if_neg e2, if_neg ej, if_neg e2]
          by_cases hr : k ∈ r.map (·.1)
          · rw [ih hr, if_neg ej]
          · congr 1
            have : r.map (fun p => if p.1 = k then (p.1, v) else p) = r := by
              conv => rhs; rw [← List.map_id r]
              apply List.map_congr_left
              intro q hq
              have : ¬ q.1 = k := fun z => hr (List.mem_map.mpr ⟨q, hq, z⟩)
              simp [this]
            rw [this]
      · have hr : k ∈ r.map (·.1) := by
          rw [List.map_cons] at h
          rcases List.mem_cons.mp h with q | q
          · exact absurd q.symm e
          · exact q
        rw [if_neg e, ih hr]
        by_cases ej : k = j
        · have e2 : ¬ p.1 = j := fun z => e (z.trans ej.symm)
          rw [if_pos ej, if_pos ej, if_neg e2]
        · rw [if_neg ej, if_neg ej]
  · rw [if_neg (by simpa using h), getS_app]
    have hn := getS_none.mpr h
    by_cases ej : k = j
    · subst ej
      rw [hn, if_pos rfl]
      simp [getS]
    · rw [if_neg ej]
      have : getS [(k, v)] j = none := by simp [getS, ej]
      rw [this]
      cases getS l j <;> rfl
theorem putS_nodup {l : List (Str × β)} (k : Str) (v : β) (h : (l.map (·.1)).Nodup) : ((putS l k v).map (·.1)).Nodup := by
  rw [putS_keys]
  by_cases e : k ∈ l.map (·.1)
  · rw [if_pos e]; exact h
  · rw [if_neg e]
    exact nd_snoc h e
theorem putS_map (f : β → γ) (l : List (Str × β)) (k : Str) (v : β) : putS (l.map fun p => (p.1, f p.2)) k (f v) = (putS l k v).map fun p => (p.1, f p.2) := by
  unfold putS
  have e : ((l.map fun p => (p.1, f p.2)).any fun p => decide (p.1 = k)) = l.any fun p => decide (p.1 = k) := by
    rw [List.any_map]
    rfl
  rw [e]
  split
  · rw [List.map_map, List.map_map]
    apply List.map_congr_left
    intro p _
    show (if p.1 = k then (p.1, f v) else (p.1, f p.2)) = _
    by_cases q : p.1 = k
    · simp [q]
    · simp [q]
  · rw [List.map_append]
    rfl
theorem getS_map (f : β → γ) (l : List (Str × β)) (k : Str) : getS (l.map fun p => (p.1, f p.2)) k = (getS l k).map f := by
  induction l with
  | nil => rfl
  | cons p r ih =>
    rw [List.map_cons, getS_cons, getS_cons, ih]
    by_cases e : p.1 = k
    · rw [if_pos e, if_pos e]; rfl
    · rw [if_neg e, if_neg e]
/-- related dicts: same keys in order, values related -/
abbrev RelD (R : β → V → Prop) (m : List (Str × β)) (l : List (Str × V)) : Prop := Paired (fun (p : Str × β) (q : Str × V) => p.1 = q.1 ∧ R p.2 q.2) m l
theorem RelD.keys {R : β → V → Prop} : ∀ {m : List (Str × β)} {l : List (Str × V)}, RelD R m l → m.map (·.1) = l.map (·.1)
  | _, _, .nil => rfl
  | _, _, .cons r t => by rw [List.map_cons, List.map_cons, r.1, RelD.keys t]
theorem RelD.get {R : β → V → Prop} {k : Str} : ∀ {m : List (Str × β)} {l : List (Str × V)}, RelD R m l → (getS m k = none ∧ getS l k = none) ∨ ∃ b v, getS m k = some b ∧ getS l k = some v ∧ R b v
  | _, _, .nil => .inl ⟨rfl, rfl⟩
  | p :: m, q :: l, .cons r t => by
    rw [getS_cons, getS_cons, ← r.1]
    by_cases e : p.1 = k
    · rw [if_pos e, if_pos e]
      exact .inr ⟨_, _, rfl, rfl, r.2⟩
    · rw [if_neg e, if_neg e]
      exact RelD.get t
theorem RelD.mono {R R' : β → V → Prop} {m : List (Str × β)} {l : List (Str × V)} (r : RelD R m l) (h : ∀ b v, R b v → R' b v) : RelD R' m l := Paired.mapP r fun _ _ z => ⟨z.1, h _ _ z.2⟩
theorem RelD.snoc {R : β → V → Prop} {k : Str} {b : β} {v : V} : ∀ {m : List (Str × β)} {l : List (Str × V)}, RelD R m l → R b v → RelD R (m ++ [(k, b)]) (l ++ [(k, v)])
  | _, _, .nil, h => .cons ⟨rfl, h⟩ .nil
  | _, _, .cons r t, h => .cons r (RelD.snoc t h)
theorem RelD.repl {R : β → V → Prop} {k : Str} {b : β} {v : V} : ∀ {m : List (Str × β)} {l : List (Str × V)}, RelD R m l → R b v →
    RelD R (m.map fun p => if p.1 = k then (p.1, b) else p) (l.map fun p => if p.1 = k then (p.1, v) else p)
  | _, _, .nil, _ => .nil
  | p :: m, q :: l, .cons r t, h => by
    rw [List.map_cons, List.map_cons]
    refine .cons ?_ (RelD.repl t h)
    by_cases e : p.1 = k
    · rw [if_pos e, if_pos (r.1 ▸ e)]
      exact ⟨r.1, h⟩
    · rw [if_neg e, if_neg (fun z => e (r.1.trans z))]
      exact r
theorem RelD.put {R : β → V → Prop} {k : Str} {b : β} {v : V} {m : List (Str × β)} {l : List (Str × V)} (r : RelD R m l) (h : R b v) : RelD R (putS m k b) (putS l k v) := by
  unfold putS
  rw [any_key, any_key, r.keys]
  split
  · exact r.repl h
  · exact r.snoc h
theorem RelD.length {R : β → V → Prop} {m : List (Str × β)} {l : List (Str × V)} (r : RelD R m l) : m.length = l.length := Paired.length r
end
/-! ### led_to -/
def RefL (H : Hp) (ys : List Str) (v : V) : Prop := ∃ b, v = .ref b ∧ H b = some (.lst (ys.map V.str))
/-- lists of names in a dict, by names -/
abbrev LnRel (H : Hp) (m : List (Str × List Str)) (l : List (Str × V)) : Prop := RelD (RefL H) m l
theorem RefL.same {H H' : Hp} {ys : List Str} {v : V} (s : Same H H') (h : RefL H ys v) : RefL H' ys v := let ⟨b, e, q⟩ := h; ⟨b, e, s _ _ q⟩
def getL (m : List (Str × List Str)) (x : Str) : List Str := (getS m x).getD []
inductive Leads (m : List (Str × List Str)) (x : Str) : Str → Prop where
  | one {z} : z ∈ getL m x → Leads m x z
  | more {y z} : Leads m x y → z ∈ getL m y → Leads m x z
def sp_led_to (K : PySem.W.Frag) : Sp := fun vs H Q _ => ∃ (x : Str) (a : Addr) (m : List (Str × List Str)) (l : List (Str × V)) (U : List Str), vs = [.str x, .ref a] ∧ H a = some (dS l) ∧ LnRel H m l ∧ U.length < 64 ∧
  (∀ x, (getL m x).length ≤ 1000 ∧ ∀ z ∈ getL m x, z ∈ U) ∧
  ∀ (r : Addr) (ys : List Str) (H' : Hp), Same H H' → H r = none → H' r = some (.lst (ys.map V.str)) → ys.Pairwise ltS → (∀ z, z ∈ ys ↔ Leads m x z) → Q (.ref r) H'
theorem ln_led_to {K : PySem.W.Frag} {vs : List V} {H : Hp} {Q : VK} {E : XK} (h : sp_led_to K vs H Q E) : vs.length = 2 := by
  obtain ⟨x, a, m, l, U, rfl, _⟩ := h
  rfl
abbrev n_led_to : List Str := ["name", "leans", "found", "front", "other"]
def t_led_to (K : PySem.W.Frag) (W : WX) : TS :=
  tSeq (tAsg tDNewK (gName 2))
  (tSeq (tAsg (tCB (rListL K) (tCons (tDg2 (tVar 1) (tVar 0) (tLst tNil)) tNil)) (gName 3))
  (tSeq (tWhile (tTest (tOp (rNeY K) (tVar 3) (tLst tNil))) (tSeq (tAsg (tBM0 K "list" rPop (tVar 3)) (gName 4))
  (tIfS (tB (tDn (tVar 4) (tVar 2))) (tSeq (sDp (tVar 2) (tVar 4) (tC (.bl true)))
  (tDrop (tBM K "list" rExtend (tVar 3) (tCons (tDg2 (tVar 1) (tVar 4) (tLst tNil)) tNil)))) tNext)))
  (tRet (tCB (rSortedS K) (tCons (tCB rListD (tCons (tVar 2) tNil)) tNil)))))
theorem same_up {H H' : Hp} {p : Addr} {o : HO} (s : Same H H') (h : H' p = none) : Same H (upd H' p o) := fun b u q => by rw [upd_ne (ne_of_none (s b u q) h)]; exact s b u q
theorem same1 {H : Hp} {p : Addr} {o : HO} (h : H p = none) : Same H (upd H p o) := same_up (Same.refl H) h
/-- an object that was not there at H may change -/
theorem same_mut {H H' : Hp} {p : Addr} {o : HO} (s : Same H H') (h : H p = none) : Same H (upd H' p o) := fun b u q => by rw [upd_ne (ne_of_none q h)]; exact s b u q
theorem none_up {H : Hp} {a b : Addr} {o : HO} (e : upd H a o b = none) : H b = none ∧ b ≠ a := by
  unfold upd at e
  split at e
  · cases e
  · exact ⟨e, by assumption⟩
theorem dq_get {H : Hp} {m : List (Str × List Str)} {l : List (Str × V)} (hm : LnRel H m l) (x : Str) {p : Addr} (hp : H p = some (.lst [])) : ∃ b, (getS l x).getD (.ref p) = .ref b ∧ H b = some (.lst ((getL m x).map V.str)) := by
  rcases hm.get (k := x) with ⟨e1, e2⟩ | ⟨ys, v, e1, e2, b, rfl, hb⟩
  · exact ⟨p, by rw [e2]; rfl, by unfold getL; rw [e1]; exact hp⟩
  · exact ⟨b, by rw [e2]; rfl, by unfold getL; rw [e1]; exact hb⟩
theorem pure_led_to {K : PySem.W.Frag} {vs : List V} {H : Hp} {Q : VK} {E : XK} {W : WX} (h : sp_led_to K vs H Q E) : t_led_to K W { nx := fun _ H' => Q .non H', rt := Q } (start n_led_to vs) H := by
  obtain ⟨x, a, m, l, U, rfl, ha, hm, hU, hmU, k⟩ := h
  show t_led_to K W _ [some (.str x), some (.ref a), none, none, none] H
  unfold t_led_to
  walk_at "go"
  intro d hd
  walk_at "go"
  have ha1 : upd H d (HO.dK []) a = some (dS l) := by rw [upd_ne (ne_of_none ha hd)]; exact ha
  refine k_isD (.of ha1) ?_
  walk_at "go"
  intro p hp
  have s1 : Same H (upd (upd H d (HO.dK [])) p (.lst [])) := same_up (same_up (Same.refl H) hd) hp
  obtain ⟨b, eb, hb⟩ := dq_get (hm.mono fun _ _ => RefL.same s1) x (p := p) upd_same
  refine k_dg2 (.of (s1 _ _ ha)) ?_
  rw [eb]
  walk_at "go"
  refine e_listL (SqL.of hb) fun f hf => ?_
  obtain ⟨hf1, nfp⟩ := none_up hf
  obtain ⟨hf2, nfd⟩ := none_up hf1
  have s2 : Same H (upd (upd (upd H d (HO.dK [])) p (.lst [])) f (.lst ((getL m x).map V.str))) := same_up s1 hf
  have ndp : d ≠ p := fun z => (none_up hp).2 z.symm
  have hU1 : ∀ F : List Str, F.Nodup → (∀ z ∈ F, z ∈ U) → F.length ≤ 63 := fun F n s => by
    have := List.Nodup.length_le_of_subset n (fun z hz => s z hz)
    omega
  walk_at "go"
  let W : Nat → St → Hp → Prop := fun n σ H' => ∃ (F R : List Str) (v : Option V), σ = [some (.str x), some (.ref a), some (.ref d), some (.ref f), v] ∧ Same H H' ∧ H' d = some (dS (F.map fun z => (z, V.bl true))) ∧ H' f = some (.lst (R.map V.str)) ∧
    F.Nodup ∧ (∀ z ∈ F, Leads m x z) ∧ (∀ z ∈ R, Leads m x z) ∧ (∀ z ∈ getL m x, z ∈ F ∨ z ∈ R) ∧ (∀ y ∈ F, ∀ z ∈ getL m y, z ∈ F ∨ z ∈ R) ∧ R.length ≤ (F.length + 1) * 1000 ∧ n = (64 - F.length) * 1001 + R.length
  have leadU : ∀ z, Leads m x z → z ∈ U := fun z h => by
    cases h with
    | one h => exact (hmU _).2 _ h
    | more _ h => exact (hmU _).2 _ h
  refine st_while W ((64 - 0) * 1001 + (getL m x).length) ⟨[], getL m x, none, rfl, s2, ?_, upd_same, List.nodup_nil, by simp, fun z h => .one h, fun z h => .inr h, by simp, ?_, rfl⟩ ?_
  · rw [upd_ne nfd.symm, upd_ne ndp, upd_same]
    rfl
  · have := (hmU x).1
    simp only [List.length_nil]
    omega
  rintro n σ H1 ⟨F, R, v, rfl, s, hF, hR, nF, lF, lR, c1, c2, b1, rfl⟩
  walk_at "go"
  intro q hq
  have nfq : f ≠ q := ne_of_none hR hq
  have ndq : d ≠ q := ne_of_none hF hq
  have s3 : Same H (upd H1 q (.lst [])) := same_up s hq
  have hR3 : upd H1 q (.lst []) f = some (.lst (R.map V.str)) := by rw [upd_ne nfq]; exact hR
  have hF3 : upd H1 q (.lst []) d = some (dS (F.map fun z => (z, V.bl true))) := by rw [upd_ne ndq]; exact hF
  refine e_neY R [] (by decide) (dp_strs (SqL.of hR3)) (dp_strs (ys := []) (SqL.of upd_same)) ?_
  walk_at "go"
  refine ifn (fun hne => ?_) (fun he => ?_)
  · apply st_wt
    walk_at "go"
    refine e_tyl hR3 ?_
    obtain ⟨R', z, rfl⟩ : ∃ R' z, R = R' ++ [z] := ⟨R.dropLast, R.getLast hne, (List.dropLast_concat_getLast hne).symm⟩
    refine e_pop (v := .str z) hR3 ?_ ?_
    · simp
    have hzL : Leads m x z := lR z (by simp)
    have hR' : upd (upd H1 q (.lst [])) f (.lst ((((R' ++ [z]).map V.str)).dropLast)) f = some (.lst (R'.map V.str)) := by
      rw [upd_same]
      simp
    have nfd' : f ≠ d := nfd
    have hF4 : upd (upd H1 q (.lst [])) f (.lst ((((R' ++ [z]).map V.str)).dropLast)) d = some (dS (F.map fun z => (z, V.bl true))) := by rw [upd_ne nfd'.symm]; exact hF3
    have s4 : Same H (upd (upd H1 q (.lst [])) f (.lst ((((R' ++ [z]).map V.str)).dropLast))) := same_mut s3 hf2
    generalize upd (upd H1 q (.lst [])) f (.lst ((((R' ++ [z]).map V.str)).dropLast)) = H2 at hR' hF4 s4 ⊢
    walk_at "go"
    refine k_dn (.of hF4) ?_
    rw [getS_isSome, show (F.map fun z => (z, V.bl true)).map (·.1) = F by rw [List.map_map]; exact List.map_id F]
    walk_at "go"
    refine ifn (fun hz => ?_) (fun hz => ?_)
    · walk_at "go"
      have nF' : (F ++ [z]).Nodup := nd_snoc nF hz
      have hlF : (F ++ [z]).length ≤ 63 := hU1 _ nF' fun y hy => by
        rcases List.mem_append.mp hy with q | q
        · exact leadU y (lF y q)
        · rw [List.mem_singleton.mp q]; exact leadU z hzL
      rw [List.length_append, List.length_singleton] at hlF
      have hF5 : ∀ o, upd H2 d o f = some (.lst (R'.map V.str)) := fun o => by rw [upd_ne nfd]; exact hR'
      have ep : putS (F.map fun z => (z, V.bl true)) z (V.bl true) = (F ++ [z]).map fun z => (z, V.bl true) := by
        rw [putS_new, List.map_append]
        · rfl
        · rw [List.map_map]
          intro h
          exact hz (by simpa using h)
      refine k_dp hF4 (small1000 (by rw [List.length_map]; omega)) ?_
      rw [ep]
      have s5 : Same H (upd H2 d (dS ((F ++ [z]).map fun z => (z, V.bl true)))) := same_mut s4 hd
      have hR5 := hF5 (dS ((F ++ [z]).map fun z => (z, V.bl true)))
      have hF6 : upd H2 d (dS ((F ++ [z]).map fun z => (z, V.bl true))) d = some (dS ((F ++ [z]).map fun z => (z, V.bl true))) := upd_same
      generalize upd H2 d (dS ((F ++ [z]).map fun z => (z, V.bl true))) = H3 at s5 hR5 hF6 ⊢
      walk_at "go"
      refine e_tyl hR5 ?_
      walk_at "go"
      refine k_isD (.of (s5 _ _ ha)) ?_
      walk_at "go"
      intro p2 hp2
      have s6 : Same H (upd H3 p2 (.lst [])) := same_up s5 hp2
      obtain ⟨b2, eb2, hb2⟩ := dq_get (hm.mono fun _ _ => RefL.same s6) z (p := p2) upd_same
      refine k_dg2 (.of (s6 _ _ ha)) ?_
      rw [eb2]
      walk_at "go"
      have nfp2 : f ≠ p2 := ne_of_none hR5 hp2
      have ndp2 : d ≠ p2 := ne_of_none hF6 hp2
      have hR7 : upd H3 p2 (.lst []) f = some (.lst (R'.map V.str)) := by rw [upd_ne nfp2]; exact hR5
      have hF7 : upd H3 p2 (.lst []) d = some (dS ((F ++ [z]).map fun z => (z, V.bl true))) := by rw [upd_ne ndp2]; exact hF6
      have hl2 := (hmU z).1
      rw [List.length_append, List.length_singleton] at b1
      refine e_ext hR7 hb2 (by rw [List.length_map, List.length_map, sizeLine_eq]; omega) ?_
      refine ⟨_, ?_, F ++ [z], R' ++ getL m z, _, rfl, same_mut s6 hf2, ?_, ?_, nF', ?_, ?_, ?_, ?_, ?_, rfl⟩
      · simp only [List.length_append, List.length_singleton]
        omega
      · rw [upd_ne nfd.symm]; exact hF7
      · rw [upd_same, List.map_append]
      · intro y hy
        rcases List.mem_append.mp hy with q | q
        · exact lF y q
        · rw [List.mem_singleton.mp q]; exact hzL
      · intro y hy
        rcases List.mem_append.mp hy with q | q
        · exact lR y (List.mem_append_left _ q)
        · exact .more hzL q
      · intro y hy
        rcases c1 y hy with q | q
        · exact .inl (List.mem_append_left _ q)
        · rcases List.mem_append.mp q with q | q
          · exact .inr (List.mem_append_left _ q)
          · exact .inl (List.mem_append_right _ q)
      · intro y hy w hw
        rcases List.mem_append.mp hy with q | q
        · rcases c2 y q w hw with q | q
          · exact .inl (List.mem_append_left _ q)
          · rcases List.mem_append.mp q with q | q
            · exact .inr (List.mem_append_left _ q)
            · exact .inl (List.mem_append_right _ q)
        · rw [List.mem_singleton.mp q] at hw
          exact .inr (List.mem_append_right _ hw)
      · simp only [List.length_append, List.length_singleton]
        omega
    · walk_at "go"
      refine ⟨_, ?_, F, R', _, rfl, s4, hF4, hR', nF, lF, fun y hy => lR y (List.mem_append_left _ hy), fun y hy => ?_, fun y hy w hw => ?_, ?_, rfl⟩
      · rw [List.length_append, List.length_singleton]; omega
      · rcases c1 y hy with q | q
        · exact .inl q
        · rcases List.mem_append.mp q with q | q
          · exact .inr q
          · rw [List.mem_singleton.mp q]; exact .inl hz
      · rcases c2 y hy w hw with q | q
        · exact .inl q
        · rcases List.mem_append.mp q with q | q
          · exact .inr q
          · rw [List.mem_singleton.mp q]; exact .inl hz
      · rw [List.length_append, List.length_singleton] at b1; omega
  · subst he
    walk_at "go"
    refine e_listD hF3 fun r hr => ?_
    walk_at "go"
    have e1 : (F.map fun z => (z, V.bl true)).map (fun p => V.str p.1) = F.map V.str := by rw [List.map_map]; rfl
    rw [e1]
    refine ⟨r, F, rfl, SqL.of upd_same, by have := hU1 F nF fun y hy => leadU y (lF y hy); omega, fun ys t hp hs ht => ?_⟩
    refine k t ys _ (same_up (same_up s3 hr) ht) ((same_up s3 hr).free ht) upd_same (sorted_lt (sorted_pw hs) (hp.nodup_iff.mpr nF)) fun y => ?_
    rw [hp.mem_iff]
    refine ⟨lF y, fun h => ?_⟩
    induction h with
    | one h => exact (c1 _ h).resolve_right (by simp)
    | more _ h ih => exact (c2 _ ih _ h).resolve_right (by simp)
/-! ### the law's cells and names -/
def cellAt (ns : List Int) (k : Int) : Int := ns.getD k.toNat 0
def sp_cell_at (K : PySem.W.Frag) : Sp := fun vs H Q _ => ∃ (a : Addr) (ns : List Int) (k : Int), vs = [.ref a, .int k] ∧ SqL K H a (ns.map V.int) ∧ 0 ≤ k ∧ Q (.int (cellAt ns k)) H
theorem ln__law_cell_at {K : PySem.W.Frag} {vs : List V} {H : Hp} {Q : VK} {E : XK} (h : sp_cell_at K vs H Q E) : vs.length = 2 := by
  obtain ⟨a, ns, k, rfl, _⟩ := h
  rfl
abbrev n__law_cell_at : List Str := ["_law_script", "_law_k"]
def t__law_cell_at (K : PySem.W.Frag) (W : WX) : TS :=
  tSeq (tIfS (tTest (tOp rLtI (tVar 1) (tCB (rLenL K) (tCons (tVar 0) tNil)))) (tRet (tOp (rIxL K) (tVar 0) (tVar 1))) tNext)
  (tRet (tC (.int 0)))
theorem atI_map {ns : List Int} {k : Int} (h0 : 0 ≤ k) (h : k < (ns.length : Int)) : atI (ns.map V.int) k = some (.int (cellAt ns k)) := by
  have hk : k.toNat < ns.length := by omega
  refine at_of (j := k.toNat) (by omega) ?_
  rw [List.getElem?_map, List.getElem?_eq_getElem hk]
  unfold cellAt
  rw [List.getD_eq_getElem?_getD, List.getElem?_eq_getElem hk]
  rfl
theorem pure__law_cell_at {K : PySem.W.Frag} {vs : List V} {H : Hp} {Q : VK} {E : XK} {W : WX} (h : sp_cell_at K vs H Q E) : t__law_cell_at K W { nx := fun _ H' => Q .non H', rt := Q } (start n__law_cell_at vs) H := by
  obtain ⟨a, ns, k, rfl, hS, h0, q⟩ := h
  show t__law_cell_at K W _ [some (.ref a), some (.int k)] H
  unfold t__law_cell_at
  walk_at "go"
  refine e_lenL hS ?_
  walk_at "go"
  refine ifd (fun h => ?_) (fun h => ?_)
  · rw [List.length_map] at h
    walk_at "go"
    exact e_ixL hS (atI_map h0 h) q
  · rw [List.length_map] at h
    walk_at "go"
    have e : cellAt ns k = 0 := by
      unfold cellAt
      rw [List.getD_eq_getElem?_getD, List.getElem?_eq_none (by omega)]
      rfl
    rw [e] at q
    exact q
/-- the k-th of the law's names -/
def nmStep (c : Int) (k p : Nat) : Int := c / 36 % 26 + 5 * (p : Int) + (if (p : Int) = c / 6 % (1 + c % 6) then (k : Int) else 0)
def nmCode (c : Int) (k p : Nat) : Nat := 97 + (nmStep c k p % 26).toNat
def nmCodes (c : Int) (k n : Nat) : List Nat := (List.range n).map (nmCode c k)
def lawName (c : Int) (k : Nat) : Str := ⟨(nmCodes c k (1 + c % 6).toNat).toArray⟩
def lawNames (c : Int) (n : Nat) : List Str := (List.range n).map (lawName c)
def sp__law_names : Sp := fun vs H Q _ => ∃ (c : Int) (n : Nat), vs = [.int c, .int n] ∧ n ≤ 1000 ∧ ∀ r H', Same H H' → H r = none → H' r = some (.lst ((lawNames c n).map V.str)) → Q (.ref r) H'
theorem ln__law_names {vs : List V} {H : Hp} {Q : VK} {E : XK} (h : sp__law_names vs H Q E) : vs.length = 2 := by
  obtain ⟨c, n, rfl, _⟩ := h
  rfl
abbrev n__law_names : List Str := ["_law_cell", "_law_many", "_law_letters", "_law_size", "_law_at", "_law_out", "_law_k", "_law_name", "_law_place", "_law_step"]
def t__law_names (K : PySem.W.Frag) (W : WX) : TS :=
  tSeq (tAsg (tC (.str "abcdefghijklmnopqrstuvwxyz")) (gName 2))
  (tSeq (tAsg (tOp rAddI (tC (.int 1)) (tOp rModI (tVar 0) (tC (.int 6)))) (gName 3))
  (tSeq (tAsg (tOp rModI (tOp rDivI (tVar 0) (tC (.int 6))) (tVar 3)) (gName 4))
  (tSeq (tAsg (tLst tNil) (gName 5))
  (tSeq (tFor (iRng1 (tCons (tVar 1) tNil)) (gName 6) (tSeq (tAsg (tC (.str "")) (gName 7))
  (tSeq (tFor (iRng1 (tCons (tVar 3) tNil)) (gName 8) (tSeq (tAsg (tOp rAddI (tOp rModI (tOp rDivI (tVar 0) (tC (.int 36))) (tC (.int 26))) (tOp rMulI (tC (.int 5)) (tVar 8))) (gName 9))
  (tSeq (tIfS (tTest (tOp rEq (tVar 8) (tVar 4))) (tAsg (tOp rAddI (tVar 9) (tVar 6)) (gName 9)) tNext)
  (tAsg (tOp rAddS (tVar 7) (tOp rIxS (tVar 2) (tOp rModI (tVar 9) (tC (.int 26))))) (gName 7)))))
  (tDrop (tBM K "list" rAppend (tVar 5) (tCons (tVar 7) tNil))))))
  (tRet (tVar 5))))))
theorem letters_at : ∀ i : Fin 26, (Str.ofString "abcdefghijklmnopqrstuvwxyz").cps.toList[i.val]? = some (97 + i.val) := by decide +kernel
theorem letters_len : (Str.ofString "abcdefghijklmnopqrstuvwxyz").length ≤ sizeLine := by decide +kernel
theorem letters_atI {z : Int} (h0 : 0 ≤ z) (h : z < 26) : atI (Str.ofString "abcdefghijklmnopqrstuvwxyz").cps.toList z = some (97 + z.toNat) := by
  have e : (Str.ofString "abcdefghijklmnopqrstuvwxyz").cps.toList[z.toNat]? = some (97 + z.toNat) := letters_at ⟨z.toNat, by omega⟩
  have e2 : z = ((z.toNat : Nat) : Int) := by omega
  have e3 := atI_nat e
  rw [← e2] at e3
  exact e3
theorem str_snoc (l : List Nat) (c : Nat) : (⟨l.toArray⟩ : Str) ++ (⟨#[c]⟩ : Str) = ⟨(l ++ [c]).toArray⟩ := by
  apply str_ext
  show ((l.toArray ++ #[c]).toList : List Nat) = _
  simp
theorem divw (a : Int) {b : Int} (h : 0 < b) (h2 : b < 1000) : CDivW a b := wide_div (b := 10) h (Nat.lt_of_lt_of_le (show b.natAbs < 1000 by omega) (by decide)) (by decide) (by decide)
theorem mulok {a b : Int} (h0 : -(2 ^ 64) < a) (h : a < 2 ^ 64) : IntMulOk a b := (show CMul a b from .inl ⟨h0, h⟩).ok
theorem pure__law_names {K : PySem.W.Frag} {vs : List V} {H : Hp} {Q : VK} {E : XK} {W : WX} (h : sp__law_names vs H Q E) : t__law_names K W { nx := fun _ H' => Q .non H', rt := Q } (start n__law_names vs) H := by
  obtain ⟨c, n, rfl, hn, k⟩ := h
  show t__law_names K W _ [some (.int c), some (.int n), none, none, none, none, none, none, none, none] H
  unfold t__law_names
  walk_at "go"
  refine e_mod (by decide) ?_
  walk_at "go"
  refine e_div (divw c (by decide) (by decide)) ?_
  walk_at "go"
  refine e_mod (by omega) ?_
  walk_at "go"
  intro r hr
  walk_at "go"
  refine k_forR (n := (n : Int)) (fun i σ H' => ∃ v6 v7 v8 v9 : Option V, σ = [some (.int c), some (.int n), some (.str "abcdefghijklmnopqrstuvwxyz"), some (.int (1 + c % 6)), some (.int (c / 6 % (1 + c % 6))), some (.ref r), v6, v7, v8, v9] ∧ Same H H' ∧ H' r = some (.lst ((lawNames c i).map V.str)))
    (by omega) (by omega) ⟨none, none, none, none, rfl, same_up (Same.refl H) hr, upd_same⟩ ?_ ?_
  · rintro i σ H1 hi ⟨v6, v7, v8, v9, rfl, s1, h1⟩
    walk_at "go"
    refine k_forR (n := 1 + c % 6) (fun p σ H' => ∃ v8 v9 : Option V, σ = [some (.int c), some (.int n), some (.str "abcdefghijklmnopqrstuvwxyz"), some (.int (1 + c % 6)), some (.int (c / 6 % (1 + c % 6))), some (.ref r), some (.int i), some (.str ⟨(nmCodes c i p).toArray⟩), v8, v9] ∧ H' = H1)
      (by omega) (by omega) ⟨v8, v9, rfl, rfl⟩ ?_ ?_
    · rintro p σ H2 hp ⟨v8, v9, rfl, rfl⟩
      walk_at "go"
      refine e_div (divw c (by decide) (by decide)) ?_
      walk_at "go"
      refine e_mod (by decide) ?_
      walk_at "go"
      refine e_mul (mulok (by decide) (by decide)) ?_
      walk_at "go"
      have fin : ∀ z : Int, z = nmStep c i p → ∀ G : VK, G (.str ⟨(nmCodes c i (p + 1)).toArray⟩) H2 → rModI (.int z) (.int 26) H2 fun y H => rIxS (.str "abcdefghijklmnopqrstuvwxyz") y H fun y H => rAddS (.str ⟨(nmCodes c i p).toArray⟩) y H G := by
        rintro z rfl G hG
        refine e_mod (by decide) ?_
        refine e_ixS letters_len (letters_atI (by omega) (by omega)) ?_
        refine e_addS ?_ ?_
        · show (nmCodes c i p).length + 1 ≤ sizeLine
          unfold nmCodes
          rw [List.length_map, List.length_range, sizeLine_eq]
          omega
        · rw [str_snoc]
          have e : nmCodes c i (p + 1) = nmCodes c i p ++ [97 + (nmStep c i p % 26).toNat] := by
            unfold nmCodes
            rw [List.range_succ, List.map_append]
            rfl
          rw [e] at hG
          exact hG
      refine ifd (fun h => ?_) (fun h => ?_)
      · walk_at "go"
        exact fin _ (by unfold nmStep; rw [if_pos h]) _ ⟨_, _, rfl, rfl⟩
      · walk_at "go"
        exact fin _ (by unfold nmStep; rw [if_neg h]; omega) _ ⟨_, _, rfl, rfl⟩
    · rintro σ H2 ⟨v8, v9, rfl, rfl⟩
      walk_at "go"
      refine e_tyl h1 ?_
      walk_at "go"
      refine e_app h1 ?_ ?_
      · show ((lawNames c i).map V.str).length < sizeLine
        rw [List.length_map, lawNames, List.length_map, List.length_range, sizeLine_eq]
        omega
      · refine ⟨_, _, _, _, rfl, same_mut s1 hr, ?_⟩
        rw [upd_same]
        unfold lawNames
        rw [List.range_succ, List.map_append, List.map_append]
        rfl
  · rintro σ H1 ⟨v6, v7, v8, v9, rfl, s1, h1⟩
    walk_at "go"
    exact k r H1 s1 hr h1
/-! ### the law's leanings -/
def pick (ys : List Str) (c : Int) : Str := ys.getD (c % (ys.length : Int)).toNat ""
def lnStep (ys : List Str) (m : List (Str × List Str)) (c : Int) : List (Str × List Str) := putS m (pick ys c) (getL m (pick ys c) ++ [pick ys (c / 16)])
def leansOf (ys : List Str) (cs : List Int) : List (Str × List Str) := cs.foldl (lnStep ys) []
theorem leansOf_snoc (ys : List Str) (cs : List Int) (c : Int) : leansOf ys (cs ++ [c]) = lnStep ys (leansOf ys cs) c := by
  unfold leansOf
  rw [List.foldl_append]
  rfl
theorem pick_at {ys : List Str} {c : Int} (h : 0 < ys.length) : atI (ys.map V.str) (c % (ys.length : Int)) = some (.str (pick ys c)) := by
  have h1 : 0 ≤ c % (ys.length : Int) := Int.emod_nonneg _ (by omega)
  have h2 : c % (ys.length : Int) < ys.length := Int.emod_lt_of_pos _ (by omega)
  have hk : (c % (ys.length : Int)).toNat < ys.length := by omega
  refine at_of (j := (c % (ys.length : Int)).toNat) (by omega) ?_
  rw [List.getElem?_map, List.getElem?_eq_getElem hk]
  unfold pick
  rw [List.getD_eq_getElem?_getD, List.getElem?_eq_getElem hk]
  rfl
theorem pick_mem {ys : List Str} {c : Int} (h : 0 < ys.length) : pick ys c ∈ ys := by
  have h1 : 0 ≤ c % (ys.length : Int) := Int.emod_nonneg _ (by omega)
  have h2 : c % (ys.length : Int) < ys.length := Int.emod_lt_of_pos _ (by omega)
  have hk : (c % (ys.length : Int)).toNat < ys.length := by omega
  unfold pick
  rw [List.getD_eq_getElem?_getD, List.getElem?_eq_getElem hk]
  exact List.getElem_mem hk
theorem getL_put (m : List (Str × List Str)) (k j : Str) (v : List Str) : getL (putS m k v) j = if k = j then v else getL m j := by
  unfold getL
  rw [getS_put]
  split <;> rfl
theorem leansOf_in {ys : List Str} (h : 0 < ys.length) : ∀ (n : Nat) (cs : List Int), cs.length = n → (∀ x, ∀ z ∈ getL (leansOf ys cs) x, z ∈ ys) ∧ (∀ x, (getL (leansOf ys cs) x).length ≤ n) ∧ (leansOf ys cs).length ≤ n ∧ ((leansOf ys cs).map (·.1)).Nodup ∧ ((leansOf ys cs).flatMap (·.2)).length = n := by
  intro n
  induction n with
  | zero =>
    intro cs hc
    cases cs with
    | nil => exact ⟨fun x z hz => absurd hz (by simp [leansOf, getL, getS]), fun x => by simp [leansOf, getL, getS], by simp [leansOf], by simp [leansOf], by simp [leansOf]⟩
    | cons _ _ => simp at hc
  | succ n ih =>
    intro cs hc
    obtain ⟨cs, c, rfl⟩ : ∃ l c, cs = l ++ [c] := ⟨cs.dropLast, cs.getLast (by intro z; rw [z] at hc; simp at hc), (List.dropLast_concat_getLast _).symm⟩
    have hc' : cs.length = n := by simpa using hc
    obtain ⟨i1, i2, i3, i4, i5⟩ := ih cs hc'
    rw [leansOf_snoc]
    unfold lnStep
    refine ⟨fun x z hz => ?_, fun x => ?_, ?_, putS_nodup _ _ i4, ?_⟩
    · rw [getL_put] at hz
      split at hz
      · rcases List.mem_append.mp hz with q | q
        · exact i1 _ z q
        · rw [List.mem_singleton.mp q]
          exact pick_mem h
      · exact i1 _ z hz
    · rw [getL_put]
      split
      · have := i2 (pick ys c)
        rw [List.length_append, List.length_singleton]
        omega
      · have := i2 x
        omega
    · have := putS_len (leansOf ys cs) (pick ys c) (getL (leansOf ys cs) (pick ys c) ++ [pick ys (c / 16)])
      omega
    · rw [← i5]
      generalize leansOf ys cs = m at i4 ⊢
      generalize pick ys c = x
      generalize pick ys (c / 16) = y
      clear i1 i2 i3 i5 hc hc' ih
      by_cases hx : x ∈ m.map (·.1)
      · unfold putS
        rw [any_key, if_pos (by simpa using hx)]
        induction m with
        | nil => cases hx
        | cons p r ihm =>
          rw [List.map_cons] at i4
          obtain ⟨n1, n2⟩ := List.nodup_cons.mp i4
          rw [List.map_cons, List.flatMap_cons, List.flatMap_cons, List.length_append, List.length_append]
          by_cases e : p.1 = x
          · have hr : ¬ x ∈ r.map (·.1) := e ▸ n1
            have er : r.map (fun q => if q.1 = x then (q.1, getL (p :: r) x ++ [y]) else q) = r := by
              conv => rhs; rw [← List.map_id r]
              apply List.map_congr_left
              intro q hq
              have : ¬ q.1 = x := fun z => hr (List.mem_map.mpr ⟨q, hq, z⟩)
              simp [this]
            rw [er, if_pos e]
            have eg : getL (p :: r) x = p.2 := by
              unfold getL
              rw [getS_cons, if_pos e]
              rfl
            rw [eg]
            simp only [List.length_append, List.length_singleton]
            omega
          · have hr : x ∈ r.map (·.1) := by
              rw [List.map_cons] at hx
              rcases List.mem_cons.mp hx with q | q
              · exact absurd q.symm e
              · exact q
            rw [if_neg e]
            have eg : getL (p :: r) x = getL r x := by
              unfold getL
              rw [getS_cons, if_neg e]
            rw [eg, ihm n2 hr]
            omega
      · rw [putS_new _ hx]
        have eg : getL m x = [] := by
          unfold getL
          rw [getS_none.mpr hx]
          rfl
        rw [eg, List.flatMap_append]
        simp
def sp_leans (K : PySem.W.Frag) : Sp := fun vs H Q _ => ∃ (a b : Addr) (cs : List Int) (ys : List Str), vs = [.ref a, .ref b] ∧ SqL K H a (cs.map V.int) ∧ SqL K H b (ys.map V.str) ∧ 0 < ys.length ∧ cs.length ≤ 1000 ∧
  ∀ (d : Addr) (l : List (Str × V)) (H' : Hp), Same H H' → H d = none → H' d = some (dS l) → LnRel H' (leansOf ys cs) l → Q (.ref d) H'
theorem ln__law_leans {K : PySem.W.Frag} {vs : List V} {H : Hp} {Q : VK} {E : XK} (h : sp_leans K vs H Q E) : vs.length = 2 := by
  obtain ⟨a, b, cs, ys, rfl, _⟩ := h
  rfl
abbrev n__law_leans : List Str := ["_law_cells", "_law_names_here", "_law_leans_here", "_law_cell", "_law_one"]
def t__law_leans (K : PySem.W.Frag) (W : WX) : TS :=
  tSeq (tAsg tDNewK (gName 2))
  (tSeq (tFor (iList K (tVar 0)) (gName 3) (tSeq (tAsg (tOp (rIxL K) (tVar 1) (tOp rModI (tVar 3) (tCB (rLenL K) (tCons (tVar 1) tNil)))) (gName 4))
  (sDp (tVar 2) (tVar 4) (tOp rCat (tDg2 (tVar 2) (tVar 4) (tLst tNil)) (tLst (tCons (tOp (rIxL K) (tVar 1) (tOp rModI (tOp rDivI (tVar 3) (tC (.int 16))) (tCB (rLenL K) (tCons (tVar 1) tNil)))) tNil))))))
  (tRet (tVar 2)))
/-- a new object, or a change of a dict, leaves the lists -/
theorem RefL.updD {H : Hp} {d : Addr} {k k' : List (Key × V)} {ys : List Str} {v : V} (h : H d = some (.dK k)) (r : RefL H ys v) : RefL (upd H d (.dK k')) ys v := by
  obtain ⟨b, e, hb⟩ := r
  refine ⟨b, e, ?_⟩
  rw [upd_ne (ne_of hb h (by intro z; cases z))]
  exact hb
theorem pure__law_leans {K : PySem.W.Frag} {vs : List V} {H : Hp} {Q : VK} {E : XK} {W : WX} (h : sp_leans K vs H Q E) : t__law_leans K W { nx := fun _ H' => Q .non H', rt := Q } (start n__law_leans vs) H := by
  obtain ⟨a, b, cs, ys, rfl, hcs, hys, h0, hc, k⟩ := h
  show t__law_leans K W _ [some (.ref a), some (.ref b), none, none, none] H
  unfold t__law_leans
  walk_at "go"
  intro d hd
  walk_at "go"
  have lc : (cs.map V.int).length = cs.length := List.length_map _
  have ly : (ys.map V.str).length = ys.length := List.length_map _
  have s0 : Same H (upd H d (.dK [])) := same_up (Same.refl H) hd
  refine k_forL (fun i σ H' => ∃ (v3 v4 : Option V) (l : List (Str × V)), σ = [some (.ref a), some (.ref b), some (.ref d), v3, v4] ∧ Same H H' ∧ H' d = some (dS l) ∧ LnRel H' (leansOf ys (cs.take i)) l) (s0.seq hcs)
    ⟨none, none, [], rfl, s0, upd_same, .nil⟩ (fun i σ H' _ ⟨_, _, _, _, s, _⟩ => s.seq hcs) ?_ ?_
  · rintro i x σ H1 hi ⟨v3, v4, l, rfl, s1, hl, R⟩
    have hil : i < cs.length := by
      have := (List.getElem?_eq_some_iff.mp hi).1
      omega
    obtain rfl : x = V.int cs[i] := by
      rw [List.getElem?_map, List.getElem?_eq_getElem hil] at hi
      exact (Option.some.inj hi).symm
    have et : cs.take (i + 1) = cs.take i ++ [cs[i]] := by rw [List.take_succ_eq_append_getElem hil]
    generalize cs[i] = c at et ⊢
    have B := leansOf_in h0 i (cs.take i) (by rw [List.length_take]; omega)
    generalize em : leansOf ys (cs.take i) = m at R B ⊢
    walk_at "go"
    refine e_lenL (s1.seq hys) ?_
    rw [ly]
    refine e_mod (by omega) ?_
    refine e_ixL (s1.seq hys) (pick_at h0) ?_
    walk_at "go"
    refine k_isD (.of hl) ?_
    walk_at "go"
    intro p hp
    have s2 : Same H1 (upd H1 p (.lst [])) := same_up (Same.refl H1) hp
    obtain ⟨q, eq, hq⟩ := dq_get (R.mono fun _ _ => RefL.same s2) (pick ys c) (p := p) upd_same
    refine k_dg2 (.of (s2 _ _ hl)) ?_
    rw [eq]
    walk_at "go"
    refine e_div (divw c (by decide) (by decide)) ?_
    walk_at "go"
    refine e_lenL (s2.seq (s1.seq hys)) ?_
    rw [ly]
    refine e_mod (by omega) ?_
    refine e_ixL (s2.seq (s1.seq hys)) (pick_at h0) ?_
    walk_at "go"
    intro r hr
    have s3 := same1 (o := .lst [.str (pick ys (c / 16))]) hr
    refine e_cat (s3 _ _ hq) upd_same ?_ ?_
    · have := B.2.1 (pick ys c)
      rw [List.length_map, sizeLine_eq]
      simp only [List.length_singleton]
      omega
    intro t ht
    have s4 : Same H1 (upd (upd (upd H1 p (.lst [])) r (.lst [.str (pick ys (c / 16))])) t (.lst ((getL m (pick ys c)).map V.str ++ [.str (pick ys (c / 16))]))) := (s2.trans s3).trans (same1 ht)
    have h4 : upd (upd (upd H1 p (.lst [])) r (.lst [.str (pick ys (c / 16))])) t (.lst ((getL m (pick ys c)).map V.str ++ [.str (pick ys (c / 16))])) t = some (.lst ((getL m (pick ys c) ++ [pick ys (c / 16)]).map V.str)) := by
      rw [upd_same, List.map_append]
      rfl
    generalize upd (upd (upd H1 p (.lst [])) r (.lst [.str (pick ys (c / 16))])) t (.lst ((getL m (pick ys c)).map V.str ++ [.str (pick ys (c / 16))])) = H4 at s4 h4 ⊢
    walk_at "go"
    refine k_dp (s4 _ _ hl) (by rw [← R.length, sizeLine_eq]; omega) ?_
    walk_at "go"
    refine ⟨_, _, _, rfl, same_mut (s1.trans s4) hd, upd_same, ?_⟩
    rw [et, leansOf_snoc, em]
    exact RelD.put (R.mono fun _ _ z => RefL.updD (s4 _ _ hl) (RefL.same s4 z)) (RefL.updD (s4 _ _ hl) ⟨t, rfl, h4⟩)
  · rintro σ H1 ⟨v3, v4, l, rfl, s1, hl, R⟩
    rw [lc, List.take_of_length_le (Nat.le_refl _)] at R
    walk_at "go"
    exact k d l H1 s1 hd hl R
/-! ### more operators: in a list of data, dicts of data unlike, slices with a step -/
section
open PySem.W (Datum)
def rInY (K : PySem.W.Frag) : R2 := fun x y H Q => ∃ (α : Type) (i1 : DecidableEq α) (i2 : Datum α) (a : α) (xs : List α) (p : Addr) (vs : List V), y = .ref p ∧ Datum.depth α ≤ 63 ∧ Dp K H x (Datum.toD a) ∧ SqL K H p vs ∧ DpAll K H vs (xs.map (fun z : α => Datum.toD z)) ∧ Q (.bl (decide (a ∈ xs))) H
def rNinY (K : PySem.W.Frag) : R2 := fun x y H Q => ∃ (α : Type) (i1 : DecidableEq α) (i2 : Datum α) (a : α) (xs : List α) (p : Addr) (vs : List V), y = .ref p ∧ Datum.depth α ≤ 63 ∧ Dp K H x (Datum.toD a) ∧ SqL K H p vs ∧ DpAll K H vs (xs.map (fun z : α => Datum.toD z)) ∧ Q (.bl (!decide (a ∈ xs))) H
variable {X : Cx}
theorem op_inY (hu : X.A.units + 64 < cLine) : OpR X (compareOp .In) (rInY X.K) := by
  intro pins s σ H x y v u Q I rx ry h
  obtain ⟨α, i1, i2, a, xs, p, vs, rfl, hd, ha, hl, hb, q⟩ := h
  obtain rfl : u = Value.ref p := ry
  obtain ⟨as, r1⟩ := Dp.reads I _ x v ha rx
  obtain ⟨its, rv, hli, hz⟩ := I.list hl
  obtain ⟨bs, r2⟩ := Dp.readsAll I _ _ its hb rv
  exact PySem.W.in_list_datum (x := a) (xs := xs) hli.isList ⟨bs, by simpa using r2⟩ ⟨as, r1⟩ (by omega) ⟨.bl _, H, I, rfl, q⟩
theorem op_ninY (hu : X.A.units + 64 < cLine) : OpR X (compareOp .NotIn) (rNinY X.K) := by
  intro pins s σ H x y v u Q I rx ry h
  obtain ⟨α, i1, i2, a, xs, p, vs, rfl, hd, ha, hl, hb, q⟩ := h
  obtain rfl : u = Value.ref p := ry
  obtain ⟨as, r1⟩ := Dp.reads I _ x v ha rx
  obtain ⟨its, rv, hli, hz⟩ := I.list hl
  obtain ⟨bs, r2⟩ := Dp.readsAll I _ _ its hb rv
  refine PySem.W.notIn_list_datum (x := a) (xs := xs) hli.isList ⟨bs, by simpa using r2⟩ ⟨as, r1⟩ (by omega) ⟨.bl _, H, I, rfl, ?_⟩
  rw [decide_not]
  exact q
theorem e_inY {K : PySem.W.Frag} {H : Hp} {Q : VK} {x : V} {p : Addr} {vs : List V} {α : Type} [DecidableEq α] [Datum α] (a : α) (xs : List α) (hd : Datum.depth α ≤ 63) (ha : Dp K H x (Datum.toD a)) (hl : SqL K H p vs) (hb : DpAll K H vs (xs.map Datum.toD)) (q : Q (.bl (decide (a ∈ xs))) H) : rInY K x (.ref p) H Q :=
  ⟨α, _, _, a, xs, p, vs, rfl, hd, ha, hl, hb, q⟩
theorem e_ninY {K : PySem.W.Frag} {H : Hp} {Q : VK} {x : V} {p : Addr} {vs : List V} {α : Type} [DecidableEq α] [Datum α] (a : α) (xs : List α) (hd : Datum.depth α ≤ 63) (ha : Dp K H x (Datum.toD a)) (hl : SqL K H p vs) (hb : DpAll K H vs (xs.map Datum.toD)) (q : Q (.bl (!decide (a ∈ xs))) H) : rNinY K x (.ref p) H Q :=
  ⟨α, _, _, a, xs, p, vs, rfl, hd, ha, hl, hb, q⟩
/-- d != e, two dicts of like data -/
def rNeDL (K : PySem.W.Frag) : R2 := fun x y H Q => ∃ (α : Type) (i1 : DecidableEq α) (i2 : Datum α) (a b : Addr) (ks ls : List (Key × V)), x = .ref a ∧ y = .ref b ∧ H a = some (.dK ks) ∧ H b = some (.dK ls) ∧ Datum.depth α ≤ 60 ∧ ks.length = ls.length ∧
  (∀ p ∈ ks, ∃ (u : V) (d : α), valV ls p.1 = some u ∧ Dp K H p.2 (Datum.toD d) ∧ Dp K H u (Datum.toD d)) ∧ Q (.bl false) H
theorem hits_dat {pins : List (Addr × Obj)} {σ : St} {H : Hp} {s : Shared} (I : Inv X pins σ H s) {A : Around} {α : Type} [DecidableEq α] [Datum α] (hA : A.units + Datum.depth α < cLine) {ls : List (Key × V)} {vb : List (Key × Value)} (rb : KV ls vb) {ks : List (Key × V)} {va : List (Key × Value)} (ra : KV ks va) :
    (∀ p ∈ ks, ∃ (u : V) (d : α), valV ls p.1 = some u ∧ Dp X.K H p.2 (Datum.toD d) ∧ Dp X.K H u (Datum.toD d)) → PySem.W.KeqHits A s vb va true := by
  unfold KV at ra
  induction ra with
  | nil => intro _; exact .nil
  | @cons p q ps qs h t ih =>
    intro hp
    obtain ⟨h1, h2⟩ := h
    obtain ⟨u, d, e, f1, f2⟩ := hp p List.mem_cons_self
    have rr : RelO (some u) (valueAt vb p.1) := by rw [← e]; exact rb.val p.1
    obtain ⟨y, hy, ry⟩ := rr.some_of
    obtain ⟨key, v⟩ := q
    have h1' : p.1 = key := h1
    rw [h1'] at hy
    obtain ⟨as, r1⟩ := Dp.reads I _ _ _ f1 h2
    obtain ⟨bs, r2⟩ := Dp.reads I _ _ _ f2 ry
    have eq := PySem.W.eqAt_datum (A := A) (x := d) (y := d) ⟨as, r1⟩ ⟨bs, r2⟩ hA
    rw [decide_eq_true (rfl : d = d)] at eq
    show PySem.W.KeqHits A s vb ((key, v) :: qs) (true && true)
    exact .hit hy eq (ih fun p' hm => hp p' (List.mem_cons_of_mem _ hm))
theorem op_neDL (hu : X.A.units + 64 < cLine) : OpR X (compareOp .NotEq) (rNeDL X.K) := by
  intro pins s σ H x y v u Q I rx ry h
  obtain ⟨α, i1, i2, a, b, ks, ls, rfl, rfl, ea, eb, hd, hlen, hp, q⟩ := h
  obtain rfl : v = Value.ref a := rx
  obtain rfl : u = Value.ref b := ry
  obtain ⟨_, ya, va, ra, da⟩ := (show ObjOk X.prog X.w H s.heap a (.dK ks) from I.hok a _ ea)
  obtain ⟨_, yb, vb, rb, db⟩ := (show ObjOk X.prog X.w H s.heap b (.dK ls) from I.hok b _ eb)
  have hl : va.length = vb.length := by rw [← ra.length, ← rb.length]; exact hlen
  refine PySem.W.keq_ne (knd := mixKind X.prog X.w) (r := true) ya yb da db (by omega) (fun _ => hits_dat (α := α) I (by show X.A.units + 1 + _ < cLine; omega) rb ra hp) ⟨.bl false, H, I, ?_, q⟩
  show Value.bool _ = Value.bool _
  simp [hl]
/-- the items of xs[lo:hi:st] -/
def pick3 {β : Type} (xs : List β) (lo hi : Option Int) (st : Int) : List β := (sliceRange (sliceBounds lo hi (some st) xs.length).1 (sliceBounds lo hi (some st) xs.length).2.1 (sliceBounds lo hi (some st) xs.length).2.2).filterMap (xs[·]?)
theorem pick3_map {β γ : Type} (f : β → γ) (xs : List β) (lo hi : Option Int) (st : Int) : pick3 (xs.map f) lo hi st = (pick3 xs lo hi st).map f := by
  unfold pick3
  rw [List.length_map, List.map_filterMap]
  congr 1
  funext i
  rw [List.getElem?_map]
theorem pick3_len {β : Type} (xs : List β) (lo hi : Option Int) (st : Int) : (pick3 xs lo hi st).length ≤ (sliceRange (sliceBounds lo hi (some st) xs.length).1 (sliceBounds lo hi (some st) xs.length).2.1 (sliceBounds lo hi (some st) xs.length).2.2).length := List.length_filterMap_le _ _
theorem vals_pick {xs : List V} {us : List Value} (r : Vals xs us) : ∀ is : List Nat, Vals (is.filterMap (xs[·]?)) (is.filterMap (us[·]?)) := by
  intro is
  induction is with
  | nil => exact .nil
  | cons i is ih =>
    rw [List.filterMap_cons, List.filterMap_cons]
    rcases hx : xs[i]? with _ | x
    · have hl := r.length
      have hu : us[i]? = none := by
        rw [List.getElem?_eq_none_iff] at hx ⊢
        omega
      rw [hu]
      exact ih
    · obtain ⟨u, hu, ru⟩ := Vals.get r hx
      rw [hu]
      exact .cons ru ih
def rSlL3 (K : PySem.W.Frag) (x : V) (lo hi : Option Int) (st : Int) (H : Hp) (Q : VK) : Prop := ∃ a xs, x = .ref a ∧ SqL K H a xs ∧ st ≠ 0 ∧ (pick3 xs lo hi st).length ≤ sizeLine ∧ ∀ p, H p = none → Q (.ref p) (upd H p (.lst (pick3 xs lo hi st)))
def tSl3 (K : PySem.W.Frag) (te : TE) (tl th tst : TO) : TE := fun σ H Q => te σ H fun x H1 => tl σ H1 fun l H2 => th σ H2 fun u H3 => tst σ H3 fun st H4 => ∃ i, st = some i ∧ rSlL3 K x l u i H4 Q
theorem an_slice3 {e : Expr} {te : TE} {lo hi : Option Expr} {e3 : Expr} {tl th tst : TO} {pos p2 : Pos} (he : PE X e te) (hl : PO X lo tl) (hu : PO X hi th) (hst : PO X (some e3) tst) : PE X (.Subscript e (.Slice lo hi (some e3) p2) pos) (tSl3 X.K te tl th tst) := by
  refine ⟨fun pins s σ H Q I h => ?_⟩
  refine Subscript_ (thn (he.run pins s σ H _ I h) fun v s1 ⟨x, H1, I1, r1, q1⟩ => ?_)
  refine wpAny_Slice (thn (hl.run pins s1 σ H1 _ I1 q1) fun vl s2 ⟨l, H2, I2, pl, q2⟩ => thn (hu.run pins s2 σ H2 _ I2 q2) fun vu s3 ⟨u, H3, I3, pu, q3⟩ => thn (hst.run pins s3 σ H3 _ I3 q3) fun vs s4 ⟨st, H4, I4, ps, q4⟩ => ?_)
  obtain ⟨i, rfl, a, xs, rfl, hx, hi0, hlen, q⟩ := q4
  have I5 : Inv X pins σ H4 { s4 with heap := s4.heap.push { cls := .type "slice", data := .fields #[vl, vu, vs] } } := I4.kept (t' := s4.toks) fun b ob q => Heap.get?_push_of_some _ q
  obtain rfl : v = Value.ref a := r1
  obtain ⟨its, r, ht, hz⟩ := I5.list hx
  have hl2 := r.length
  have hs2 : (⟨s4.heap.push { cls := .type "slice", data := .fields #[vl, vu, vs] }, s4.gens, s4.drawn, s4.toks, s4.os⟩ : Shared).heap.IsSliceOf s4.heap.objs.size vl vu vs := Heap.IsSliceOf.new ..
  refine tail_any (ops := [.ref a, .ref s4.heap.objs.size]) ht.isList.typeIs slot_list_getitem.lookup ?_ (by with_unfolding_all rfl)
  refine wpAny_getItem_list_slice ht.isList hs2 pl pu ps (by simpa using hi0) ?_ (by rw [List.size_toArray] <;> omega)
  have ep : slicePick its.toArray l u (some i) = (pick3 its l u i).toArray := by
    unfold slicePick pick3
    simp
  rw [ep]
  have el : pick3 its l u i = (sliceRange (sliceBounds l u (some i) xs.length).1 (sliceBounds l u (some i) xs.length).2.1 (sliceBounds l u (some i) xs.length).2.2).filterMap (its[·]?) := by
    unfold pick3
    rw [hl2]
  have rv : Vals (pick3 xs l u i) (pick3 its l u i) := by
    rw [el]
    exact vals_pick r _
  refine ⟨.ref _, _, I5.laid (t' := s4.toks) (o := .lst (pick3 xs l u i)) (fun b ob q => Heap.get?_push_of_some _ q) (Nat.le_refl _) ?_, rfl, q _ (I5.hok.fresh (Nat.le_refl _))⟩
  exact ⟨hlen, _, 0, rv, Heap.get?_push_size _ rfl⟩
theorem e_sl3 {K : PySem.W.Frag} {σ : St} {H : Hp} {Q : VK} {te : TE} {tl th tst : TO} (h : te σ H fun x H1 => tl σ H1 fun l H2 => th σ H2 fun u H3 => tst σ H3 fun st H4 => ∃ i, st = some i ∧ rSlL3 K x l u i H4 Q) : tSl3 K te tl th tst σ H Q := h
theorem e_slL3 {K : PySem.W.Frag} {H : Hp} {Q : VK} {a : Addr} {β : Type} {f : β → V} {xs : List β} {lo hi : Option Int} {st : Int} (h : SqL K H a (xs.map f)) (h0 : st ≠ 0) (hlen : (sliceRange (sliceBounds lo hi (some st) xs.length).1 (sliceBounds lo hi (some st) xs.length).2.1 (sliceBounds lo hi (some st) xs.length).2.2).length ≤ sizeLine)
    (q : ∀ p, H p = none → Q (.ref p) (upd H p (.lst ((pick3 xs lo hi st).map f)))) : ∃ i, some st = some i ∧ rSlL3 K (.ref a) lo hi i H Q :=
  ⟨st, rfl, a, _, rfl, h, h0, by rw [pick3_map, List.length_map]; exact Nat.le_trans (pick3_len ..) hlen, by rw [pick3_map]; exact q⟩
end
/-! ### comprehensions that sift a list of texts; heaps alike but for some places -/
def SameB (ds : List Addr) (H H' : Hp) : Prop := ∀ b o, ¬ b ∈ ds → H b = some o → H' b = some o
theorem SameB.refl {ds : List Addr} {H : Hp} : SameB ds H H := fun _ _ _ h => h
theorem SameB.same {ds : List Addr} {H H' H2 : Hp} (s : SameB ds H H') (s2 : Same H' H2) : SameB ds H H2 := fun b o hb h => s2 b o (s b o hb h)
theorem SameB.put {ds : List Addr} {H H' : Hp} {d : Addr} {o : HO} (s : SameB ds H H') (hd : d ∈ ds) : SameB ds H (upd H' d o) := fun b u hb h => by
  rw [upd_ne (fun e : b = d => hb (by rw [e]; exact hd))]
  exact s b u hb h
theorem SameB.of_same {ds : List Addr} {H H' : Hp} (s : Same H H') : SameB ds H H' := fun b o _ h => s b o h
theorem SameB.from {ds : List Addr} {H0 H H' : Hp} (s : SameB ds H H') (s0 : Same H0 H) (hn : ∀ d ∈ ds, H0 d = none) : Same H0 H' := fun b o h => s b o (fun hb => by rw [hn b hb] at h; cases h) (s0 b o h)
theorem SameB.refL {ds : List Addr} {H H' : Hp} {ys : List Str} {v : V} (s : SameB ds H H') (h : RefL H ys v) (hn : ∀ d ∈ ds, ∀ xs, H d ≠ some (.lst xs)) : RefL H' ys v := by
  obtain ⟨b, e, hb⟩ := h
  exact ⟨b, e, s _ _ (fun hd => hn b hd _ hb) hb⟩
def kLc (J : It) (g : TG) (tt : TT) (te : TE) (vs : List Nat) (σ : St) (Q : VK) (H1 : Hp) : Prop := ∀ D, H1 D = none → ∃ W : Nat → Nat → Hp → Prop, (∃ m, W 0 m (upd H1 D (.lst []))) ∧ ∀ i m H, W i m H →
  (J.stop i H ∧ Q (.ref D) H) ∨ (J.go i H ∧ ∃ Nx : Hp → Prop, (∀ H', Nx H' → ∃ m', m' < m ∧ W (i + 1) m' H') ∧ ∀ x H', J.yld i H x H' → g x (wipe σ vs) H' fun σ2 H2 => wipe σ2 vs = wipe σ vs ∧ tt σ2 H2 fun b H3 =>
    if b = true then te σ2 H3 fun y H4 => ∃ acc, H4 D = some (.lst acc) ∧ acc.length < sizeLine ∧ Nx (upd H4 D (.lst (acc ++ [y]))) else Nx H3)
theorem e_lc {wi : TI} {g : TG} {tt : TT} {te : TE} {vs : List Nat} {σ : St} {H : Hp} {Q : VK} (h : wi σ H fun J H1 => kLc J g tt te vs σ Q H1) : tLc wi g tt te vs σ H Q := h
theorem k_lcS {K : PySem.W.Frag} {a : Addr} {xs : List Str} {tt : TT} {i : Nat} {σ : St} {H : Hp} {Q : VK} (p : Str → Bool) (h : SqL K H a (xs.map V.str)) (hn : xs.length ≤ 1000)
    (hw : ∀ v, wipe ((wipe σ [i]).set i (some v)) [i] = wipe σ [i]) (hv : ∀ v : V, ((wipe σ [i]).set i (some v))[i]? = some (some v))
    (ht : ∀ (z : Str) (H' : Hp) (R : Bool → Hp → Prop), z ∈ xs → Same H H' → R (p z) H' → tt ((wipe σ [i]).set i (some (.str z))) H' R)
    (q : ∀ D H', H D = none → Same H H' → H' D = some (.lst ((xs.filter p).map V.str)) → Q (.ref D) H') : kIL K (.ref a) H fun J H1 => kLc J (gName i) tt (tVar i) [i] σ Q H1 := by
  refine ⟨a, rfl, ⟨_, h⟩, fun D hD => lc_list (fun n H' => Same H H' ∧ H' D = some (.lst (((xs.take n).filter p).map V.str))) ⟨same1 hD, upd_same⟩ (fun n H' _ z => z.1.seq h) ?_ ?_⟩
  · rintro n x H' hx ⟨s, hd⟩
    have hx2 : ∃ z, x = .str z ∧ xs[n]? = some z := by
      rw [List.getElem?_map] at hx
      cases e : xs[n]? with
      | none => rw [e] at hx; cases hx
      | some z => rw [e] at hx; exact ⟨z, (Option.some.inj hx).symm, rfl⟩
    obtain ⟨z, rfl, hz⟩ := hx2
    have hil := List.getElem?_eq_some_iff.mp hz
    have et : xs.take (n + 1) = xs.take n ++ [z] := by rw [List.take_succ_eq_append_getElem hil.1, hil.2]
    refine ⟨hw _, ht z H' _ (List.mem_of_getElem? hz) s ?_⟩
    cases e : p z with
    | true =>
      rw [if_pos rfl]
      refine ⟨_, hv _, _, hd, ?_, same_mut s hD, ?_⟩
      · rw [List.length_map]
        have := List.length_filter_le p (xs.take n)
        rw [List.length_take] at this
        exact small1000 (by omega)
      · rw [upd_same, et, List.filter_append, List.map_append, List.filter_cons, if_pos e]
        rfl
    | false =>
      rw [if_neg (by decide)]
      refine ⟨s, ?_⟩
      rw [et, List.filter_append, List.filter_cons, if_neg (by rw [e]; decide), List.filter_nil, List.append_nil]
      exact hd
  · rintro H' ⟨s, hd⟩
    rw [List.length_map, List.take_of_length_le (Nat.le_refl _)] at hd
    exact q D H' hD s hd
/-! ### code that is not come to; methods; new instances -/
def tNevE : TE := fun _ _ _ => False
def gNev : TG := fun _ _ _ _ => False
def tNevT : TT := fun _ _ _ => False
section
variable {X : Cx}
theorem pe_nev {e : Expr} : PE X e tNevE := ⟨fun _ _ _ _ _ _ h => h.elim⟩
theorem ps_nev {st : Stmt} : PS X st tNever := ⟨fun _ _ _ _ _ _ h => h.elim⟩
theorem pg_nev {e : Expr} : PG X e gNev := ⟨fun _ _ _ _ _ _ _ _ _ h => h.elim⟩
end
theorem lookup_none {f : Str} {ns : List Str} {vs : List V} (h : posOf ns f = none) : (ns.zip vs).lookup f = none := by
  cases e : (ns.zip vs).lookup f with
  | none => rfl
  | some v =>
    have hm : (f, v) ∈ ns.zip vs := by
      have key : ∀ l : List (Str × V), l.lookup f = some v → (f, v) ∈ l := by
        intro l
        induction l with
        | nil => intro h; cases h
        | cons p r ih =>
          intro h
          obtain ⟨a, b⟩ := p
          unfold List.lookup at h
          cases q : (f == a) with
          | true =>
            rw [q] at h
            rw [beq_iff_eq.mp q]
            cases h
            exact List.mem_cons_self
          | false =>
            rw [q] at h
            exact List.mem_cons_of_mem _ (ih h)
      exact key _ e
    have h2 := (List.of_mem_zip hm).1
    unfold posOf at h
    rw [List.findIdx?_eq_none_iff] at h
    have := h f h2
    simp at this
def kMC (C : Addr) (m : Str) (x : V) (H : Hp) (P : Prop) : Prop := ∃ a dx fs, x = .ref a ∧ H a = some (.ins C dx fs) ∧ fs.lookup m = none ∧ P
/-- o.m(..), o an instance of the class at C -/
def tMC (C : Addr) (m : Str) (sp : Sp) (ta : TE) (t : TA) : TE := fun σ H Q => ta σ H fun x H1 => kMC C m x H1 (t σ H1 fun vs H2 => sp (x :: vs) H2 Q E0)
def kMK (C : Addr) (sp : Sp) (vs : List V) (H : Hp) (Q : VK) : Prop := ∀ x dx, H x = none → H dx = none → dx ≠ x → sp (.ref x :: vs) (upd (upd H dx (.own x)) x (ob C [] dx [])) (fun v H2 => v = .non ∧ Q (.ref x) H2) E0
/-- C(..) -/
def tMK (C : Addr) (sp : Sp) (t : TA) : TE := fun σ H Q => t σ H fun vs H1 => kMK C sp vs H1 Q
theorem tMC_eq (C : Addr) (m : Str) (sp : Sp) (ta : TE) (t : TA) : tMeth C m sp [] E0 ta t = tMC C m sp ta t := by
  unfold tMeth tMC kMC
  simp only [List.append_nil]
theorem tMK_eq (C : Addr) (sp : Sp) (t : TA) : tMake C sp [] E0 t = tMK C sp t := by
  unfold tMake tMK kMK
  simp only [List.append_nil] <;> rfl
section
variable {X : Cx} {k : Nat} {f C : Addr} {ps ns : List Str} {sp : Sp} {x m : Str} {p pos apos : Pos} {e o : Expr} {es : List Expr} {ta : TE} {t : TA}
theorem an_meth {pl : Sem Bool} (c : IsC X.K C ns) (hm : Meth X.K C m f) (F : Ok X.prog X.w X.K X.mg X.base k f ps sp) (hr : Room k X.A) (he : PE X o ta) (ha : PA X (e :: es) t)
    (hst : starEach (e :: es) X.env = (false, eval e X.env) :: starEach es X.env := by rfl) (hpl : (backTo pos (starEach es X.env)).any (·.1) = false := by rfl)
    (ht : eval (.Call (.Attribute o m apos) (e :: es) [] pos) X.env = (do
      let ov ← eval o X.env
      standAt apos.atName
      let (f, first) ← holding [ov] (getMethod ov m pl)
      callWith pos f first (backTo pos (starEach (e :: es) X.env)) (backToKw pos (keywordEach [] X.env))) := by rfl) : PE X (.Call (.Attribute o m apos) (e :: es) [] pos) (tMC C m sp ta t) := by
  obtain ⟨fd, F, b, kp, _⟩ := F
  rw [← tMC_eq]
  exact pe_meth he c.cl hm F hr b .nil passL ha hst hpl ht
theorem an_meth0 {pl : Sem Bool} (c : IsC X.K C ns) (hm : Meth X.K C m f) (F : Ok X.prog X.w X.K X.mg X.base k f ps sp) (hr : Room k X.A) (he : PE X o ta)
    (ht : eval (.Call (.Attribute o m apos) [] [] pos) X.env = (do
      let ov ← eval o X.env
      standAt apos.atName
      let (f, first) ← holding [ov] (getMethod ov m pl)
      callWith pos f first (backTo pos (starEach [] X.env)) (backToKw pos (keywordEach [] X.env))) := by rfl) : PE X (.Call (.Attribute o m apos) [] [] pos) (tMC C m sp ta tNil) := by
  obtain ⟨fd, F, b, kp, _⟩ := F
  rw [← tMC_eq]
  exact pe_meth0 he c.cl hm F hr b .nil passL ht
theorem an_make (M : Mk X.K C f) (F : Ok X.prog X.w X.K X.mg X.base k f ps sp) (hr : Room (k + 1) X.A) (hm : X.mg x = some (.ref C)) (ha : PA X (e :: es) t) (hg : Gl X x := by rfl)
    (hdb : (x == ("__debug__" : Str)) = false := by decide) (he : starEach (e :: es) X.env = (false, eval e X.env) :: starEach es X.env := by rfl) (hpl : (backTo pos (starEach es X.env)).any (·.1) = false := by rfl) :
    PE X (.Call (.Name x p) (e :: es) [] pos) (tMK C sp t) := by
  obtain ⟨fd, F, b, kp, _⟩ := F
  rw [← tMK_eq]
  exact pe_make M F hr hg hm b .nil passL ha hdb he hpl
theorem an_make0 (M : Mk X.K C f) (F : Ok X.prog X.w X.K X.mg X.base k f ps sp) (hr : Room (k + 1) X.A) (hm : X.mg x = some (.ref C)) (hg : Gl X x := by rfl)
    (hdb : (x == ("__debug__" : Str)) = false := by decide) : PE X (.Call (.Name x p) [] [] pos) (tMK C sp tNil) := by
  obtain ⟨fd, F, b, kp, _⟩ := F
  rw [← tMK_eq]
  exact pe_make0 M F hr hg hm b .nil passL hdb
theorem an_call0 (F : Ok X.prog X.w X.K X.mg X.base k f ps sp) (hr : Room k X.A) (hm : X.mg x = some (.ref f)) (hg : Gl X x := by rfl) (hdb : (x == ("__debug__" : Str)) = false := by decide) : PE X (.Call (.Name x p) [] [] pos) (tCall sp [] E0 tNil) := by
  obtain ⟨fd, F, b, kp, _⟩ := F
  exact pe_call0 F hr hg hm kp b .nil passL hdb
end
section
variable {σ : St} {H : Hp} {Q : VK} {a C dx : Addr} {ns : List Str} {vs : List V} {m : Str} {sp : Sp} {ta : TE} {t : TA}
theorem e_mc (h : ta σ H fun x H1 => kMC C m x H1 (t σ H1 fun vs H2 => sp (x :: vs) H2 Q E0)) : tMC C m sp ta t σ H Q := h
theorem k_mc {P : Prop} (h : H a = some (ob C ns dx vs)) (l : posOf ns m = none) (q : P) : kMC C m (.ref a) H P := ⟨a, dx, _, rfl, h, lookup_none l, q⟩
theorem e_mk (h : t σ H fun vs H1 => kMK C sp vs H1 Q) : tMK C sp t σ H Q := h
end
/-! ### comprehensions over dicts and lists, by an invariant -/
section
variable {σ : St} {H : Hp} {Q : VK} {g : TG} {tt : TT} {te : TE} {vs : List Nat}
theorem k_lcK {d : Addr} {od : Obj} {l : List (Str × V)} (Pv : Nat → Addr → Hp → Prop) (h : H d = some (.frz od (.dK (skv l)))) (h0 : ∀ D, H D = none → Pv 0 D (upd H D (.lst []))) (hl : ∀ i D H, Pv i D H → H d = some (.frz od (.dK (skv l))))
    (hs : ∀ i k v D H', H D = none → l[i]? = some (k, v) → Pv i D H' → g (.str k) (wipe σ vs) H' fun σ2 H2 => wipe σ2 vs = wipe σ vs ∧ tt σ2 H2 fun b H3 => if b = true then te σ2 H3 fun y H4 => ∃ acc, H4 D = some (.lst acc) ∧ acc.length < sizeLine ∧ Pv (i + 1) D (upd H4 D (.lst (acc ++ [y]))) else Pv (i + 1) D H3)
    (hd : ∀ D H', H D = none → Pv l.length D H' → Q (.ref D) H') : kIK (.ref d) H fun J H1 => kLc J g tt te vs σ Q H1 :=
  ⟨d, od, rfl, .inl ⟨skv l, h, fun D hD => ⟨fun i m H => m = l.length - i ∧ i ≤ l.length ∧ Pv i D H, ⟨l.length, by simp, Nat.zero_le _, h0 D hD⟩, by
    rintro i m H' ⟨rfl, hi, p⟩
    have ls : (skv l).length = l.length := List.length_map _
    by_cases hlt : i < l.length
    · refine .inr ⟨⟨hl i D H' p, by rw [ls]; exact hlt⟩, Pv (i + 1) D, fun H' p' => ⟨l.length - (i + 1), by omega, rfl, hlt, p'⟩, fun x H' y => ?_⟩
      obtain ⟨e, k, v, hk, y⟩ := y
      subst e y
      unfold skv at hk
      rw [List.getElem?_map] at hk
      cases q : l[i]? with
      | none => rw [q] at hk; cases hk
      | some kv =>
        rw [q] at hk
        cases hk
        exact hs i kv.1 kv.2 D _ hD (by rw [q]) p
    · have e : i = l.length := by omega
      subst e
      exact .inl ⟨⟨hl _ D H' p, by rw [ls]; exact Nat.le_refl _⟩, hd D H' hD p⟩⟩⟩⟩
theorem k_lcL {K : PySem.W.Frag} {a : Addr} {xs : List V} (Pv : Nat → Addr → Hp → Prop) (h : SqL K H a xs) (h0 : ∀ D, H D = none → Pv 0 D (upd H D (.lst []))) (hl : ∀ i D H', i ≤ xs.length → Pv i D H' → SqL K H' a xs)
    (hs : ∀ i x D H', H D = none → xs[i]? = some x → Pv i D H' → g x (wipe σ vs) H' fun σ2 H2 => wipe σ2 vs = wipe σ vs ∧ tt σ2 H2 fun b H3 => if b = true then te σ2 H3 fun y H4 => ∃ acc, H4 D = some (.lst acc) ∧ acc.length < sizeLine ∧ Pv (i + 1) D (upd H4 D (.lst (acc ++ [y]))) else Pv (i + 1) D H3)
    (hd : ∀ D H', H D = none → Pv xs.length D H' → Q (.ref D) H') : kIL K (.ref a) H fun J H1 => kLc J g tt te vs σ Q H1 :=
  ⟨a, rfl, ⟨_, h⟩, fun D hD => lc_list (fun i H' => Pv i D H') (h0 D hD) (fun i H' hi p => hl i D H' hi p) (fun i x H' hx p => hs i x D H' hD hx p) (fun H' p => hd D H' hD p)⟩
theorem k_lc0 {K : PySem.W.Frag} {a : Addr} (h : SqL K H a []) (q : ∀ D, H D = none → Q (.ref D) (upd H D (.lst []))) : kIL K (.ref a) H fun J H1 => kLc J g tt te vs σ Q H1 :=
  k_lcL (fun i D H' => H' = upd H D (.lst []) ∧ H D = none) h (fun D hD => ⟨rfl, hD⟩) (fun i D H' _ p => by
    obtain ⟨rfl, hD⟩ := p
    exact (same1 hD).seq h) (fun i x D H' _ hx _ => by simp at hx) fun D H' hD p => by
    obtain ⟨rfl, _⟩ := p
    exact q D hD
theorem e_lockE (d : Addr) (u : HO) {t : TE} (h : H d = some u) (m : Mut (some u)) (q : ∀ od, t σ (upd H d (.frz od u)) fun v H' => H' d = some (.frz od u) ∧ Q v (upd H' d u)) : tLockE t σ H Q := ⟨d, u, h, m, q⟩
theorem e_yes {Q : Bool → Hp → Prop} (h : Q true H) : tYes σ H Q := h
/-- a heap with an object put back as it was -/
theorem upd_back {d : Addr} {u o : HO} (h : H d = some u) : upd (upd H d o) d u = H := by
  funext b
  by_cases e : b = d
  · rw [e, upd_same, h]
  · rw [upd_ne e, upd_ne e]
end
theorem e_inT {c : Nat} {z : Str} {H : Hp} {Q : VK} (q : Q (.bl (decide (c ∈ z.cps.toList))) H) : rInS (.str ⟨#[c]⟩) (.str z) H Q := ⟨c, z, rfl, rfl, q⟩
theorem e_ninT {c : Nat} {z : Str} {H : Hp} {Q : VK} (q : Q (.bl (!decide (c ∈ z.cps.toList))) H) : rNotInS (.str ⟨#[c]⟩) (.str z) H Q := ⟨c, z, rfl, rfl, q⟩
theorem e_notN {x : V} {H : Hp} {Q : VK} (q : Q (.bl (!decide (x = .non))) H) : rNotN x .non H Q := ⟨rfl, q⟩
theorem e_isN {x : V} {H : Hp} {Q : VK} (q : Q (.bl (decide (x = .non))) H) : rIsN x .non H Q := ⟨rfl, q⟩
local macro_rules | `(tactic| walk_at "g1") => `(tactic| first | (with_reducible apply e_lc) | (with_reducible apply e_sl3) | (with_reducible apply e_mc) | (with_reducible apply e_mk))
local macro_rules | `(tactic| walk_at "g1") => `(tactic| first | (with_reducible apply e_yes) | (with_reducible apply e_inT) | (with_reducible apply e_ninT) | (with_reducible apply e_notN) | (with_reducible apply e_isN))
open He (ga ma)
/-! ### names -/
def nameB (x : Str) : Bool := decide (¬ x = "") && (decide (x.length ≤ 6) && x.cps.toList.all fun c => decide (c ∈ ("abcdefghijklmnopqrstuvwxyz" : Str).cps.toList))
def sp_is_name : Sp := fun vs H Q _ => ∃ x : Str, vs = [.str x] ∧ x.length ≤ 1000 ∧ Q (.bl (nameB x)) H
theorem ln_is_name {vs : List V} {H : Hp} {Q : VK} {E : XK} (h : sp_is_name vs H Q E) : vs.length = 1 := by
  obtain ⟨x, rfl, _⟩ := h
  rfl
abbrev n_is_name : List Str := ["word", "sign"]
def t_is_name (K : PySem.W.Frag) (W : WX) : TS :=
  tSeq (tIfS (tOr (tTest (tOp rEq (tVar 0) (tC (.str "")))) (tTest (tOp rGtI (tCB rLenT (tCons (tVar 0) tNil)) (tC (.int 6))))) (tRet (tC (.bl false))) tNext)
  (tSeq (tFor (iStr (tVar 0)) (gName 1) (tIfS (tTest (tOp rNotInS (tVar 1) (tC (.str "abcdefghijklmnopqrstuvwxyz")))) (tRet (tC (.bl false))) tNext))
  (tRet (tC (.bl true))))
theorem all_take {l : List Nat} {p : Nat → Bool} {i c : Nat} (h : l[i]? = some c) (ht : (l.take i).all p = true) (hc : p c = true) : (l.take (i + 1)).all p = true := by
  have hil := List.getElem?_eq_some_iff.mp h
  rw [List.take_succ_eq_append_getElem hil.1, hil.2, List.all_append, ht]
  simp [hc]
theorem pure_is_name {K : PySem.W.Frag} {vs : List V} {H : Hp} {Q : VK} {E : XK} {W : WX} (h : sp_is_name vs H Q E) : t_is_name K W { nx := fun _ H' => Q .non H', rt := Q } (start n_is_name vs) H := by
  obtain ⟨x, rfl, hl, k⟩ := h
  show t_is_name K W _ [some (.str x), none] H
  unfold t_is_name
  walk_at "go"
  refine ifd (fun h0 => ?_) (fun h0 => ?_)
  · walk_at "go"
    have e : nameB x = false := by unfold nameB; rw [h0]; rfl
    rw [e] at k
    exact k
  · walk_at "go"
    refine e_lenT (by rw [sizeLine_eq]; omega) ?_
    walk_at "go"
    refine ifd (fun h6 => ?_) (fun h6 => ?_)
    · walk_at "go"
      have e : nameB x = false := by
        unfold nameB
        rw [decide_eq_false (p := x.length ≤ 6) (by omega), Bool.false_and, Bool.and_false]
      rw [e] at k
      exact k
    · walk_at "go"
      refine k_forS (fun i σ H' => (∃ v, σ = [some (.str x), v]) ∧ H' = H ∧ (x.cps.toList.take i).all (fun c => decide (c ∈ ("abcdefghijklmnopqrstuvwxyz" : Str).cps.toList)) = true) ⟨⟨_, rfl⟩, rfl, by simp⟩ ?_ ?_
      · rintro i c σ H' hc ⟨⟨v, rfl⟩, rfl, ha⟩
        walk_at "go"
        refine ifn (fun hn => ?_) (fun hy => ?_)
        · walk_at "go"
          have e : nameB x = false := by
            unfold nameB
            have : x.cps.toList.all (fun c => decide (c ∈ ("abcdefghijklmnopqrstuvwxyz" : Str).cps.toList)) = false := by
              rw [Bool.eq_false_iff]
              intro z
              have := List.all_eq_true.mp z c (List.mem_of_getElem? hc)
              exact hn (of_decide_eq_true this)
            rw [this, Bool.and_false, Bool.and_false]
          rw [e] at k
          exact k
        · walk_at "go"
          exact ⟨⟨_, rfl⟩, rfl, all_take hc ha (decide_eq_true hy)⟩
      · rintro σ H' ⟨⟨v, rfl⟩, rfl, ha⟩
        walk_at "go"
        have ha : x.cps.toList.all (fun c => decide (c ∈ ("abcdefghijklmnopqrstuvwxyz" : Str).cps.toList)) = true := by
          rw [List.take_of_length_le (by show _ ≤ x.cps.size; rw [Array.length_toList]; exact Nat.le_refl _)] at ha
          exact ha
        have e : nameB x = true := by
          unfold nameB
          rw [ha, decide_eq_true h0, decide_eq_true (p := x.length ≤ 6) (by omega)]
          rfl
        rw [e] at k
        exact k
/-- need_name, of a name -/
def sp_need_name : Sp := fun vs H Q _ => ∃ x : Str, vs = [.str x] ∧ x.length ≤ 1000 ∧ nameB x = true ∧ Q .non H
theorem ln_need_name {vs : List V} {H : Hp} {Q : VK} {E : XK} (h : sp_need_name vs H Q E) : vs.length = 1 := by
  obtain ⟨x, rfl, _⟩ := h
  rfl
abbrev n_need_name : List Str := ["name"]
def t_need_name (K : PySem.W.Frag) (W : WX) : TS :=
  tIfS (tNot (tB (tCW sp_is_name W (tCons (tVar 0) tNil)))) tNever tNext
theorem pure_need_name {K : PySem.W.Frag} {vs : List V} {H : Hp} {Q : VK} {E : XK} {W : WX} (h : sp_need_name vs H Q E) : t_need_name K W { nx := fun _ H' => Q .non H', rt := Q } (start n_need_name vs) H := by
  obtain ⟨x, rfl, hl, hn, k⟩ := h
  show t_need_name K W _ [some (.str x)] H
  unfold t_need_name
  walk_at "go"
  refine ⟨x, rfl, hl, ?_⟩
  walk_at "go"
  rw [hn]
  refine iteF ?_
  walk_at "go"
  exact k
theorem lawName_nameB (c : Int) (k : Nat) : nameB (lawName c k) = true := by
  have h1 : 0 ≤ c % 6 := Int.emod_nonneg _ (by decide)
  have h2 : c % 6 < 6 := Int.emod_lt_of_pos _ (by decide)
  have hlen : (lawName c k).length = (1 + c % 6).toNat := by
    unfold lawName nmCodes
    show ((List.range _).map _).toArray.size = _
    simp
  unfold nameB
  rw [decide_eq_true (p := (lawName c k).length ≤ 6) (by rw [hlen]; omega), decide_eq_true (p := ¬ lawName c k = "") (by
    intro e
    rw [e] at hlen
    have : (0 : Nat) = (1 + c % 6).toNat := hlen
    omega)]
  simp only [Bool.true_and]
  rw [List.all_eq_true]
  intro x hx
  have hx : x ∈ (List.range (1 + c % 6).toNat).map (nmCode c k) := by
    unfold lawName nmCodes at hx
    simpa using hx
  obtain ⟨p, _, rfl⟩ := List.mem_map.mp hx
  have e : ("abcdefghijklmnopqrstuvwxyz" : Str).cps.toList = (List.range 26).map (97 + ·) := by decide +kernel
  rw [e]
  refine decide_eq_true (List.mem_map.mpr ⟨(nmStep c k p % 26).toNat, ?_, rfl⟩)
  rw [List.mem_range]
  have h1 : 0 ≤ nmStep c k p % 26 := Int.emod_nonneg _ (by decide)
  have h2 : nmStep c k p % 26 < 26 := Int.emod_lt_of_pos _ (by decide)
  omega
theorem lawNames_name {c : Int} {n : Nat} {x : Str} (h : x ∈ lawNames c n) : nameB x = true := by
  unfold lawNames at h
  obtain ⟨k, _, rfl⟩ := List.mem_map.mp h
  exact lawName_nameB c k
theorem name_len {x : Str} (h : nameB x = true) : x.length ≤ 6 := by
  unfold nameB at h
  rw [Bool.and_eq_true, Bool.and_eq_true] at h
  exact of_decide_eq_true h.2.1
/-! ### a hall of wells alone -/
open He (ga ma)
abbrev ns_Hall : List Str := ["welled", "made", "kept", "sure", "taken", "points", "number"]
abbrev ns_Asking : List Str := ["house", "under", "place", "lowest", "standing", "heard", "looked"]
def wv (ws : List (Str × Int)) : List (Str × V) := ws.map fun p => (p.1, V.int p.2)
theorem wv_get (ws : List (Str × Int)) (x : Str) : getS (wv ws) x = (getS ws x).map V.int := getS_map V.int ws x
theorem wv_put (ws : List (Str × Int)) (x : Str) (n : Int) : putS (wv ws) x (V.int n) = wv (putS ws x n) := putS_map V.int ws x n
theorem wv_keys (ws : List (Str × Int)) : (wv ws).map (·.1) = ws.map (·.1) := by unfold wv; rw [List.map_map]; rfl
theorem wv_len (ws : List (Str × Int)) : (wv ws).length = ws.length := List.length_map _
/-- the hall at h: wells ws in the dict at w, no works at m, nothing kept at kp, no runs at t -/
def HallR (K : PySem.W.Frag) (H : Hp) (h w m kp t : Addr) (ws : List (Str × Int)) : Prop :=
  (∃ dx sv pv nv, H h = some (ob (ga K "Hall") ns_Hall dx [.ref w, .ref m, .ref kp, sv, .ref t, pv, nv])) ∧ H w = some (dS (wv ws)) ∧ H m = some (dS []) ∧ H kp = some (dS []) ∧ H t = some (.lst [])
theorem HallR.sameB {K : PySem.W.Frag} {ds : List Addr} {H H' : Hp} {h w m kp t : Addr} {ws : List (Str × Int)} (r : HallR K H h w m kp t ws) (s : SameB ds H H') (nd : ∀ a ∈ [h, w, m, kp, t], ¬ a ∈ ds) : HallR K H' h w m kp t ws := by
  obtain ⟨⟨dx, sv, pv, nv, r1⟩, r2, r3, r4, r5⟩ := r
  exact ⟨⟨dx, sv, pv, nv, s _ _ (nd _ (by simp)) r1⟩, s _ _ (nd _ (by simp)) r2, s _ _ (nd _ (by simp)) r3, s _ _ (nd _ (by simp)) r4, s _ _ (nd _ (by simp)) r5⟩
theorem HallR.same {K : PySem.W.Frag} {H H' : Hp} {h w m kp t : Addr} {ws : List (Str × Int)} (r : HallR K H h w m kp t ws) (s : Same H H') : HallR K H' h w m kp t ws := r.sameB (ds := []) (SameB.of_same s) (by simp)
def sp_Hall_init (K : PySem.W.Frag) : Sp := fun vs H Q _ => ∃ (h dx : Addr), vs = [.ref h] ∧ H h = some (ob (ga K "Hall") [] dx []) ∧ ∀ (w m kp t : Addr) (H' : Hp), SameB [h] H H' → H w = none → H m = none → H kp = none → w ≠ m → w ≠ kp → m ≠ kp → HallR K H' h w m kp t [] → H t = none → Q .non H'
theorem ln_Hall___init__ {K : PySem.W.Frag} {vs : List V} {H : Hp} {Q : VK} {E : XK} (h : sp_Hall_init K vs H Q E) : vs.length = 1 := by
  obtain ⟨h, dx, rfl, _⟩ := h
  rfl
abbrev n_Hall___init__ : List Str := ["self"]
def t_Hall___init__ (K : PySem.W.Frag) (W : WX) : TS :=
  tSeq (sNw (ga K "Hall") [] "welled" (tVar 0) tDNewK)
  (tSeq (sNw (ga K "Hall") ["welled"] "made" (tVar 0) tDNewK)
  (tSeq (sNw (ga K "Hall") ["welled", "made"] "kept" (tVar 0) tDNewK)
  (tSeq (sNw (ga K "Hall") ["welled", "made", "kept"] "sure" (tVar 0) tDNewK)
  (tSeq (sNw (ga K "Hall") ["welled", "made", "kept", "sure"] "taken" (tVar 0) (tLst tNil))
  (tSeq (sNw (ga K "Hall") ["welled", "made", "kept", "sure", "taken"] "points" (tVar 0) (tLst tNil))
  (sNw (ga K "Hall") ["welled", "made", "kept", "sure", "taken", "points"] "number" (tVar 0) (tC (.int 0))))))))
theorem upd_o {H : Hp} {a b : Addr} {o u : HO} (h : H b = some u) (n : b ≠ a) : upd H a o b = some u := by rw [upd_ne n]; exact h
theorem SameB.trans {ds : List Addr} {A B C : Hp} (a : SameB ds A B) (b : SameB ds B C) : SameB ds A C := fun x u n e => b x u n (a x u n e)
theorem SameB.fresh {ds : List Addr} {A B : Hp} {x : Addr} (s : SameB ds A B) (n : ¬ x ∈ ds) (e : B x = none) : A x = none := by
  cases q : A x with
  | none => rfl
  | some u => rw [s _ _ n q] at e; cases e
/-- a new attribute; the heap hidden -/
theorem k_nwF {C a dx : Addr} {ns : List Str} {vs : List V} {f : Str} {y : V} {H : Hp} {P : Hp → Prop} (h : H a = some (ob C ns dx vs)) (l : vs.length = ns.length)
    (q : ∀ H', SameB [a] H H' → H' a = some (ob C (ns ++ [f]) dx (vs ++ [y])) → P H') : kNw C ns f (.ref a) y H P := k_nw h l (q _ (SameB.refl.put (by simp)) upd_same)
/-- .. of a new object -/
theorem k_nwN {C a dx b : Addr} {ns : List Str} {vs : List V} {f : Str} {o : HO} {H : Hp} {P : Hp → Prop} (hb : H b = none) (h : H a = some (ob C ns dx vs)) (l : vs.length = ns.length)
    (q : ∀ H', SameB [a] H H' → H' a = some (ob C (ns ++ [f]) dx (vs ++ [.ref b])) → H' b = some o → b ≠ a → P H') : kNw C ns f (.ref a) (.ref b) (upd H b o) P :=
  have n : b ≠ a := fun e => by rw [e, h] at hb; cases hb
  k_nw (upd_o h n.symm) l (q _ ((SameB.of_same (same1 hb)).put (by simp)) upd_same (upd_o upd_same n) n)
theorem pure_Hall___init__ {K : PySem.W.Frag} {vs : List V} {H : Hp} {Q : VK} {E : XK} {W : WX} (h : sp_Hall_init K vs H Q E) : t_Hall___init__ K W { nx := fun _ H' => Q .non H', rt := Q } (start n_Hall___init__ vs) H := by
  obtain ⟨h, dx, rfl, hh, k⟩ := h
  show t_Hall___init__ K W _ [some (.ref h)] H
  unfold t_Hall___init__
  walk_at "go"
  intro w hw
  walk_at "go"
  refine k_nwN hw hh rfl fun H1 s1 h1 w1 wh => ?_
  walk_at "go"
  intro m hm
  walk_at "go"
  refine k_nwN hm h1 rfl fun H2 s2 h2 m2 mh => ?_
  walk_at "go"
  intro kp hk
  walk_at "go"
  refine k_nwN hk h2 rfl fun H3 s3 h3 k3 kh => ?_
  walk_at "go"
  intro sv hs
  walk_at "go"
  refine k_nwN hs h3 rfl fun H4 s4 h4 _ _ => ?_
  walk_at "go"
  intro t ht
  walk_at "go"
  refine k_nwN ht h4 rfl fun H5 s5 h5 t5 th => ?_
  walk_at "go"
  intro pv hp
  walk_at "go"
  refine k_nwN hp h5 rfl fun H6 s6 h6 _ _ => ?_
  walk_at "go"
  refine k_nwF h6 rfl fun H7 s7 h7 => ?_
  walk_at "go"
  have w2 := s2 _ _ (by simpa using wh) w1
  have mw : m ≠ w := fun e => by rw [e, w1] at hm; cases hm
  have kw : kp ≠ w := fun e => by rw [e, w2] at hk; cases hk
  have km : kp ≠ m := fun e => by rw [e, m2] at hk; cases hk
  have s47 := s4.trans (s5.trans (s6.trans s7))
  have m7 := (s3.trans s47) _ _ (by simpa using mh) m2
  have w7 := (s3.trans s47) _ _ (by simpa using wh) w2
  have k7 := s47 _ _ (by simpa using kh) k3
  have t7 := (s6.trans s7) _ _ (by simpa using th) t5
  have s13 := s1.trans (s2.trans s3)
  exact k w m kp t _ (s13.trans s47) hw (s1.fresh (by simpa using mh) hm) ((s1.trans s2).fresh (by simpa using kh) hk) mw.symm kw.symm km.symm ⟨⟨dx, .ref sv, .ref pv, .int 0, h7⟩, w7, m7, k7, t7⟩ ((s13.trans s4).fresh (by simpa using th) ht)
/-! ### the hall's deeds -/
def sp_need_room (K : PySem.W.Frag) : Sp := fun vs H Q _ => ∃ (h w m kp t : Addr) (ws : List (Str × Int)) (x : Str), vs = [.ref h, .str x] ∧ HallR K H h w m kp t ws ∧ ws.length < 10 ∧ Q .non H
theorem ln_Hall_need_room {K : PySem.W.Frag} {vs : List V} {H : Hp} {Q : VK} {E : XK} (h : sp_need_room K vs H Q E) : vs.length = 2 := by
  obtain ⟨h, w, m, kp, t, ws, x, rfl, _⟩ := h
  rfl
abbrev n_Hall_need_room : List Str := ["self", "name"]
def t_Hall_need_room (K : PySem.W.Frag) (W : WX) : TS :=
  tSeq (tIfS (tOr (tB (tDi (tVar 1) (tFi (ga K "Hall") ns_Hall 0 (tVar 0)))) (tB (tDi (tVar 1) (tFi (ga K "Hall") ns_Hall 1 (tVar 0))))) tRetN tNext)
  (tIfS (tTest (tOp rGeI (tOp rAddI (tCB rLenD (tCons (tFi (ga K "Hall") ns_Hall 0 (tVar 0)) tNil)) (tCB rLenD (tCons (tFi (ga K "Hall") ns_Hall 1 (tVar 0)) tNil))) (tC (.int 10)))) tNever tNext)
theorem pure_Hall_need_room {K : PySem.W.Frag} {vs : List V} {H : Hp} {Q : VK} {E : XK} {W : WX} (h : sp_need_room K vs H Q E) : t_Hall_need_room K W { nx := fun _ H' => Q .non H', rt := Q } (start n_Hall_need_room vs) H := by
  obtain ⟨h, w, m, kp, t, ws, x, rfl, ⟨⟨dx, sv, pv, nv, r1⟩, r2, r3, r4, r5⟩, hl, k⟩ := h
  show t_Hall_need_room K W _ [some (.ref h), some (.str x)] H
  unfold t_Hall_need_room
  walk_at "go"
  refine k_fi r1 rfl ?_
  refine k_di (.of r2) ?_
  walk_at "go"
  refine ifb (fun _ => ?_) (fun _ => ?_)
  · walk_at "go"
    exact k
  · walk_at "go"
    refine k_fi r1 rfl ?_
    refine k_di (.of r3) ?_
    walk_at "go"
    refine iteF ?_
    walk_at "go"
    refine k_fi r1 rfl ?_
    walk_at "go"
    refine e_lenD (.of r2) ?_
    walk_at "go"
    refine k_fi r1 rfl ?_
    walk_at "go"
    refine e_lenD (.of r3) ?_
    walk_at "go"
    rw [wv_len]
    refine ifd (fun h => ?_) (fun _ => ?_)
    · simp only [List.length_nil] at h
      omega
    · walk_at "go"
      exact k
def sp_put (K : PySem.W.Frag) : Sp := fun vs H Q _ => ∃ (h w m kp t : Addr) (ws : List (Str × Int)) (x : Str) (n : Int), vs = [.ref h, .str x, .int n] ∧ HallR K H h w m kp t ws ∧ ws.length < 10 ∧ nameB x = true ∧ 0 ≤ n ∧ n ≤ 30 ∧ m ≠ w ∧ kp ≠ w ∧
  ∀ H', SameB [h, w] H H' → HallR K H' h w m kp t (putS ws x n) → Q .non H'
theorem ln_Hall_put {K : PySem.W.Frag} {vs : List V} {H : Hp} {Q : VK} {E : XK} (h : sp_put K vs H Q E) : vs.length = 3 := by
  obtain ⟨h, w, m, kp, t, ws, x, n, rfl, _⟩ := h
  rfl
abbrev n_Hall_put : List Str := ["self", "name", "number"]
def t_Hall_put (K : PySem.W.Frag) (W : WX) : TS :=
  tSeq (tDrop (tCW sp_need_name W (tCons (tVar 1) tNil)))
  (tSeq (tIfS (tOr (tTest (tOp rLtI (tVar 2) (tC (.int 0)))) (tTest (tOp rGtI (tVar 2) (tC (.int 30))))) tNever tNext)
  (tSeq (tDrop (tMC (ga K "Hall") "need_room" (sp_need_room K) (tVar 0) (tCons (tVar 1) tNil)))
  (tSeq (tIfS (tB (tDi (tVar 1) (tFi (ga K "Hall") ns_Hall 1 (tVar 0)))) tNever tNext)
  (tSeq (sDp (tFi (ga K "Hall") ns_Hall 0 (tVar 0)) (tVar 1) (tVar 2))
  (sFi (ga K "Hall") ns_Hall 3 (tVar 0) tDNewK)))))
theorem pure_Hall_put {K : PySem.W.Frag} {vs : List V} {H : Hp} {Q : VK} {E : XK} {W : WX} (h : sp_put K vs H Q E) : t_Hall_put K W { nx := fun _ H' => Q .non H', rt := Q } (start n_Hall_put vs) H := by
  obtain ⟨h, w, m, kp, t, ws, x, n, rfl, R, hl, hx, h0, h30, mw, kw, k⟩ := h
  obtain ⟨⟨dx, sv, pv, nv, r1⟩, r2, r3, r4, r5⟩ := id R
  show t_Hall_put K W _ [some (.ref h), some (.str x), some (.int n)] H
  unfold t_Hall_put
  walk_at "go"
  refine ⟨x, rfl, by have := name_len hx; omega, hx, ?_⟩
  walk_at "go"
  rw [decide_eq_false (p := n < 0) (by omega)]
  refine iteF ?_
  walk_at "go"
  rw [decide_eq_false (p := 30 < n) (by omega)]
  refine iteF ?_
  walk_at "go"
  refine k_mc r1 rfl ?_
  walk_at "go"
  refine ⟨h, w, m, kp, t, ws, x, rfl, R, hl, ?_⟩
  walk_at "go"
  refine k_fi r1 rfl ?_
  refine k_di (.of r3) ?_
  walk_at "go"
  refine iteF ?_
  walk_at "go"
  refine k_fi r1 rfl ?_
  walk_at "go"
  refine k_dp r2 (small1000 (by rw [wv_len]; omega)) ?_
  rw [wv_put]
  walk_at "go"
  have hw : h ≠ w := fun e => by rw [e, r2] at r1; cases r1
  have tw : t ≠ w := fun e => by rw [e, r2] at r5; cases r5
  have s1 : SameB [h, w] H (upd H w (dS (wv (putS ws x n)))) := SameB.refl.put (by simp)
  have r1' := upd_o (o := dS (wv (putS ws x n))) r1 hw
  have r2' : upd H w (dS (wv (putS ws x n))) w = some (dS (wv (putS ws x n))) := upd_same
  have r3' := upd_o (o := dS (wv (putS ws x n))) r3 mw
  have r4' := upd_o (o := dS (wv (putS ws x n))) r4 kw
  have r5' := upd_o (o := dS (wv (putS ws x n))) r5 tw
  generalize upd H w (dS (wv (putS ws x n))) = H1 at s1 r1' r2' r3' r4' r5' ⊢
  intro s hs
  walk_at "go"
  have hsh : h ≠ s := fun e => by rw [e, hs] at r1'; cases r1'
  refine k_sf (upd_o r1' hsh) (by simp) ?_
  have hn : ∀ {a : Addr} {o : HO}, a ≠ h → H1 a = some o → upd (upd H1 s (.dK [])) h (ob (ga K "Hall") ns_Hall dx ([.ref w, .ref m, .ref kp, sv, .ref t, pv, nv].set 3 (.ref s))) a = some o := fun n e => upd_o (upd_o e (ne_of_none e hs)) n
  walk_at "go"
  refine k _ (s1.trans ((SameB.of_same (same1 hs)).put (by simp))) ⟨⟨dx, _, pv, nv, upd_same⟩, hn hw.symm r2', hn (fun e => by rw [e, r1'] at r3'; cases r3') r3', hn (fun e => by rw [e, r1'] at r4'; cases r4') r4', hn (fun e => by rw [e, r1'] at r5'; cases r5') r5'⟩
def sp_Asking_init (K : PySem.W.Frag) : Sp := fun vs H Q _ => ∃ (a dx : Addr) (hv : V), vs = [.ref a, hv] ∧ H a = some (ob (ga K "Asking") [] dx []) ∧ ∀ (ws : List V) (H' : Hp), SameB [a] H H' → H' a = some (ob (ga K "Asking") ns_Asking dx (hv :: ws)) → ws.length = 6 → Q .non H'
theorem ln_Asking___init__ {K : PySem.W.Frag} {vs : List V} {H : Hp} {Q : VK} {E : XK} (h : sp_Asking_init K vs H Q E) : vs.length = 2 := by
  obtain ⟨a, dx, hv, rfl, _⟩ := h
  rfl
abbrev n_Asking___init__ : List Str := ["self", "house"]
def t_Asking___init__ (K : PySem.W.Frag) (W : WX) : TS :=
  tSeq (sNw (ga K "Asking") [] "house" (tVar 0) (tVar 1))
  (tSeq (sNw (ga K "Asking") ["house"] "under" (tVar 0) (tLst tNil))
  (tSeq (sNw (ga K "Asking") ["house", "under"] "place" (tVar 0) tDNewK)
  (tSeq (sNw (ga K "Asking") ["house", "under", "place"] "lowest" (tVar 0) tDNewK)
  (tSeq (sNw (ga K "Asking") ["house", "under", "place", "lowest"] "standing" (tVar 0) tDNewK)
  (tSeq (sNw (ga K "Asking") ["house", "under", "place", "lowest", "standing"] "heard" (tVar 0) tDNewK)
  (sNw (ga K "Asking") ["house", "under", "place", "lowest", "standing", "heard"] "looked" (tVar 0) tDNewK))))))
theorem pure_Asking___init__ {K : PySem.W.Frag} {vs : List V} {H : Hp} {Q : VK} {E : XK} {W : WX} (h : sp_Asking_init K vs H Q E) : t_Asking___init__ K W { nx := fun _ H' => Q .non H', rt := Q } (start n_Asking___init__ vs) H := by
  obtain ⟨h, dx, hv, rfl, hh, k⟩ := h
  show t_Asking___init__ K W _ [some (.ref h), some hv] H
  unfold t_Asking___init__
  walk_at "go"
  refine k_nwF hh rfl fun H0 s0 h0 => ?_
  walk_at "go"
  intro a1 n1
  walk_at "go"
  refine k_nwN n1 h0 rfl fun H1 s1 h1 _ _ => ?_
  walk_at "go"
  intro a2 n2
  walk_at "go"
  refine k_nwN n2 h1 rfl fun H2 s2 h2 _ _ => ?_
  walk_at "go"
  intro a3 n3
  walk_at "go"
  refine k_nwN n3 h2 rfl fun H3 s3 h3 _ _ => ?_
  walk_at "go"
  intro a4 n4
  walk_at "go"
  refine k_nwN n4 h3 rfl fun H4 s4 h4 _ _ => ?_
  walk_at "go"
  intro a5 n5
  walk_at "go"
  refine k_nwN n5 h4 rfl fun H5 s5 h5 _ _ => ?_
  walk_at "go"
  intro a6 n6
  walk_at "go"
  refine k_nwN n6 h5 rfl fun H6 s6 h6 _ _ => ?_
  walk_at "go"
  exact k _ _ (s0.trans (s1.trans (s2.trans (s3.trans (s4.trans (s5.trans s6)))))) h6 rfl
def sp_come (K : PySem.W.Frag) : Sp := fun vs H Q _ => ∃ (a dx h w m kp t : Addr) (ws : List (Str × Int)) (x : Str) (vs' : List V), vs = [.ref a, .str x] ∧ H a = some (ob (ga K "Asking") ns_Asking dx (.ref h :: vs')) ∧ HallR K H h w m kp t ws ∧ Q (.int ((getS ws x).getD 0)) H
theorem ln_Asking_come {K : PySem.W.Frag} {vs : List V} {H : Hp} {Q : VK} {E : XK} (h : sp_come K vs H Q E) : vs.length = 2 := by
  obtain ⟨a, dx, h, w, m, kp, t, ws, x, vs', rfl, _⟩ := h
  rfl
abbrev n_Asking_come : List Str := ["self", "name", "house"]
def t_Asking_come (K : PySem.W.Frag) (W : WX) : TS :=
  tSeq (tAsg (tFi (ga K "Asking") ns_Asking 0 (tVar 0)) (gName 2))
  (tSeq (tIfS (tB (tDi (tVar 1) (tFi (ga K "Hall") ns_Hall 0 (tVar 2)))) (tRet (tDg (tFi (ga K "Hall") ns_Hall 0 (tVar 2)) (tVar 1))) tNext)
  (tSeq (tIfS (tB (tDn (tVar 1) (tFi (ga K "Hall") ns_Hall 1 (tVar 2)))) (tRet (tC (.int 0))) tNext)
  tNever))
theorem pure_Asking_come {K : PySem.W.Frag} {vs : List V} {H : Hp} {Q : VK} {E : XK} {W : WX} (h : sp_come K vs H Q E) : t_Asking_come K W { nx := fun _ H' => Q .non H', rt := Q } (start n_Asking_come vs) H := by
  obtain ⟨a, dx', h, w, m, kp, t, ws, x, vs', rfl, ha, ⟨⟨dx, sv, pv, nv, r1⟩, r2, r3, r4, r5⟩, k⟩ := h
  show t_Asking_come K W _ [some (.ref a), some (.str x), none] H
  unfold t_Asking_come
  walk_at "go"
  refine k_fi ha rfl ?_
  walk_at "go"
  refine k_fi r1 rfl ?_
  refine k_di (.of r2) ?_
  walk_at "go"
  cases e : getS ws x with
  | some n =>
    rw [wv_get, e]
    refine iteT ?_
    walk_at "go"
    refine k_fi r1 rfl ?_
    walk_at "go"
    refine k_dg (v := .int n) (.of r2) (by rw [wv_get, e]; rfl) ?_
    rw [e] at k
    exact k
  | none =>
    rw [wv_get, e]
    refine iteF ?_
    walk_at "go"
    refine k_fi r1 rfl ?_
    refine k_dn (.of r3) ?_
    walk_at "go"
    refine iteT ?_
    walk_at "go"
    rw [e] at k
    exact k
def sp_ask (K : PySem.W.Frag) : Sp := fun vs H Q _ => ∃ (h w m kp t : Addr) (ws : List (Str × Int)) (x : Str), vs = [.ref h, .str x] ∧ HallR K H h w m kp t ws ∧ nameB x = true ∧ ∀ H', Same H H' → Q (.int ((getS ws x).getD 0)) H'
theorem ln_Hall_ask {K : PySem.W.Frag} {vs : List V} {H : Hp} {Q : VK} {E : XK} (h : sp_ask K vs H Q E) : vs.length = 2 := by
  obtain ⟨h, w, m, kp, t, ws, x, rfl, _⟩ := h
  rfl
abbrev n_Hall_ask : List Str := ["self", "name"]
def t_Hall_ask (K : PySem.W.Frag) (W : WX) : TS :=
  tSeq (tDrop (tCW sp_need_name W (tCons (tVar 1) tNil)))
  (tRet (tMC (ga K "Asking") "come" (sp_come K) (tMK (ga K "Asking") (sp_Asking_init K) (tCons (tVar 0) tNil)) (tCons (tVar 1) tNil)))
theorem pure_Hall_ask {K : PySem.W.Frag} {vs : List V} {H : Hp} {Q : VK} {E : XK} {W : WX} (h : sp_ask K vs H Q E) : t_Hall_ask K W { nx := fun _ H' => Q .non H', rt := Q } (start n_Hall_ask vs) H := by
  obtain ⟨h, w, m, kp, t, ws, x, rfl, R, hx, k⟩ := h
  show t_Hall_ask K W _ [some (.ref h), some (.str x)] H
  unfold t_Hall_ask
  walk_at "go"
  refine ⟨x, rfl, by have := name_len hx; omega, hx, ?_⟩
  walk_at "go"
  intro a dx ha hdx ne
  have s0 : Same H (upd (upd H dx (.own a)) a (ob (ga K "Asking") [] dx [])) := same_up (same1 hdx) (by rw [upd_ne ne.symm]; exact ha)
  refine ⟨a, dx, .ref h, rfl, upd_same, fun vs H' s hA _ => ?_⟩
  have s2 : Same H H' := fun b u hb => s _ _ (by
    have : b ≠ a := fun e => by rw [e, ha] at hb; cases hb
    simpa using this) (s0 _ _ hb)
  refine ⟨rfl, ?_⟩
  refine k_mc hA rfl ?_
  walk_at "go"
  exact ⟨a, dx, h, w, m, kp, t, ws, x, vs, rfl, hA, R.same s2, k _ s2⟩
theorem str_at {xs : List Str} {i : Nat} {x : V} (h : (xs.map V.str)[i]? = some x) : ∃ z, x = .str z ∧ xs[i]? = some z ∧ xs.take (i + 1) = xs.take i ++ [z] ∧ z ∈ xs := by
  rw [List.getElem?_map] at h
  cases e : xs[i]? with
  | none => rw [e] at h; cases h
  | some z =>
    rw [e] at h
    have hil := List.getElem?_eq_some_iff.mp e
    exact ⟨z, (Option.some.inj h).symm, rfl, by rw [List.take_succ_eq_append_getElem hil.1, hil.2], List.mem_of_getElem? e⟩
/-- a list of texts, not at o -/
def RefLx (o : Addr) (H : Hp) (ys : List Str) (v : V) : Prop := ∃ b, v = .ref b ∧ b ≠ o ∧ H b = some (.lst (ys.map V.str))
theorem paired_snoc {R : α → β → Prop} {x : α} {y : β} : ∀ {xs : List α} {ys : List β}, Paired R xs ys → R x y → Paired R (xs ++ [x]) (ys ++ [y])
  | _, _, .nil, h => .cons h .nil
  | _, _, .cons a r, h => .cons a (paired_snoc r h)
/-! ### what the hall tells -/
/-- ws in the order of ys -/
def pickW (ws : List (Str × Int)) (ys : List Str) : List (Str × Int) := ys.map fun x => (x, (getS ws x).getD 0)
theorem pickW_snoc (ws : List (Str × Int)) (ys : List Str) (x : Str) : pickW ws (ys ++ [x]) = pickW ws ys ++ [(x, (getS ws x).getD 0)] := by unfold pickW; rw [List.map_append]; rfl
theorem get_key {ws : List (Str × Int)} {x : Str} (h : x ∈ ws.map (·.1)) : ∃ n, getS ws x = some n := by
  cases e : getS ws x with
  | some n => exact ⟨n, rfl⟩
  | none => exact absurd h (getS_none.mp e)
def sp_wells (K : PySem.W.Frag) : Sp := fun vs H Q _ => ∃ (h w m kp t : Addr) (ws : List (Str × Int)), vs = [.ref h] ∧ HallR K H h w m kp t ws ∧ ws.length < 64 ∧ (ws.map (·.1)).Nodup ∧
  ∀ (d : Addr) (ys : List Str) (H' : Hp), Same H H' → H' d = some (dS (wv (pickW ws ys))) → ys.Perm (ws.map (·.1)) → sortedS ys = true → Q (.ref d) H'
theorem ln_Hall_wells {K : PySem.W.Frag} {vs : List V} {H : Hp} {Q : VK} {E : XK} (h : sp_wells K vs H Q E) : vs.length = 1 := by
  obtain ⟨h, w, m, kp, t, ws, rfl, _⟩ := h
  rfl
abbrev n_Hall_wells : List Str := ["self", "found", "name"]
def t_Hall_wells (K : PySem.W.Frag) (W : WX) : TS :=
  tSeq (tAsg tDNewK (gName 1))
  (tSeq (tFor (iList K (tCB (rSortedS K) (tCons (tCB rListD (tCons (tFi (ga K "Hall") ns_Hall 0 (tVar 0)) tNil)) tNil))) (gName 2) (sDp (tVar 1) (tVar 2) (tDg (tFi (ga K "Hall") ns_Hall 0 (tVar 0)) (tVar 2))))
  (tRet (tVar 1)))
theorem keysV (ws : List (Str × Int)) : ((wv ws).map fun p => V.str p.1) = (ws.map (·.1)).map V.str := by unfold wv; rw [List.map_map, List.map_map]; rfl
theorem pure_Hall_wells {K : PySem.W.Frag} {vs : List V} {H : Hp} {Q : VK} {E : XK} {W : WX} (h : sp_wells K vs H Q E) : t_Hall_wells K W { nx := fun _ H' => Q .non H', rt := Q } (start n_Hall_wells vs) H := by
  obtain ⟨h, w, m, kp, t, ws, rfl, R, hl, nd, k⟩ := h
  show t_Hall_wells K W _ [some (.ref h), none, none] H
  unfold t_Hall_wells
  walk_at "go"
  intro d hd
  walk_at "go"
  have s1 : Same H (upd H d (.dK [])) := same1 hd
  obtain ⟨⟨dx, sv, pv, nv, r1⟩, r2, r3, r4, r5⟩ := R.same s1
  refine k_fi r1 rfl ?_
  walk_at "go"
  refine e_listD r2 fun r hr => ?_
  rw [keysV]
  walk_at "go"
  refine e_sortS (SqL.of upd_same) (by rw [List.length_map]; exact hl) fun ys q hp hs hq => ?_
  have s2 : Same H (upd (upd (upd H d (.dK [])) r (.lst ((ws.map (·.1)).map V.str))) q (.lst (ys.map V.str))) := same_up (s1.trans (same1 hr)) hq
  have dq := none_up hq
  have dr := none_up dq.1
  have hys : ys.Nodup := hp.nodup_iff.mpr nd
  have lys : ys.length = ws.length := by rw [hp.length_eq, List.length_map]
  refine k_forL (fun i σ H' => (∃ v, σ = [some (.ref h), some (.ref d), v]) ∧ Same H H' ∧ H' q = some (.lst (ys.map V.str)) ∧ H' d = some (dS (wv (pickW ws (ys.take i))))) (SqL.of upd_same)
    ⟨⟨_, rfl⟩, s2, upd_same, upd_o (upd_o upd_same (fun e => by rw [e, upd_same] at hr; cases hr)) (fun e => by
      have hq2 := hq
      rw [← e] at hq2
      rw [upd_ne (fun e => by rw [← e, upd_same] at hr; cases hr), upd_same] at hq2
      cases hq2)⟩ (fun i σ H' _ ⟨_, _, p, _⟩ => SqL.of p) ?_ ?_
  · rintro i x σ H' hi ⟨⟨v, rfl⟩, s', hq', hd'⟩
    obtain ⟨z, rfl, hz, et, hzy⟩ := str_at hi
    obtain ⟨⟨dx, sv, pv, nv, r1⟩, r2, r3, r4, r5⟩ := R.same s'
    obtain ⟨n, hn⟩ := get_key (hp.mem_iff.mp hzy)
    have hil := (List.getElem?_eq_some_iff.mp hz).1
    walk_at "go"
    refine k_fi r1 rfl ?_
    walk_at "go"
    refine k_dg (v := .int n) (.of r2) (by rw [wv_get, hn]; rfl) ?_
    walk_at "go"
    refine k_dp hd' (small1000 (by rw [wv_len]; unfold pickW; rw [List.length_map, List.length_take]; omega)) ?_
    rw [wv_put]
    walk_at "go"
    have nz : ¬ z ∈ (pickW ws (ys.take i)).map (·.1) := by
      unfold pickW
      rw [List.map_map]
      intro hm
      have hm : z ∈ ys.take i := by
        obtain ⟨y, hy, e⟩ := List.mem_map.mp hm
        have e : y = z := e
        exact e ▸ hy
      have h3 := (hys.sublist (List.take_sublist (i + 1) ys))
      rw [et, List.nodup_append] at h3
      exact h3.2.2 z hm z (by simp) rfl
    refine ⟨⟨_, rfl⟩, same_mut s' hd, ?_, ?_⟩
    · rw [upd_ne (ne_of hq' hd' (by intro z; cases z))]
      exact hq'
    · rw [upd_same, et, pickW_snoc, putS_new _ nz, hn]
      rfl
  · rintro σ H' ⟨⟨v, rfl⟩, s', hq', hd'⟩
    rw [List.length_map, List.take_of_length_le (Nat.le_refl _)] at hd'
    walk_at "go"
    exact k d ys H' s' hd' hp hs
def sp_works (K : PySem.W.Frag) : Sp := fun vs H Q _ => ∃ (h w m kp t : Addr) (ws : List (Str × Int)), vs = [.ref h] ∧ HallR K H h w m kp t ws ∧ ∀ (d : Addr) (H' : Hp), Same H H' → H' d = some (dS []) → Q (.ref d) H'
theorem ln_Hall_works {K : PySem.W.Frag} {vs : List V} {H : Hp} {Q : VK} {E : XK} (h : sp_works K vs H Q E) : vs.length = 1 := by
  obtain ⟨h, w, m, kp, t, ws, rfl, _⟩ := h
  rfl
abbrev n_Hall_works : List Str := ["self", "found", "name"]
def t_Hall_works (K : PySem.W.Frag) (W : WX) : TS :=
  tSeq (tAsg tDNewK (gName 1))
  (tSeq (tFor (iList K (tCB (rSortedS K) (tCons (tCB rListD (tCons (tFi (ga K "Hall") ns_Hall 1 (tVar 0)) tNil)) tNil))) (gName 2) tNever)
  (tRet (tVar 1)))
theorem pure_Hall_works {K : PySem.W.Frag} {vs : List V} {H : Hp} {Q : VK} {E : XK} {W : WX} (h : sp_works K vs H Q E) : t_Hall_works K W { nx := fun _ H' => Q .non H', rt := Q } (start n_Hall_works vs) H := by
  obtain ⟨h, w, m, kp, t, ws, rfl, R, k⟩ := h
  show t_Hall_works K W _ [some (.ref h), none, none] H
  unfold t_Hall_works
  walk_at "go"
  intro d hd
  walk_at "go"
  have s1 : Same H (upd H d (.dK [])) := same1 hd
  obtain ⟨⟨dx, sv, pv, nv, r1⟩, r2, r3, r4, r5⟩ := R.same s1
  refine k_fi r1 rfl ?_
  walk_at "go"
  refine e_listD r3 fun r hr => ?_
  walk_at "go"
  refine e_sortS (xs := []) (SqL.of upd_same) (by simp) fun ys q hp hs hq => ?_
  obtain rfl := List.Perm.eq_nil hp
  have s2 := (s1.trans (same1 (o := .lst []) hr)).trans (same1 (o := .lst []) hq)
  have hd' := ((same1 (o := .lst []) hr).trans (same1 (o := .lst []) hq)) _ _ (upd_same : upd H d (.dK []) d = some (.dK []))
  refine k_forL (fun i σ H' => (∃ v, σ = [some (.ref h), some (.ref d), v]) ∧ H' = upd (upd (upd H d (.dK [])) r (.lst [])) q (.lst [])) (SqL.of upd_same) ⟨⟨_, rfl⟩, rfl⟩ (fun i σ H' _ ⟨_, p⟩ => by rw [p]; exact SqL.of upd_same) ?_ ?_
  · rintro i x σ H' hi _
    simp at hi
  · rintro σ H' ⟨⟨v, rfl⟩, rfl⟩
    walk_at "go"
    exact k d _ s2 hd'
def sp_runs (K : PySem.W.Frag) : Sp := fun vs H Q _ => ∃ (h w m kp t : Addr) (ws : List (Str × Int)), vs = [.ref h] ∧ HallR K H h w m kp t ws ∧ ∀ (r t' : Addr) (H' : Hp), SameB [h] H H' → H' r = some (.lst []) → H t' = none → HallR K H' h w m kp t' ws → Q (.ref r) H'
theorem ln_Hall_runs {K : PySem.W.Frag} {vs : List V} {H : Hp} {Q : VK} {E : XK} (h : sp_runs K vs H Q E) : vs.length = 1 := by
  obtain ⟨h, w, m, kp, t, ws, rfl, _⟩ := h
  rfl
abbrev n_Hall_runs : List Str := ["self", "found", "name", "reads", "answer"]
def t_Hall_runs (K : PySem.W.Frag) (W : WX) : TS :=
  tSeq (tAsg (tLc (iList K (tFi (ga K "Hall") ns_Hall 4 (tVar 0))) gNev tYes tNevE [2, 3, 4]) (gName 1))
  (tSeq (sFi (ga K "Hall") ns_Hall 4 (tVar 0) (tLst tNil))
  (tRet (tVar 1)))
theorem pure_Hall_runs {K : PySem.W.Frag} {vs : List V} {H : Hp} {Q : VK} {E : XK} {W : WX} (h : sp_runs K vs H Q E) : t_Hall_runs K W { nx := fun _ H' => Q .non H', rt := Q } (start n_Hall_runs vs) H := by
  obtain ⟨h, w, m, kp, t, ws, rfl, R, k⟩ := h
  obtain ⟨⟨dx, sv, pv, nv, r1⟩, r2, r3, r4, r5⟩ := id R
  show t_Hall_runs K W _ [some (.ref h), none, none, none, none] H
  unfold t_Hall_runs
  walk_at "go"
  refine k_fi r1 rfl ?_
  refine k_lc0 (SqL.of r5) fun D hD => ?_
  walk_at "go"
  have s1 : Same H (upd H D (.lst [])) := same1 hD
  have hD1 : upd H D (.lst []) D = some (.lst []) := upd_same
  have R1 := R.same s1
  generalize upd H D (.lst []) = H1 at s1 hD1 R1 ⊢
  obtain ⟨⟨dx, sv, pv, nv, r1⟩, r2, r3, r4, r5⟩ := id R1
  intro t' ht'
  walk_at "go"
  have hth : h ≠ t' := ne_of_none r1 ht'
  refine k_sf (upd_o r1 hth) (by simp) ?_
  have hn : ∀ {a : Addr} {o : HO}, a ≠ h → H1 a = some o → upd (upd H1 t' (.lst [])) h (ob (ga K "Hall") ns_Hall dx ([.ref w, .ref m, .ref kp, sv, .ref t, pv, nv].set 4 (.ref t'))) a = some o := fun n e => upd_o (upd_o e (ne_of_none e ht')) n
  walk_at "go"
  refine k D t' _ ((SameB.of_same s1).trans ((SameB.of_same (same1 ht')).put (by simp))) (hn (ne_of hD1 r1 (by intro z; cases z)) hD1) ?_ ⟨⟨dx, sv, pv, nv, upd_same⟩, hn (ne_of r2 r1 (by intro z; cases z)) r2, hn (ne_of r3 r1 (by intro z; cases z)) r3, hn (ne_of r4 r1 (by intro z; cases z)) r4, upd_o upd_same hth.symm⟩
  cases q : H t' with
  | none => rfl
  | some u => rw [s1 _ _ q] at ht'; cases ht'
def sp_rings (K : PySem.W.Frag) : Sp := fun vs H Q _ => ∃ (h w m kp t : Addr) (ws : List (Str × Int)), vs = [.ref h] ∧ HallR K H h w m kp t ws ∧ ∀ (r : Addr) (H' : Hp), Same H H' → H' r = some (.lst []) → Q (.ref r) H'
theorem ln_Hall_rings {K : PySem.W.Frag} {vs : List V} {H : Hp} {Q : VK} {E : XK} (h : sp_rings K vs H Q E) : vs.length = 1 := by
  obtain ⟨h, w, m, kp, t, ws, rfl, _⟩ := h
  rfl
abbrev n_Hall_rings : List Str := ["self", "found", "name", "knot", "number"]
def t_Hall_rings (K : PySem.W.Frag) (W : WX) : TS :=
  tSeq (tAsg tDNewK (gName 1))
  (tSeq (tLock (tFor (iKeys (tFi (ga K "Hall") ns_Hall 2 (tVar 0))) (gName 2) tNever))
  (tRet (tCB (rSortedS K) (tCons (tLockE (tLc (iKeys (tVar 1)) gNev tYes tNevE [4])) tNil))))
theorem pure_Hall_rings {K : PySem.W.Frag} {vs : List V} {H : Hp} {Q : VK} {E : XK} {W : WX} (h : sp_rings K vs H Q E) : t_Hall_rings K W { nx := fun _ H' => Q .non H', rt := Q } (start n_Hall_rings vs) H := by
  obtain ⟨h, w, m, kp, t, ws, rfl, R, k⟩ := h
  show t_Hall_rings K W _ [some (.ref h), none, none, none, none] H
  unfold t_Hall_rings
  walk_at "go"
  intro d hd
  walk_at "go"
  have s1 : Same H (upd H d (.dK [])) := same1 hd
  have hd1 : upd H d (.dK []) d = some (dS []) := upd_same
  obtain ⟨⟨dx, sv, pv, nv, r1⟩, r2, r3, r4, r5⟩ := R.same s1
  generalize upd H d (.dK []) = H1 at s1 hd1 r1 r2 r3 r4 r5 ⊢
  refine k_lock kp (dS []) r4 trivial fun od => ?_
  walk_at "go"
  refine k_fi (upd_o r1 (ne_of r1 r4 (by intro z; cases z))) rfl ?_
  refine k_forK (l := []) (fun i σ H' => σ = [some (.ref h), some (.ref d), none, none, none] ∧ H' = upd H1 kp (.frz od (dS []))) upd_same ⟨rfl, rfl⟩ (fun i σ H' ⟨_, p⟩ => by rw [p]; exact upd_same) ?_ ?_
  · rintro i k v σ H' hi _
    simp at hi
  · rintro σ H' ⟨rfl, rfl⟩
    refine ⟨upd_same, ?_⟩
    rw [upd_back r4]
    walk_at "go"
    refine e_lockE d (dS []) hd1 trivial fun od2 => ?_
    walk_at "go"
    refine k_lcK (l := []) (fun i D H' => H' = upd (upd H1 d (.frz od2 (dS []))) D (.lst []) ∧ D ≠ d ∧ H1 D = none) upd_same (fun D hD => ⟨rfl, (none_up hD).2, (none_up hD).1⟩) (fun i D H' p => by rw [p.1]; exact upd_o upd_same p.2.1.symm) (fun i k v D H' _ hi _ => by simp at hi) fun D H' _ p => ?_
    obtain ⟨rfl, nD, hD⟩ := p
    refine ⟨upd_o upd_same nD.symm, ?_⟩
    have e : upd (upd (upd H1 d (.frz od2 (dS []))) D (.lst [])) d (dS []) = upd H1 D (.lst []) := by
      funext b
      by_cases e1 : b = d
      · rw [e1, upd_same, upd_ne nD.symm, hd1]
      · rw [upd_ne e1]
        by_cases e2 : b = D
        · rw [e2, upd_same, upd_same]
        · rw [upd_ne e2, upd_ne e2, upd_ne e1]
    rw [e]
    walk_at "go"
    refine e_sortS (xs := []) (SqL.of upd_same) (by simp) fun ys q hp hs hq => ?_
    obtain rfl := List.Perm.eq_nil hp
    exact k q _ (s1.trans ((same1 hD).trans (same1 hq))) upd_same
def sp__law_whole : Sp := fun vs H Q _ => ∃ n : Int, vs = [.int n] ∧ Q (.bl true) H
theorem ln__law_whole {vs : List V} {H : Hp} {Q : VK} {E : XK} (h : sp__law_whole vs H Q E) : vs.length = 1 := by
  obtain ⟨n, rfl, _⟩ := h
  rfl
abbrev n__law_whole : List Str := ["_law_found"]
def t__law_whole (K : PySem.W.Frag) (W : WX) : TS :=
  tRet (tAndV (tCB (rIsi K) (tCons (tVar 0) (tCons (tC (.ty "int")) tNil))) (tNotV (tCB (rIsi K) (tCons (tVar 0) (tCons (tC (.ty "bool")) tNil)))))
theorem pure__law_whole {K : PySem.W.Frag} {vs : List V} {H : Hp} {Q : VK} {E : XK} {W : WX} (h : sp__law_whole vs H Q E) : t__law_whole K W { nx := fun _ H' => Q .non H', rt := Q } (start n__law_whole vs) H := by
  obtain ⟨n, rfl, k⟩ := h
  show t__law_whole K W _ [some (.int n)] H
  unfold t__law_whole
  walk_at "go"
  refine e_isiI (b := true) (by decide +kernel) ?_
  refine ⟨true, rfl, iteT ?_⟩
  walk_at "go"
  refine e_isiI (b := false) (by decide +kernel) ?_
  exact ⟨false, rfl, k⟩
def TupR (H : Hp) (p : Str × Int) (v : V) : Prop := ∃ b, v = .ref b ∧ H b = some (.tup [.str p.1, .int p.2])
theorem TupR.same {H H' : Hp} {p : Str × Int} {v : V} (s : Same H H') (h : TupR H p v) : TupR H' p v := let ⟨b, e, q⟩ := h; ⟨b, e, s _ _ q⟩
theorem dpa_tups {K : PySem.W.Frag} {H : Hp} {ks : List (Str × Int)} {rs : List V} (h : Paired (TupR H) ks rs) : DpAll K H rs (ks.map (fun z => PySem.W.Datum.toD z)) := by
  induction h with
  | nil => exact .nil
  | cons a _ ih =>
    obtain ⟨b, rfl, hb⟩ := a
    exact .cons (.tup (SqT.of hb) (.cons (.str _) (.cons (.int _) .nil))) ih
def sp__law_sorted (K : PySem.W.Frag) : Sp := fun vs H Q _ => ∃ (w : Addr) (ws : List (Str × Int)), vs = [.ref w] ∧ H w = some (dS (wv ws)) ∧ ws.length < 64 ∧
  ∀ (r : Addr) (rs : List V) (ys : List Str) (H' : Hp), Same H H' → H' r = some (.lst rs) → Paired (TupR H') (pickW ws ys) rs → ys.Perm (ws.map (·.1)) → sortedS ys = true → Q (.ref r) H'
theorem ln__law_sorted {K : PySem.W.Frag} {vs : List V} {H : Hp} {Q : VK} {E : XK} (h : sp__law_sorted K vs H Q E) : vs.length = 1 := by
  obtain ⟨w, ws, rfl, _⟩ := h
  rfl
abbrev n__law_sorted : List Str := ["_law_wells", "_law_name"]
def t__law_sorted (K : PySem.W.Frag) (W : WX) : TS :=
  tRet (tLc (iList K (tCB (rSortedS K) (tCons (tCB rListD (tCons (tVar 0) tNil)) tNil))) (gName 1) tYes (tTup (tCons (tVar 1) (tCons (tDg (tVar 0) (tVar 1)) tNil))) [1])
theorem pure__law_sorted {K : PySem.W.Frag} {vs : List V} {H : Hp} {Q : VK} {E : XK} {W : WX} (h : sp__law_sorted K vs H Q E) : t__law_sorted K W { nx := fun _ H' => Q .non H', rt := Q } (start n__law_sorted vs) H := by
  obtain ⟨w, ws, rfl, hw, hl, k⟩ := h
  show t__law_sorted K W _ [some (.ref w), none] H
  unfold t__law_sorted
  walk_at "go"
  refine e_listD hw fun r hr => ?_
  rw [keysV]
  walk_at "go"
  refine e_sortS (SqL.of upd_same) (by rw [List.length_map]; exact hl) fun ys q hp hs hq => ?_
  have s2 := (same1 (o := .lst ((ws.map (·.1)).map V.str)) hr).trans (same1 (o := .lst (ys.map V.str)) hq)
  have hq2 : upd (upd H r (.lst ((ws.map (·.1)).map V.str))) q (.lst (ys.map V.str)) q = some (.lst (ys.map V.str)) := upd_same
  generalize upd (upd H r (.lst ((ws.map (·.1)).map V.str))) q (.lst (ys.map V.str)) = H2 at s2 hq2 ⊢
  have lys : ys.length = ws.length := by rw [hp.length_eq, List.length_map]
  refine k_lcL (fun i D H' => Same H2 H' ∧ H2 D = none ∧ ∃ rs, H' D = some (.lst rs) ∧ Paired (TupR H') (pickW ws (ys.take i)) rs) (SqL.of hq2) (fun D hD => ⟨same1 hD, hD, [], upd_same, by rw [List.take_zero]; exact .nil⟩) (fun i D H' _ p => SqL.of (p.1 _ _ hq2)) ?_ ?_
  · rintro i x D H' hD hi ⟨s', nD, rs, hrs, P⟩
    obtain ⟨z, rfl, hz, et, hzy⟩ := str_at hi
    have hil := (List.getElem?_eq_some_iff.mp hz).1
    obtain ⟨n, hn⟩ := get_key (hp.mem_iff.mp hzy)
    show _ ∧ tYes [some (.ref w), some (.str z)] H' _
    refine ⟨rfl, ?_⟩
    walk_at "go"
    refine iteT ?_
    walk_at "go"
    refine k_dg (v := .int n) (.of (s' _ _ (s2 _ _ hw))) (by rw [wv_get, hn]; rfl) ?_
    walk_at "go"
    intro tp htp
    refine ⟨rs, upd_o hrs (ne_of_none hrs htp), ?_, same_mut (s'.trans (same1 htp)) nD, nD, _, upd_same, ?_⟩
    · rw [← Paired.length P]
      unfold pickW
      rw [List.length_map, List.length_take]
      exact small1000 (by omega)
    · rw [et, pickW_snoc, hn]
      have tD : tp ≠ D := fun e => by rw [e, hrs] at htp; cases htp
      refine paired_snoc (Paired.mapP P fun _ _ ⟨b, e1, e2⟩ => ⟨b, e1, upd_o ((same1 htp) _ _ e2) (ne_of e2 hrs (by intro z; cases z))⟩) ⟨tp, rfl, upd_o upd_same tD⟩
  · rintro D H' hD ⟨s', nD, rs, hrs, P⟩
    rw [List.length_map, List.take_of_length_le (Nat.le_refl _)] at P
    exact k D rs ys H' (s2.trans s') hrs P hp hs
theorem paired_at {R : α → β → Prop} {xs : List α} {ys : List β} (h : Paired R xs ys) : ∀ {i : Nat} {y : β}, ys[i]? = some y → ∃ x, xs[i]? = some x ∧ R x y := by
  induction h with
  | nil => intro i y e; cases e
  | cons a _ ih =>
    intro i y e
    cases i with
    | zero => cases e; exact ⟨_, rfl, a⟩
    | succ i => exact ih e
theorem paired_refl {R : α → α → Prop} : ∀ {xs : List α}, (∀ x ∈ xs, R x x) → Paired R xs xs
  | [], _ => .nil
  | x :: xs, h => .cons (h x List.mem_cons_self) (paired_refl fun y hy => h y (List.mem_cons_of_mem _ hy))
theorem flatB_strs (ys : List Str) : (ys.map V.str).all flatB = true := by
  rw [List.all_map, List.all_eq_true]
  exact fun _ _ => rfl
theorem getS_of_nodup {β : Type} {k : Str} {v : β} : ∀ {l : List (Str × β)}, (l.map (·.1)).Nodup → (k, v) ∈ l → getS l k = some v
  | (a, b) :: r, n, h => by
    rw [List.map_cons] at n
    obtain ⟨n1, n2⟩ := List.nodup_cons.mp n
    rw [getS_cons]
    rcases List.mem_cons.mp h with q | q
    · cases q
      exact if_pos rfl
    · rw [if_neg (fun e => n1 (by rw [show a = k from e]; exact List.mem_map.mpr ⟨_, q, rfl⟩))]
      exact getS_of_nodup n2 q
/-! ### law k10 -/
/-- the law's two halls, its own two dicts, its names -/
structure LR (K : PySem.W.Frag) (H : Hp) (r hl wl : Addr) (ys : List Str) (h w m kp d t : Nat → Addr) (ws : Nat → List (Str × Int)) : Prop where
  hall : ∀ j, j < 2 → HallR K H (h j) (w j) (m j) (kp j) (t j) (ws j)
  own : ∀ j, j < 2 → H (d j) = some (dS (wv (ws j)))
  nm : H r = some (.lst (ys.map V.str))
  hs : H hl = some (.lst [.ref (h 0), .ref (h 1)])
  os : H wl = some (.lst [.ref (d 0), .ref (d 1)])
  nd : ∀ j, j < 2 → ((ws j).map (·.1)).Nodup ∧ ∀ x ∈ (ws j).map (·.1), x ∈ ys
structure Far (h w m kp d : Nat → Addr) : Prop where
  hh : ∀ i j, i < 2 → j < 2 → i ≠ j → h i ≠ h j
  ww : ∀ i j, i < 2 → j < 2 → i ≠ j → w i ≠ w j
  dd : ∀ i j, i < 2 → j < 2 → i ≠ j → d i ≠ d j
  wm : ∀ i j, i < 2 → j < 2 → m i ≠ w j
  wk : ∀ i j, i < 2 → j < 2 → kp i ≠ w j
  wd : ∀ i j, i < 2 → j < 2 → d i ≠ w j
  dm : ∀ i j, i < 2 → j < 2 → m i ≠ d j
  dk : ∀ i j, i < 2 → j < 2 → kp i ≠ d j
section
variable {K : PySem.W.Frag} {H H' : Hp} {r hl wl : Addr} {ys : List Str} {h w m kp d t : Nat → Addr} {ws : Nat → List (Str × Int)}
theorem LR.same (L : LR K H r hl wl ys h w m kp d t ws) (s : Same H H') : LR K H' r hl wl ys h w m kp d t ws :=
  ⟨fun j hj => (L.hall j hj).same s, fun j hj => s _ _ (L.own j hj), s _ _ L.nm, s _ _ L.hs, s _ _ L.os, L.nd⟩
theorem LR.len (L : LR K H r hl wl ys h w m kp d t ws) {j : Nat} (hj : j < 2) : (ws j).length ≤ ys.length := by
  have := List.Nodup.length_le_of_subset (L.nd j hj).1 (fun x hx => (L.nd j hj).2 x hx)
  rwa [List.length_map] at this
theorem LR.put (F : Far h w m kp d) (L : LR K H r hl wl ys h w m kp d t ws) {j : Nat} (hj : j < 2) {x : Str} {n : Int} (hx : x ∈ ys) (s : SameB [h j, w j] H H') (R : HallR K H' (h j) (w j) (m j) (kp j) (t j) (putS (ws j) x n)) :
    LR K (upd H' (d j) (dS (wv (putS (ws j) x n)))) r hl wl ys h w m kp d t (fun i => if i = j then putS (ws j) x n else ws i) := by
  obtain ⟨⟨dx, sv, pv, nv, j1⟩, j2, j3, j4, j5⟩ := L.hall j hj
  have jd : H' (d j) = some (dS (wv (ws j))) := s _ _ (by
    have a : d j ≠ h j := ne_of (L.own j hj) j1 (by intro z; cases z)
    have b := F.wd j j hj hj
    simp [a, b]) (L.own j hj)
  have lst : ∀ {a : Addr} {xs : List V}, H a = some (.lst xs) → upd H' (d j) (dS (wv (putS (ws j) x n))) a = some (.lst xs) := fun {a xs} e => by
    have e1 : a ≠ h j := ne_of e j1 (by intro z; cases z)
    have e2 : a ≠ w j := ne_of e j2 (by intro z; cases z)
    have e3 := s a _ (by simp [e1, e2]) e
    exact upd_o e3 (ne_of e3 jd (by intro z; cases z))
  refine ⟨fun i hi => ?_, fun i hi => ?_, lst L.nm, lst L.hs, lst L.os, fun i hi => ?_⟩
  · by_cases e : i = j
    · subst e
      rw [if_pos rfl]
      obtain ⟨⟨dx, sv, pv, nv, r1⟩, r2, r3, r4, r5⟩ := R
      exact ⟨⟨dx, sv, pv, nv, upd_o r1 (ne_of r1 jd (by intro z; cases z))⟩, upd_o r2 (F.wd i i hi hi).symm, upd_o r3 (F.dm i i hi hi), upd_o r4 (F.dk i i hi hi), upd_o r5 (ne_of r5 jd (by intro z; cases z))⟩
    · rw [if_neg e]
      obtain ⟨⟨dx, sv, pv, nv, r1⟩, r2, r3, r4, r5⟩ := L.hall i hi
      have g : ∀ {a : Addr} {o : HO}, H a = some o → a ≠ h j → a ≠ w j → a ≠ d j → upd H' (d j) (dS (wv (putS (ws j) x n))) a = some o := fun {a o} e e1 e2 e3 => upd_o (s a _ (by simp [e1, e2]) e) e3
      exact ⟨⟨dx, sv, pv, nv, g r1 (F.hh i j hi hj e) (ne_of r1 j2 (by intro z; cases z)) (ne_of r1 (L.own j hj) (by intro z; cases z))⟩,
        g r2 (ne_of r2 j1 (by intro z; cases z)) (F.ww i j hi hj e) (F.wd j i hj hi).symm, g r3 (ne_of r3 j1 (by intro z; cases z)) (F.wm i j hi hj) (F.dm i j hi hj),
        g r4 (ne_of r4 j1 (by intro z; cases z)) (F.wk i j hi hj) (F.dk i j hi hj), lst r5⟩
  · by_cases e : i = j
    · subst e
      rw [if_pos rfl]
      exact upd_same
    · rw [if_neg e]
      exact upd_o (s _ _ (by
        have a : d i ≠ h j := ne_of (L.own i hi) j1 (by intro z; cases z)
        have b := F.wd i j hi hj
        simp [a, b]) (L.own i hi)) (F.dd i j hi hj e)
  · by_cases e : i = j
    · subst e
      rw [if_pos rfl]
      refine ⟨putS_nodup _ _ (L.nd i hi).1, fun y hy => ?_⟩
      rw [putS_keys] at hy
      split at hy
      · exact (L.nd i hi).2 y hy
      · rcases List.mem_append.mp hy with q | q
        · exact (L.nd i hi).2 y q
        · rw [List.mem_singleton.mp q]
          exact hx
    · rw [if_neg e]
      exact L.nd i hi
theorem LR.runs (F : Far h w m kp d) (L : LR K H r hl wl ys h w m kp d t ws) {j : Nat} (hj : j < 2) {t' : Addr} (s : SameB [h j] H H') (R : HallR K H' (h j) (w j) (m j) (kp j) t' (ws j)) :
    LR K H' r hl wl ys h w m kp d (fun i => if i = j then t' else t i) ws := by
  obtain ⟨⟨dx, sv, pv, nv, j1⟩, j2, j3, j4, j5⟩ := L.hall j hj
  have g : ∀ {a : Addr} {o : HO}, H a = some o → a ≠ h j → H' a = some o := fun {a o} e e1 => s a _ (by simp [e1]) e
  refine ⟨fun i hi => ?_, fun i hi => g (L.own i hi) (ne_of (L.own i hi) j1 (by intro z; cases z)), g L.nm (ne_of L.nm j1 (by intro z; cases z)), g L.hs (ne_of L.hs j1 (by intro z; cases z)), g L.os (ne_of L.os j1 (by intro z; cases z)), L.nd⟩
  by_cases e : i = j
  · subst e
    rw [if_pos rfl]
    exact R
  · rw [if_neg e]
    obtain ⟨⟨dx, sv, pv, nv, r1⟩, r2, r3, r4, r5⟩ := L.hall i hi
    exact ⟨⟨dx, sv, pv, nv, g r1 (F.hh i j hi hj e)⟩, g r2 (ne_of r2 j1 (by intro z; cases z)), g r3 (ne_of r3 j1 (by intro z; cases z)), g r4 (ne_of r4 j1 (by intro z; cases z)), g r5 (ne_of r5 j1 (by intro z; cases z))⟩
end
theorem same_unlock {H H' : Hp} {d : Addr} {u o : HO} (h : H d = some u) (s : Same (upd H d o) H') : Same H (upd H' d u) := fun b v e => by
  by_cases q : b = d
  · rw [q, upd_same, ← h, ← q, e]
  · rw [upd_ne q]
    exact s _ _ (upd_o e q)
theorem wv_getD (ws : List (Str × Int)) (x : Str) : (getS (wv ws) x).getD (.int 0) = .int ((getS ws x).getD 0) := by
  rw [wv_get]
  cases getS ws x <;> rfl
theorem two {j : Nat} {f : Nat → Addr} (h : j < 2) : [V.ref (f 0), V.ref (f 1)][j]? = some (.ref (f j)) := by
  match j, h with
  | 0, _ => rfl
  | 1, _ => rfl
def sp_law (K : PySem.W.Frag) : Sp := fun vs H Q _ => ∃ (a : Addr) (ns : List Int), vs = [.ref a] ∧ SqL K H a (ns.map V.int) ∧ ns.length ≤ 63 ∧ ∀ H', Q (.bl true) H'
theorem ln_law {K : PySem.W.Frag} {vs : List V} {H : Hp} {Q : VK} {E : XK} (h : sp_law K vs H Q E) : vs.length = 1 := by
  obtain ⟨a, ns, rfl, _⟩ := h
  rfl
theorem sp_law_of {K : PySem.W.Frag} {H : Hp} {a : Addr} {ns : List Int} (hS : SqL K H a (ns.map V.int)) (hl : ns.length ≤ 63) : sp_law K [.ref a] H (fun v _ => v = .bl true) fun _ _ _ => False := ⟨a, ns, rfl, hS, hl, fun _ => rfl⟩
abbrev n_law : List Str := ["_law_script", "_law_names_here", "_law_halls", "_law_wells", "_law_turn", "_law_cell", "_law_name", "_law_found", "_law_k"]
def t_law (K : PySem.W.Frag) (W : WX) : TS :=
  tSeq (tAsg (tCW sp__law_names W (tCons (tCW (sp_cell_at K) W (tCons (tVar 0) (tCons (tC (.int 0)) tNil))) (tCons (tOp rAddI (tC (.int 2)) (tOp rModI (tCW (sp_cell_at K) W (tCons (tVar 0) (tCons (tC (.int 1)) tNil))) (tC (.int 8)))) tNil))) (gName 1))
  (tSeq (tAsg (tLst (tCons (tMK (ga K "Hall") (sp_Hall_init K) tNil) (tCons (tMK (ga K "Hall") (sp_Hall_init K) tNil) tNil))) (gName 2))
  (tSeq (tAsg (tLst (tCons tDNewK (tCons tDNewK tNil))) (gName 3))
  (tSeq (tAsg (tC (.int 0)) (gName 4))
  (tSeq (tFor (iList K (tSl (rSlL K) (tVar 0) (tPart (tC (.int 2))) tNoPart)) (gName 5) (tSeq (tAsg (tOp rSubI (tC (.int 1)) (tVar 4)) (gName 4))
  (tSeq (tAsg (tOp (rIxL K) (tVar 1) (tOp rModI (tVar 5) (tCB (rLenL K) (tCons (tVar 1) tNil)))) (gName 6))
  (tSeq (tIfS (tTest (tOp rEq (tOp rModI (tOp rDivI (tVar 5) (tC (.int 16))) (tC (.int 2))) (tC (.int 0)))) (tSeq (tIfS (tTest (tOp rNotN (tMC (ga K "Hall") "put" (sp_put K) (tOp (rIxL K) (tVar 2) (tVar 4)) (tCons (tVar 6) (tCons (tOp rModI (tOp rDivI (tVar 5) (tC (.int 32))) (tC (.int 31))) tNil))) (tC .non))) (tRet (tC (.bl false))) tNext)
  (sDp (tOp (rIxL K) (tVar 3) (tVar 4)) (tVar 6) (tOp rModI (tOp rDivI (tVar 5) (tC (.int 32))) (tC (.int 31))))) tNext)
  (tSeq (tAsg (tMC (ga K "Hall") "ask" (sp_ask K) (tOp (rIxL K) (tVar 2) (tVar 4)) (tCons (tVar 6) tNil)) (gName 7))
  (tIfS (tOr (tNot (tB (tCW sp__law_whole W (tCons (tVar 7) tNil)))) (tTest (tOp rNe (tVar 7) (tDg2 (tOp (rIxL K) (tVar 3) (tVar 4)) (tVar 6) (tC (.int 0)))))) (tRet (tC (.bl false))) tNext))))))
  (tSeq (tFor (iRng1 (tCons (tC (.int 2)) tNil)) (gName 8) (tSeq (tAsg (tMC (ga K "Hall") "wells" (sp_wells K) (tOp (rIxL K) (tVar 2) (tVar 8)) tNil) (gName 7))
  (tSeq (tIfS (tOr (tNot (tB (tCB (rIsi K) (tCons (tVar 7) (tCons (tC (.ty "dict")) tNil))))) (tTest (tOp (rNeY K) (tLockE (tLc (iKeys (tVar 7)) (gName 6) tYes (tTup (tCons (tVar 6) (tCons (tDg (tVar 7) (tVar 6)) tNil))) [6])) (tCW (sp__law_sorted K) W (tCons (tOp (rIxL K) (tVar 3) (tVar 8)) tNil))))) (tRet (tC (.bl false))) tNext)
  (tIfS (tOr (tTest (tOp (rNeY K) (tMC (ga K "Hall") "runs" (sp_runs K) (tOp (rIxL K) (tVar 2) (tVar 8)) tNil) (tLst tNil))) (tOr (tTest (tOp (rNeDL K) (tMC (ga K "Hall") "works" (sp_works K) (tOp (rIxL K) (tVar 2) (tVar 8)) tNil) tDNewK)) (tTest (tOp (rNeY K) (tMC (ga K "Hall") "rings" (sp_rings K) (tOp (rIxL K) (tVar 2) (tVar 8)) tNil) (tLst tNil))))) (tRet (tC (.bl false))) tNext))))
  (tRet (tC (.bl true))))))))
theorem pure_law {K : PySem.W.Frag} {vs : List V} {H : Hp} {Q : VK} {E : XK} {W : WX} (h : sp_law K vs H Q E) : t_law K W { nx := fun _ H' => Q .non H', rt := Q } (start n_law vs) H := by
  obtain ⟨a, ns, rfl, hS, hn, kk⟩ := h
  show t_law K W _ [some (.ref a), none, none, none, none, none, none, none, none] H
  unfold t_law
  walk_at "go"
  refine ⟨a, ns, 0, rfl, hS, by decide, ?_⟩
  walk_at "go"
  refine ⟨a, ns, 1, rfl, hS, by decide, ?_⟩
  walk_at "go"
  refine e_mod (by decide) ?_
  walk_at "go"
  have hc0 : 0 ≤ cellAt ns 1 % 8 := Int.emod_nonneg _ (by decide)
  have hc9 : cellAt ns 1 % 8 < 8 := Int.emod_lt_of_pos _ (by decide)
  have hm : (((2 + cellAt ns 1 % 8).toNat : Nat) : Int) = 2 + cellAt ns 1 % 8 := by omega
  refine ⟨cellAt ns 0, (2 + cellAt ns 1 % 8).toNat, by rw [hm], by omega, fun r H1 s1 r0 h1 => ?_⟩
  have hy9 : (lawNames (cellAt ns 0) (2 + cellAt ns 1 % 8).toNat).length ≤ 9 := by unfold lawNames; rw [List.length_map, List.length_range]; omega
  have hy0 : 0 < (lawNames (cellAt ns 0) (2 + cellAt ns 1 % 8).toNat).length := by unfold lawNames; rw [List.length_map, List.length_range]; omega
  have hyn : ∀ x ∈ lawNames (cellAt ns 0) (2 + cellAt ns 1 % 8).toNat, nameB x = true := fun x hx => lawNames_name hx
  generalize lawNames (cellAt ns 0) (2 + cellAt ns 1 % 8).toNat = ys at h1 hy9 hy0 hyn
  walk_at "go"
  intro a0 x0 na0 nx0 nex0
  have sA : Same H1 (upd (upd H1 x0 (.own a0)) a0 (ob (ga K "Hall") [] x0 [])) := same_up (same1 nx0) (by rw [upd_ne nex0.symm]; exact na0)
  refine ⟨a0, x0, rfl, upd_same, fun w0 m0 k0 t0 H2 s2 w0n m0n k0n wm0 wk0 mk0 R0 t0n => ?_⟩
  have s12 : Same H1 H2 := s2.from sA (by simpa using na0)
  refine ⟨rfl, ?_⟩
  walk_at "go"
  intro a1 x1 na1 nx1 nex1
  have sB : Same H2 (upd (upd H2 x1 (.own a1)) a1 (ob (ga K "Hall") [] x1 [])) := same_up (same1 nx1) (by rw [upd_ne nex1.symm]; exact na1)
  refine ⟨a1, x1, rfl, upd_same, fun w1 m1 k1 t1 H3 s3 w1n m1n k1n wm1 wk1 mk1 R1 t1n => ?_⟩
  have s23 : Same H2 H3 := s3.from sB (by simpa using na1)
  refine ⟨rfl, ?_⟩
  have old : ∀ {b : Addr} {o : HO}, H2 b = some o → ∀ c, upd (upd H2 x1 (.own a1)) a1 (ob (ga K "Hall") [] x1 []) c = none → b ≠ c := fun {b o} e c hc q => by
    rw [← q, sB _ _ e] at hc
    cases hc
  obtain ⟨⟨dx0, sv0, pv0, nv0, p1⟩, p2, p3, p4, p5⟩ := id R0
  have n1 := old p2 w1 w1n
  have n2 := old p2 m1 m1n
  have n3 := old p2 k1 k1n
  have n4 := old p3 w1 w1n
  have n5 := old p4 w1 w1n
  have n6 : a0 ≠ a1 := fun q => by rw [← q, p1] at na1; cases na1
  have R0' := R0.same s23
  clear old p1 p2 p3 p4 p5 sA sB s2 s3
  walk_at "go"
  intro hl hhl
  walk_at "go"
  have s34 : Same H3 (upd H3 hl (.lst [.ref a0, .ref a1])) := same1 hhl
  have hhl4 : upd H3 hl (.lst [.ref a0, .ref a1]) hl = some (.lst [.ref a0, .ref a1]) := upd_same
  generalize upd H3 hl (.lst [.ref a0, .ref a1]) = H4 at s34 hhl4 ⊢
  intro d0 nd0
  walk_at "go"
  intro d1 nd1
  walk_at "go"
  intro wl nwl
  walk_at "go"
  have q0 : ∀ {b : Addr} {o : HO}, H4 b = some o → b ≠ d0 := fun e => ne_of_none e nd0
  have q1 : ∀ {b : Addr} {o : HO}, H4 b = some o → b ≠ d1 := fun e => ne_of_none ((same1 nd0) _ _ e) nd1
  have d01 : d0 ≠ d1 := (none_up nd1).2.symm
  have s45 : Same H4 (upd (upd (upd H4 d0 (.dK [])) d1 (.dK [])) wl (.lst [.ref d0, .ref d1])) := ((same1 nd0).trans (same1 nd1)).trans (same1 nwl)
  have e0 : upd (upd (upd H4 d0 (.dK [])) d1 (.dK [])) wl (.lst [.ref d0, .ref d1]) d0 = some (dS []) := (same1 nwl) _ _ (upd_o upd_same d01)
  have e1 : upd (upd (upd H4 d0 (.dK [])) d1 (.dK [])) wl (.lst [.ref d0, .ref d1]) d1 = some (dS []) := (same1 nwl) _ _ upd_same
  have e2 : upd (upd (upd H4 d0 (.dK [])) d1 (.dK [])) wl (.lst [.ref d0, .ref d1]) wl = some (.lst [.ref d0, .ref d1]) := upd_same
  generalize upd (upd (upd H4 d0 (.dK [])) d1 (.dK [])) wl (.lst [.ref d0, .ref d1]) = H5 at s45 e0 e1 e2 ⊢
  obtain ⟨⟨_, _, _, _, p1⟩, p2, p3, p4, p5⟩ := R0'.same s34
  obtain ⟨⟨_, _, _, _, u1⟩, u2, u3, u4, u5⟩ := R1.same s34
  let h : Nat → Addr := fun i => if i = 0 then a0 else a1
  let w : Nat → Addr := fun i => if i = 0 then w0 else w1
  let m : Nat → Addr := fun i => if i = 0 then m0 else m1
  let kp : Nat → Addr := fun i => if i = 0 then k0 else k1
  let d : Nat → Addr := fun i => if i = 0 then d0 else d1
  let t : Nat → Addr := fun i => if i = 0 then t0 else t1
  have two2 : ∀ {P : Nat → Nat → Prop}, P 0 0 → P 0 1 → P 1 0 → P 1 1 → ∀ i j, i < 2 → j < 2 → P i j := fun {P} a b c e i j hi hj => by
    match i, j, hi, hj with
    | 0, 0, _, _ => exact a
    | 0, 1, _, _ => exact b
    | 1, 0, _, _ => exact c
    | 1, 1, _, _ => exact e
  have F : Far h w m kp d := ⟨two2 (P := fun i j => i ≠ j → h i ≠ h j) (fun z => absurd rfl z) (fun _ => n6) (fun _ => n6.symm) (fun z => absurd rfl z),
    two2 (P := fun i j => i ≠ j → w i ≠ w j) (fun z => absurd rfl z) (fun _ => n1) (fun _ => n1.symm) (fun z => absurd rfl z),
    two2 (P := fun i j => i ≠ j → d i ≠ d j) (fun z => absurd rfl z) (fun _ => d01) (fun _ => d01.symm) (fun z => absurd rfl z),
    two2 (P := fun i j => m i ≠ w j) wm0.symm n4 n2.symm wm1.symm, two2 (P := fun i j => kp i ≠ w j) wk0.symm n5 n3.symm wk1.symm,
    two2 (P := fun i j => d i ≠ w j) (q0 p2).symm (q0 u2).symm (q1 p2).symm (q1 u2).symm, two2 (P := fun i j => m i ≠ d j) (q0 p3) (q1 p3) (q0 u3) (q1 u3), two2 (P := fun i j => kp i ≠ d j) (q0 p4) (q1 p4) (q0 u4) (q1 u4)⟩
  have L0 : LR K H5 r hl wl ys h w m kp d t (fun _ => []) := ⟨fun j hj => by
      match j, hj with
      | 0, _ => exact (R0'.same s34).same s45
      | 1, _ => exact (R1.same s34).same s45, fun j hj => by
      match j, hj with
      | 0, _ => exact e0
      | 1, _ => exact e1, s45 _ _ (s34 _ _ (s23 _ _ (s12 _ _ h1))), s45 _ _ hhl4, e2, fun j _ => ⟨List.nodup_nil, by simp⟩⟩
  have hS5 : SqL K H5 a (ns.map V.int) := s45.seq (s34.seq (s23.seq (s12.seq (s1.seq hS))))
  clear_value h w m kp d t
  clear e0 e1 e2 p1 p2 p3 p4 p5 u1 u2 u3 u4 u5 q0 q1 s45 s34 s23 s12 hhl4 R0' R0 R1 two2 hS h1
  refine e_slL hS5 fun c hc => ?_
  rw [show cutV (ns.map V.int) (some 2) none = (ns.map V.int).drop 2 from cut_from _ 2, ← List.map_drop]
  have hcc : upd H5 c (.lst ((ns.drop 2).map V.int)) c = some (.lst ((ns.drop 2).map V.int)) := upd_same
  have L1 := L0.same (same1 (o := .lst ((ns.drop 2).map V.int)) hc)
  generalize upd H5 c (.lst ((ns.drop 2).map V.int)) = H6 at hcc L1 ⊢
  obtain ⟨⟨_, _, _, _, g1⟩, _⟩ := L1.hall 0 (by decide)
  refine k_forL (fun i σ H' => ∃ (j : Nat) (v5 v6 v7 : Option V) (ws : Nat → List (Str × Int)), j < 2 ∧ σ = [some (.ref a), some (.ref r), some (.ref hl), some (.ref wl), some (.int (j : Int)), v5, v6, v7, none] ∧ H' c = some (.lst ((ns.drop 2).map V.int)) ∧ LR K H' r hl wl ys h w m kp d t ws)
    (SqL.of hcc) ⟨0, none, none, none, _, by decide, rfl, hcc, L1⟩ (fun i σ H' _ ⟨_, _, _, _, _, _, _, p, _⟩ => SqL.of p) ?_ ?_
  · rintro i x σ H7 hi ⟨j, v5, v6, v7, ws, hj, rfl, hc7, L⟩
    obtain ⟨cell, rfl⟩ : ∃ n : Int, x = .int n := by
      rw [List.getElem?_map] at hi
      cases e : (ns.drop 2)[i]? with
      | none => rw [e] at hi; cases hi
      | some z => rw [e] at hi; exact ⟨z, (Option.some.inj hi).symm⟩
    have hj' : 1 - j < 2 := by omega
    have ej : (1 : Int) - (j : Int) = ((1 - j : Nat) : Int) := by omega
    walk_at "go"
    rw [ej]
    generalize 1 - j = j' at hj'
    refine e_lenL (SqL.of L.nm) ?_
    rw [List.length_map]
    refine e_mod (by omega) ?_
    have hb := pick_at (ys := ys) (c := cell) hy0
    refine e_ixL (SqL.of L.nm) hb ?_
    have hxy : pick ys cell ∈ ys := pick_mem hy0
    generalize pick ys cell = z at hxy
    have hlen := Nat.le_trans (L.len hj') hy9
    have hn31 : 0 ≤ cell / 32 % 31 := Int.emod_nonneg _ (by decide)
    have hn32 : cell / 32 % 31 < 31 := Int.emod_lt_of_pos _ (by decide)
    have g1 := (L.hall j' hj').1
    -- the asking, from any state
    have rest : ∀ (H8 : Hp) (ws : Nat → List (Str × Int)), H8 c = some (.lst ((ns.drop 2).map V.int)) → LR K H8 r hl wl ys h w m kp d t ws → ∀ D : Ends, (∀ v7, D.nx [some (.ref a), some (.ref r), some (.ref hl), some (.ref wl), some (.int (j' : Int)), some (.int cell), some (.str z), v7, none] H8 → True) → 
        (∀ (H9 : Hp) (v7 : V), H9 c = some (.lst ((ns.drop 2).map V.int)) → LR K H9 r hl wl ys h w m kp d t ws → D.nx [some (.ref a), some (.ref r), some (.ref hl), some (.ref wl), some (.int (j' : Int)), some (.int cell), some (.str z), some v7, none] H9) →
        tSeq (tAsg (tMC (ga K "Hall") "ask" (sp_ask K) (tOp (rIxL K) (tVar 2) (tVar 4)) (tCons (tVar 6) tNil)) (gName 7))
          (tIfS (tOr (tNot (tB (tCW sp__law_whole W (tCons (tVar 7) tNil)))) (tTest (tOp rNe (tVar 7) (tDg2 (tOp (rIxL K) (tVar 3) (tVar 4)) (tVar 6) (tC (.int 0)))))) (tRet (tC (.bl false))) tNext) D
          [some (.ref a), some (.ref r), some (.ref hl), some (.ref wl), some (.int (j' : Int)), some (.int cell), some (.str z), v7, none] H8 := by
      intro H8 ws hc8 L8 D _ hD
      obtain ⟨⟨_, _, _, _, g1⟩, _⟩ := L8.hall j' hj'
      walk_at "go"
      refine e_ixL (SqL.of L8.hs) (atI_nat (two hj')) ?_
      refine k_mc g1 rfl ?_
      walk_at "go"
      refine ⟨h j', w j', m j', kp j', t j', ws j', z, rfl, L8.hall j' hj', hyn z hxy, fun H9 s9 => ?_⟩
      have L9 := L8.same s9
      walk_at "go"
      refine ⟨_, rfl, ?_⟩
      walk_at "go"
      refine iteF ?_
      walk_at "go"
      refine e_ixL (SqL.of L9.os) (atI_nat (two hj')) ?_
      refine k_isD (.of (L9.own j' hj')) ?_
      walk_at "go"
      refine k_dg2 (.of (L9.own j' hj')) ?_
      rw [wv_getD]
      walk_at "go"
      rw [decide_eq_true rfl]
      refine iteF ?_
      walk_at "go"
      exact hD H9 _ (s9 _ _ hc8) L9
    walk_at "go"
    refine e_div (divw cell (by decide) (by decide)) ?_
    walk_at "go"
    refine e_mod (by decide) ?_
    walk_at "go"
    refine ifd (fun _ => ?_) (fun _ => ?_)
    · obtain ⟨_, _, _, _, g1⟩ := g1
      walk_at "go"
      refine e_ixL (SqL.of L.hs) (atI_nat (two hj')) ?_
      refine k_mc g1 rfl ?_
      walk_at "go"
      refine e_div (divw cell (by decide) (by decide)) ?_
      walk_at "go"
      refine e_mod (by decide) ?_
      walk_at "go"
      refine ⟨h j', w j', m j', kp j', t j', ws j', z, _, rfl, L.hall j' hj', by omega, hyn z hxy, hn31, by omega, F.wm j' j' hj' hj', F.wk j' j' hj' hj', fun H8 s8 R8 => ?_⟩
      walk_at "go"
      refine iteF ?_
      walk_at "go"
      refine e_div (divw cell (by decide) (by decide)) ?_
      walk_at "go"
      refine e_mod (by decide) ?_
      walk_at "go"
      have L8 := LR.put F L hj' hxy s8 R8
      have c1 : ∀ {xs : List V}, H7 c = some (.lst xs) → upd H8 (d j') (dS (wv (putS (ws j') z (cell / 32 % 31)))) c = some (.lst xs) := fun {xs} e => by
        obtain ⟨⟨_, _, _, _, f1⟩, f2, _⟩ := L.hall j' hj'
        have f3 := L.own j' hj'
        exact upd_o (s8 _ _ (by
          have a : c ≠ h j' := ne_of e f1 (by intro z; cases z)
          have b : c ≠ w j' := ne_of e f2 (by intro z; cases z)
          simp [a, b]) e) (ne_of e f3 (by intro z; cases z))
      have o8 : H8 (d j') = some (dS (wv (ws j'))) := s8 _ _ (by
        have a : d j' ≠ h j' := ne_of (L.own j' hj') g1 (by intro z; cases z)
        have b := F.wd j' j' hj' hj'
        simp [a, b]) (L.own j' hj')
      have os8 : H8 wl = some (.lst [.ref (d 0), .ref (d 1)]) := s8 _ _ (by
        obtain ⟨_, f2, _⟩ := L.hall j' hj'
        have a : wl ≠ h j' := ne_of L.os g1 (by intro z; cases z)
        have b : wl ≠ w j' := ne_of L.os f2 (by intro z; cases z)
        simp [a, b]) L.os
      refine e_ixL (SqL.of os8) (atI_nat (two hj')) ?_
      walk_at "go"
      refine k_dp o8 (small1000 (by rw [wv_len]; omega)) ?_
      rw [wv_put]
      refine rest _ _ (c1 hc7) L8 _ (fun _ _ => trivial) fun H9 v7 hc9 L9 => ?_
      exact ⟨j', _, _, _, _, hj', rfl, hc9, L9⟩
    · apply st_next
      refine rest _ _ hc7 L _ (fun _ _ => trivial) fun H9 v7 hc9 L9 => ?_
      exact ⟨j', _, _, _, _, hj', rfl, hc9, L9⟩
  · rintro σ H7 ⟨j, v5, v6, v7, ws, hj, rfl, hc7, L⟩
    walk_at "go"
    refine k_forR (fun i σ H' => ∃ (v6 v7 v8 : Option V) (t : Nat → Addr), σ = [some (.ref a), some (.ref r), some (.ref hl), some (.ref wl), some (.int (j : Int)), v5, v6, v7, v8] ∧ LR K H' r hl wl ys h w m kp d t ws) (by decide) (by decide) ⟨v6, v7, none, t, rfl, L⟩ ?_ ?_
    · rintro i σ H8 hi ⟨v6, v7, v8, t, rfl, L⟩
      have hi : i < 2 := by omega
      obtain ⟨⟨_, _, _, _, g1⟩, _⟩ := L.hall i hi
      have hl9 := Nat.le_trans (L.len hi) hy9
      walk_at "go"
      refine e_ixL (SqL.of L.hs) (atI_nat (two hi)) ?_
      refine k_mc g1 rfl ?_
      walk_at "go"
      refine ⟨h i, w i, m i, kp i, t i, ws i, rfl, L.hall i hi, by omega, (L.nd i hi).1, fun f ys1 H9 s9 hf hp1 hs1 => ?_⟩
      have L9 := L.same s9
      walk_at "go"
      refine e_isiD hf (b := true) (by decide +kernel) ?_
      walk_at "go"
      refine iteF ?_
      walk_at "go"
      refine e_lockE f _ hf trivial fun od => ?_
      walk_at "go"
      have hyd : ys1.Nodup := hp1.nodup_iff.mpr (L9.nd i hi).1
      have lys : (pickW (ws i) ys1).length = (ws i).length := by unfold pickW; rw [List.length_map, hp1.length_eq, List.length_map]
      refine k_lcK (fun n D H' => Same (upd H9 f (.frz od (dS (wv (pickW (ws i) ys1))))) H' ∧ (upd H9 f (.frz od (dS (wv (pickW (ws i) ys1))))) D = none ∧ ∃ rs, H' D = some (.lst rs) ∧ Paired (TupR H') ((pickW (ws i) ys1).take n) rs) upd_same
        (fun D hD => ⟨same1 hD, hD, [], upd_same, by rw [List.take_zero]; exact .nil⟩) (fun n D H' p => p.1 _ _ upd_same) ?_ ?_
      · rintro n k v D H' hD hk ⟨s', nD, rs, hrs, P⟩
        have hkk : ∃ y n', (pickW (ws i) ys1)[n]? = some (y, n') ∧ k = y ∧ v = V.int n' := by
          unfold wv at hk
          rw [List.getElem?_map] at hk
          cases e : (pickW (ws i) ys1)[n]? with
          | none => rw [e] at hk; cases hk
          | some p =>
            rw [e] at hk
            have hk := Option.some.inj hk
            injection hk with e1 e2
            exact ⟨p.1, p.2, rfl, e1.symm, e2.symm⟩
        obtain ⟨y, n', hyn', rfl, rfl⟩ := hkk
        have hil := List.getElem?_eq_some_iff.mp hyn'
        show _ ∧ tYes [some (.ref a), some (.ref r), some (.ref hl), some (.ref wl), some (.int (j : Int)), v5, some (.str k), some (.ref f), some (.int (i : Int))] H' _
        refine ⟨rfl, ?_⟩
        walk_at "go"
        refine iteT ?_
        walk_at "go"
        have kn : ((pickW (ws i) ys1).map (·.1)).Nodup := by
          have e : (pickW (ws i) ys1).map (·.1) = ys1 := by unfold pickW; rw [List.map_map]; exact List.map_id _
          rw [e]
          exact hyd
        refine k_dg (v := .int n') (.inr ⟨od, s' _ _ upd_same⟩) (by rw [wv_get, getS_of_nodup kn (List.mem_of_getElem? hyn')]; rfl) ?_
        walk_at "go"
        intro tp htp
        refine ⟨rs, upd_o hrs (ne_of_none hrs htp), ?_, same_mut (s'.trans (same1 htp)) nD, nD, _, upd_same, ?_⟩
        · rw [← Paired.length P, List.length_take]
          exact small1000 (by omega)
        · rw [List.take_succ_eq_append_getElem hil.1, hil.2]
          have tD : tp ≠ D := fun e => by rw [e, hrs] at htp; cases htp
          exact paired_snoc (Paired.mapP P fun _ _ ⟨b, e1, e2⟩ => ⟨b, e1, upd_o ((same1 htp) _ _ e2) (ne_of e2 hrs (by intro z; cases z))⟩) ⟨tp, rfl, upd_o upd_same tD⟩
      · rintro D H' hD ⟨s', nD, rs, hrs, P⟩
        rw [wv_len, List.take_of_length_le (Nat.le_refl _)] at P
        have fD : f ≠ D := fun e => by rw [← e, upd_same] at nD; cases nD
        refine ⟨s' _ _ upd_same, ?_⟩
        have sU := same_unlock hf s'
        have hD' := upd_o (o := dS (wv (pickW (ws i) ys1))) hrs fD.symm
        have P' : Paired (TupR (upd H' f (dS (wv (pickW (ws i) ys1))))) (pickW (ws i) ys1) rs := Paired.mapP P fun _ _ ⟨b, e1, e2⟩ => ⟨b, e1, upd_o e2 (ne_of e2 (s' _ _ upd_same) (by intro z; cases z))⟩
        have LU := L9.same sU
        generalize upd H' f (dS (wv (pickW (ws i) ys1))) = HU at sU hD' P' LU ⊢
        clear s' hrs nD hD P fD
        walk_at "go"
        refine e_ixL (SqL.of LU.os) (atI_nat (two hi)) ?_
        walk_at "go"
        refine ⟨d i, ws i, rfl, LU.own i hi, by omega, fun q rs2 ys2 HV sV hq P2 hp2 hs2 => ?_⟩
        have ey : ys1 = ys2 := sorted_one (sorted_lt (sorted_pw hs1) hyd) (sorted_lt (sorted_pw hs2) (hp2.nodup_iff.mpr (L9.nd i hi).1)) fun z => by rw [hp1.mem_iff, hp2.mem_iff]
        subst ey
        have LV := LU.same sV
        refine e_neY (pickW (ws i) ys1) (pickW (ws i) ys1) (by decide) (.lst (SqL.of (sV _ _ hD')) (dpa_tups (Paired.mapP P' fun _ _ => TupR.same sV))) (.lst (SqL.of hq) (dpa_tups P2)) ?_
        rw [decide_eq_true rfl]
        walk_at "go"
        refine iteF ?_
        walk_at "go"
        obtain ⟨⟨_, _, _, _, g2⟩, _⟩ := LV.hall i hi
        refine e_ixL (SqL.of LV.hs) (atI_nat (two hi)) ?_
        refine k_mc g2 rfl ?_
        walk_at "go"
        refine ⟨h i, w i, m i, kp i, t i, ws i, rfl, LV.hall i hi, fun x t' HW sW hx nt RW => ?_⟩
        have LW := LR.runs F LV hi sW RW
        clear LV g2
        generalize hT : (fun i_1 => if i_1 = i then t' else t i_1) = tt at LW
        clear hT
        walk_at "go"
        intro y hy
        refine e_neY ([] : List Str) ([] : List Str) (by decide) (dp_strs (SqL.of ((same1 hy) _ _ hx))) (dp_strs (SqL.of upd_same)) ?_
        rw [decide_eq_true rfl]
        walk_at "go"
        refine iteF ?_
        have LX := LW.same (same1 (o := .lst []) hy)
        generalize upd HW y (.lst []) = HX at LX ⊢
        obtain ⟨⟨_, _, _, _, g3⟩, _⟩ := LX.hall i hi
        walk_at "go"
        refine e_ixL (SqL.of LX.hs) (atI_nat (two hi)) ?_
        refine k_mc g3 rfl ?_
        walk_at "go"
        refine ⟨h i, w i, m i, kp i, tt i, ws i, rfl, LX.hall i hi, fun u HY sY hu => ?_⟩
        have LY := LX.same sY
        walk_at "go"
        intro e he
        refine ⟨Str, inferInstance, inferInstance, u, e, skv [], skv [], rfl, rfl, (same1 he) _ _ hu, upd_same, by decide, rfl, fun p hp => by simp [skv] at hp, ?_⟩
        walk_at "go"
        refine iteF ?_
        have LZ := LY.same (same1 (o := .dK []) he)
        generalize upd HY e (.dK []) = HZ at LZ ⊢
        obtain ⟨⟨_, _, _, _, g4⟩, _⟩ := LZ.hall i hi
        walk_at "go"
        refine e_ixL (SqL.of LZ.hs) (atI_nat (two hi)) ?_
        refine k_mc g4 rfl ?_
        walk_at "go"
        refine ⟨h i, w i, m i, kp i, tt i, ws i, rfl, LZ.hall i hi, fun o HQ sQ ho => ?_⟩
        have LQ := LZ.same sQ
        walk_at "go"
        intro y2 hy2
        refine e_neY ([] : List Str) ([] : List Str) (by decide) (dp_strs (SqL.of ((same1 hy2) _ _ ho))) (dp_strs (SqL.of upd_same)) ?_
        rw [decide_eq_true rfl]
        walk_at "go"
        refine iteF ?_
        walk_at "go"
        exact ⟨_, _, _, tt, rfl, LQ.same (same1 hy2)⟩
    · rintro σ H8 ⟨v6, v7, v8, t, rfl, L⟩
      walk_at "go"
      exact kk _
theorem noats_nil {K : PySem.W.Frag} {C : Addr} : ∀ f ∈ ([] : List Str), NoAttr K C f := by simp
theorem noats_cons {K : PySem.W.Frag} {C : Addr} {f : Str} {ns : List Str} (h : NoAttr K C f) (r : ∀ g ∈ ns, NoAttr K C g) : ∀ g ∈ f :: ns, NoAttr K C g := fun g hg => by
  rcases List.mem_cons.mp hg with q | q
  · rw [q]
    exact h
  · exact r g q
theorem pos_of {f : Str} {i : Nat} {ns : List Str} (h : posOf ns f = some i) : posOf ns f = some i := h
theorem p_Hall_welled : posOf ns_Hall "welled" = some 0 := by decide +kernel
theorem p_Hall_made : posOf ns_Hall "made" = some 1 := by decide +kernel
theorem p_Hall_kept : posOf ns_Hall "kept" = some 2 := by decide +kernel
theorem p_Hall_sure : posOf ns_Hall "sure" = some 3 := by decide +kernel
theorem p_Hall_taken : posOf ns_Hall "taken" = some 4 := by decide +kernel
theorem p_Hall_points : posOf ns_Hall "points" = some 5 := by decide +kernel
theorem p_Hall_number : posOf ns_Hall "number" = some 6 := by decide +kernel
theorem p_Asking_house : posOf ns_Asking "house" = some 0 := by decide +kernel
theorem p_Asking_under : posOf ns_Asking "under" = some 1 := by decide +kernel
theorem p_Asking_place : posOf ns_Asking "place" = some 2 := by decide +kernel
theorem p_Asking_lowest : posOf ns_Asking "lowest" = some 3 := by decide +kernel
theorem p_Asking_standing : posOf ns_Asking "standing" = some 4 := by decide +kernel
theorem p_Asking_heard : posOf ns_Asking "heard" = some 5 := by decide +kernel
theorem p_Asking_looked : posOf ns_Asking "looked" = some 6 := by decide +kernel
def top (i : Nat) : Stmt := PySem.Challenge.pw_anewhall_k10_wells_and_noughts.main.body.getD i (.Pass ⟨0, 0, 0, 0⟩)
def inClass (s : Stmt) (j : Nat) : Stmt := match s with
  | .ClassDef (body := b) .. => b.getD j (.Pass ⟨0, 0, 0, 0⟩)
  | _ => .Pass ⟨0, 0, 0, 0⟩
open He (ga ma)
/-- what the walk asks of the text -/
structure Tx (K : PySem.W.Frag) (mg : Str → Option Value) : Prop where
  d_law : Def K "law" "law" (top 34) (ga K "law")
  g_law : mg "law" = some (.ref (ga K "law"))
  d_is_name : Def K "is_name" "is_name" (top 12) (ga K "is_name")
  f_len : mg "len" = none
  k_LONGEST : ∃ t, mg "LONGEST" = some (.int 6 t)
  k_LETTERS : ∃ t, mg "LETTERS" = some (.str "abcdefghijklmnopqrstuvwxyz" t)
  d_need_name : Def K "need_name" "need_name" (top 27) (ga K "need_name")
  g_is_name : mg "is_name" = some (.ref (ga K "is_name"))
  d_Hall___init__ : Def K "__init__" "Hall.__init__" (inClass (top 28) 0) (ma K (ga K "Hall") "__init__")
  c_Hall : IsC K (ga K "Hall") ns_Hall
  d_Hall_need_room : Def K "need_room" "Hall.need_room" (inClass (top 28) 1) (ma K (ga K "Hall") "need_room")
  k_MOST_NAMES : ∃ t, mg "MOST_NAMES" = some (.int 10 t)
  d_Hall_put : Def K "put" "Hall.put" (inClass (top 28) 2) (ma K (ga K "Hall") "put")
  g_need_name : mg "need_name" = some (.ref (ga K "need_name"))
  k_MOST : ∃ t, mg "MOST" = some (.int 30 t)
  m_Hall_need_room : Meth K (ga K "Hall") "need_room" (ma K (ga K "Hall") "need_room")
  d_Asking___init__ : Def K "__init__" "Asking.__init__" (inClass (top 18) 0) (ma K (ga K "Asking") "__init__")
  c_Asking : IsC K (ga K "Asking") ns_Asking
  d_Asking_come : Def K "come" "Asking.come" (inClass (top 18) 1) (ma K (ga K "Asking") "come")
  d_Hall_ask : Def K "ask" "Hall.ask" (inClass (top 28) 4) (ma K (ga K "Hall") "ask")
  m_Asking_come : Meth K (ga K "Asking") "come" (ma K (ga K "Asking") "come")
  mk_Asking : Mk K (ga K "Asking") (ma K (ga K "Asking") "__init__")
  g_Asking : mg "Asking" = some (.ref (ga K "Asking"))
  d_Hall_wells : Def K "wells" "Hall.wells" (inClass (top 28) 10) (ma K (ga K "Hall") "wells")
  f_sorted : mg "sorted" = none
  f_list : mg "list" = none
  d_Hall_works : Def K "works" "Hall.works" (inClass (top 28) 11) (ma K (ga K "Hall") "works")
  d_Hall_runs : Def K "runs" "Hall.runs" (inClass (top 28) 5) (ma K (ga K "Hall") "runs")
  d_Hall_rings : Def K "rings" "Hall.rings" (inClass (top 28) 7) (ma K (ga K "Hall") "rings")
  d__law_cell_at : Def K "_law_cell_at" "_law_cell_at" (top 30) (ga K "_law_cell_at")
  d__law_names : Def K "_law_names" "_law_names" (top 31) (ga K "_law_names")
  f_range : mg "range" = none
  d__law_whole : Def K "_law_whole" "_law_whole" (top 32) (ga K "_law_whole")
  f_isinstance : mg "isinstance" = none
  f_int : mg "int" = none
  f_bool : mg "bool" = none
  d__law_sorted : Def K "_law_sorted" "_law_sorted" (top 33) (ga K "_law_sorted")
  g__law_names : mg "_law_names" = some (.ref (ga K "_law_names"))
  g__law_cell_at : mg "_law_cell_at" = some (.ref (ga K "_law_cell_at"))
  mk_Hall : Mk K (ga K "Hall") (ma K (ga K "Hall") "__init__")
  g_Hall : mg "Hall" = some (.ref (ga K "Hall"))
  m_Hall_put : Meth K (ga K "Hall") "put" (ma K (ga K "Hall") "put")
  m_Hall_ask : Meth K (ga K "Hall") "ask" (ma K (ga K "Hall") "ask")
  g__law_whole : mg "_law_whole" = some (.ref (ga K "_law_whole"))
  m_Hall_wells : Meth K (ga K "Hall") "wells" (ma K (ga K "Hall") "wells")
  f_dict : mg "dict" = none
  g__law_sorted : mg "_law_sorted" = some (.ref (ga K "_law_sorted"))
  m_Hall_runs : Meth K (ga K "Hall") "runs" (ma K (ga K "Hall") "runs")
  m_Hall_works : Meth K (ga K "Hall") "works" (ma K (ga K "Hall") "works")
  m_Hall_rings : Meth K (ga K "Hall") "rings" (ma K (ga K "Hall") "rings")
abbrev s_is_name : Stmt := top 12
theorem sc_is_name : FnScope n_is_name ["word"] (defScope s_is_name) := ⟨rfl, rfl, rfl, by decide +kernel, rfl, by decide +kernel, by decide +kernel⟩
theorem ok_is_name {P : Program} {w : World} {K : PySem.W.Frag} {mg : Str → Option Value} {base : Heap} (T : Tx K mg) : Ok P w K mg base 1 (ga K "is_name") ["word"] sp_is_name := by
  refine ok0 T.d_is_name sc_is_name (fun _ _ _ _ _ _ us hl => match us, hl with | [_], _ => rfl) (fun vs H Q E h => ln_is_name h) (fun cdv A outer s H vs Q E hr h => ⟨t_is_name K (fun _ _ _ _ => False), ?_, pure_is_name h⟩)
  have hu := hu_of hr
  have tk := L2.takes0 (X := (cxOf (L2.CX P w) P w K mg base n_is_name "is_name" (defScope s_is_name) (ga K "is_name") cdv A outer s H E).nox)
  exact pss_cons (ps_if (PW.pt (pw_or (pt_cmpR op_eq (pv 0) pe_str (nomark _)) (pw_or1 (pt_cmpR op_gt (pe_callB call_lenT (by rfl) T.f_len (by decide +kernel) (pa_cons (pv 0) pa_nil)) (an_cint T.k_LONGEST) (nomark _))))) (pss_one (ps_ret pe_bl)) pss_nil)
      (pss_cons (ps_for PassesOwn.never rfl (pi_str (pv 0)) (pg_name (i := 1) sc_is_name.nd rfl (Or.inl rfl)) (pss_one (ps_if (pt_cmpR op_notInS (pv 1) (an_cstr T.k_LETTERS) (by rfl)) (pss_one (ps_ret pe_bl)) pss_nil)))
      (pss_one (ps_ret pe_bl)))
abbrev s_need_name : Stmt := top 27
theorem sc_need_name : FnScope n_need_name ["name"] (defScope s_need_name) := ⟨rfl, rfl, rfl, by decide +kernel, rfl, by decide +kernel, by decide +kernel⟩
theorem ok_need_name {P : Program} {w : World} {K : PySem.W.Frag} {mg : Str → Option Value} {base : Heap} (T : Tx K mg) (F_is_name : Ok P w K mg base 1 (ga K "is_name") ["word"] sp_is_name) : Ok P w K mg base 2 (ga K "need_name") ["name"] sp_need_name := by
  refine ok0 T.d_need_name sc_need_name (fun _ _ _ _ _ _ us hl => match us, hl with | [_], _ => rfl) (fun vs H Q E h => ln_need_name h) (fun cdv A outer s H vs Q E hr h => ⟨t_need_name K (fun _ _ _ _ => False), ?_, pure_need_name h⟩)
  have hu := hu_of hr
  have tk := L2.takes0 (X := (cxOf (L2.CX P w) P w K mg base n_need_name "need_name" (defScope s_need_name) (ga K "need_name") cdv A outer s H E).nox)
  exact pss_one (ps_if (pt_not (pt_val (an_call F_is_name (hr.mono (by decide)) tk T.g_is_name (pa_cons (pv 0) pa_nil)))) pss_never pss_nil)
abbrev s_Hall___init__ : Stmt := inClass (top 28) 0
theorem sc_Hall___init__ : FnScope n_Hall___init__ ["self"] (defScope s_Hall___init__) := ⟨rfl, rfl, rfl, by decide +kernel, rfl, by decide +kernel, by decide +kernel⟩
theorem ok_Hall___init__ {P : Program} {w : World} {K : PySem.W.Frag} {mg : Str → Option Value} {base : Heap} (T : Tx K mg) : Ok P w K mg base 1 (ma K (ga K "Hall") "__init__") ["self"] (sp_Hall_init K) := by
  refine ok0 T.d_Hall___init__ sc_Hall___init__ (fun _ _ _ _ _ _ us hl => match us, hl with | [_], _ => rfl) (fun vs H Q E h => ln_Hall___init__ h) (fun cdv A outer s H vs Q E hr h => ⟨t_Hall___init__ K (fun _ _ _ _ => False), ?_, pure_Hall___init__ h⟩)
  have hu := hu_of hr
  have tk := L2.takes0 (X := (cxOf (L2.CX P w) P w K mg base n_Hall___init__ "Hall.__init__" (defScope s_Hall___init__) (ma K (ga K "Hall") "__init__") cdv A outer s H E).nox)
  exact pss_cons (an_snew T.c_Hall (by decide) (by rfl) (pv 0) pe_dnewK)
      (pss_cons (an_snew T.c_Hall (by decide) (by rfl) (pv 0) pe_dnewK)
      (pss_cons (an_snew T.c_Hall (by decide) (by rfl) (pv 0) pe_dnewK)
      (pss_cons (an_snew T.c_Hall (by decide) (by rfl) (pv 0) pe_dnewK)
      (pss_cons (an_snew T.c_Hall (by decide) (by rfl) (pv 0) (pe_lst pa_nil))
      (pss_cons (an_snew T.c_Hall (by decide) (by rfl) (pv 0) (pe_lst pa_nil))
      (pss_one (an_snew T.c_Hall (by decide) (by rfl) (pv 0) pe_int)))))))
abbrev s_Hall_need_room : Stmt := inClass (top 28) 1
theorem sc_Hall_need_room : FnScope n_Hall_need_room ["self", "name"] (defScope s_Hall_need_room) := ⟨rfl, rfl, rfl, by decide +kernel, rfl, by decide +kernel, by decide +kernel⟩
theorem ok_Hall_need_room {P : Program} {w : World} {K : PySem.W.Frag} {mg : Str → Option Value} {base : Heap} (T : Tx K mg) : Ok P w K mg base 1 (ma K (ga K "Hall") "need_room") ["self", "name"] (sp_need_room K) := by
  refine ok0 T.d_Hall_need_room sc_Hall_need_room (fun _ _ _ _ _ _ us hl => match us, hl with | [_, _], _ => rfl) (fun vs H Q E h => ln_Hall_need_room h) (fun cdv A outer s H vs Q E hr h => ⟨t_Hall_need_room K (fun _ _ _ _ => False), ?_, pure_Hall_need_room h⟩)
  have hu := hu_of hr
  have tk := L2.takes0 (X := (cxOf (L2.CX P w) P w K mg base n_Hall_need_room "Hall.need_room" (defScope s_Hall_need_room) (ma K (ga K "Hall") "need_room") cdv A outer s H E).nox)
  exact pss_cons (ps_if (PW.pt (pw_or (pt_cmp (an_din hu (pv 1) (an_fld T.c_Hall p_Hall_welled (pv 0)))) (pw_or1 (pt_cmp (an_din hu (pv 1) (an_fld T.c_Hall p_Hall_made (pv 0))))))) (pss_one ps_retN) pss_nil)
      (pss_one (ps_if (pt_cmpR op_ge (pe_op op_add (pe_callB call_lenS (by rfl) T.f_len (by decide +kernel) (pa_cons (an_fld T.c_Hall p_Hall_welled (pv 0)) pa_nil)) (pe_callB call_lenS (by rfl) T.f_len (by decide +kernel) (pa_cons (an_fld T.c_Hall p_Hall_made (pv 0)) pa_nil))) (an_cint T.k_MOST_NAMES) (nomark _)) pss_never pss_nil))
abbrev s_Hall_put : Stmt := inClass (top 28) 2
theorem sc_Hall_put : FnScope n_Hall_put ["self", "name", "number"] (defScope s_Hall_put) := ⟨rfl, rfl, rfl, by decide +kernel, rfl, by decide +kernel, by decide +kernel⟩
theorem ok_Hall_put {P : Program} {w : World} {K : PySem.W.Frag} {mg : Str → Option Value} {base : Heap} (T : Tx K mg) (F_need_name : Ok P w K mg base 2 (ga K "need_name") ["name"] sp_need_name) (F_Hall_need_room : Ok P w K mg base 1 (ma K (ga K "Hall") "need_room") ["self", "name"] (sp_need_room K)) : Ok P w K mg base 3 (ma K (ga K "Hall") "put") ["self", "name", "number"] (sp_put K) := by
  refine ok0 T.d_Hall_put sc_Hall_put (fun _ _ _ _ _ _ us hl => match us, hl with | [_, _, _], _ => rfl) (fun vs H Q E h => ln_Hall_put h) (fun cdv A outer s H vs Q E hr h => ⟨t_Hall_put K (fun _ _ _ _ => False), ?_, pure_Hall_put h⟩)
  have hu := hu_of hr
  have tk := L2.takes0 (X := (cxOf (L2.CX P w) P w K mg base n_Hall_put "Hall.put" (defScope s_Hall_put) (ma K (ga K "Hall") "put") cdv A outer s H E).nox)
  exact pss_cons (ps_expr (an_call F_need_name (hr.mono (by decide)) tk T.g_need_name (pa_cons (pv 1) pa_nil)))
      (pss_cons (ps_if (PW.pt (pw_or (pt_cmpR op_lt (pv 2) pe_int (nomark _)) (pw_or1 (pt_cmpR op_gt (pv 2) (an_cint T.k_MOST) (nomark _))))) pss_never pss_nil)
      (pss_cons (ps_expr (an_meth T.c_Hall T.m_Hall_need_room F_Hall_need_room (hr.mono (by decide)) (pv 0) (pa_cons (pv 1) pa_nil)))
      (pss_cons (ps_if (pt_cmp (an_din hu (pv 1) (an_fld T.c_Hall p_Hall_made (pv 0)))) pss_never pss_nil)
      (pss_cons (an_dput hu (an_fld T.c_Hall p_Hall_welled (pv 0)) (pv 1) (pv 2))
      (pss_one (an_sfld T.c_Hall p_Hall_sure (pv 0) pe_dnewK))))))
abbrev s_Asking___init__ : Stmt := inClass (top 18) 0
theorem sc_Asking___init__ : FnScope n_Asking___init__ ["self", "house"] (defScope s_Asking___init__) := ⟨rfl, rfl, rfl, by decide +kernel, rfl, by decide +kernel, by decide +kernel⟩
theorem ok_Asking___init__ {P : Program} {w : World} {K : PySem.W.Frag} {mg : Str → Option Value} {base : Heap} (T : Tx K mg) : Ok P w K mg base 1 (ma K (ga K "Asking") "__init__") ["self", "house"] (sp_Asking_init K) := by
  refine ok0 T.d_Asking___init__ sc_Asking___init__ (fun _ _ _ _ _ _ us hl => match us, hl with | [_, _], _ => rfl) (fun vs H Q E h => ln_Asking___init__ h) (fun cdv A outer s H vs Q E hr h => ⟨t_Asking___init__ K (fun _ _ _ _ => False), ?_, pure_Asking___init__ h⟩)
  have hu := hu_of hr
  have tk := L2.takes0 (X := (cxOf (L2.CX P w) P w K mg base n_Asking___init__ "Asking.__init__" (defScope s_Asking___init__) (ma K (ga K "Asking") "__init__") cdv A outer s H E).nox)
  exact pss_cons (an_snew T.c_Asking (by decide) (by rfl) (pv 0) (pv 1))
      (pss_cons (an_snew T.c_Asking (by decide) (by rfl) (pv 0) (pe_lst pa_nil))
      (pss_cons (an_snew T.c_Asking (by decide) (by rfl) (pv 0) pe_dnewK)
      (pss_cons (an_snew T.c_Asking (by decide) (by rfl) (pv 0) pe_dnewK)
      (pss_cons (an_snew T.c_Asking (by decide) (by rfl) (pv 0) pe_dnewK)
      (pss_cons (an_snew T.c_Asking (by decide) (by rfl) (pv 0) pe_dnewK)
      (pss_one (an_snew T.c_Asking (by decide) (by rfl) (pv 0) pe_dnewK)))))))
abbrev s_Asking_come : Stmt := inClass (top 18) 1
theorem sc_Asking_come : FnScope n_Asking_come ["self", "name"] (defScope s_Asking_come) := ⟨rfl, rfl, rfl, by decide +kernel, rfl, by decide +kernel, by decide +kernel⟩
theorem ok_Asking_come {P : Program} {w : World} {K : PySem.W.Frag} {mg : Str → Option Value} {base : Heap} (T : Tx K mg) : Ok P w K mg base 1 (ma K (ga K "Asking") "come") ["self", "name"] (sp_come K) := by
  refine ok0 T.d_Asking_come sc_Asking_come (fun _ _ _ _ _ _ us hl => match us, hl with | [_, _], _ => rfl) (fun vs H Q E h => ln_Asking_come h) (fun cdv A outer s H vs Q E hr h => ⟨t_Asking_come K (fun _ _ _ _ => False), ?_, pure_Asking_come h⟩)
  have hu := hu_of hr
  have tk := L2.takes0 (X := (cxOf (L2.CX P w) P w K mg base n_Asking_come "Asking.come" (defScope s_Asking_come) (ma K (ga K "Asking") "come") cdv A outer s H E).nox)
  exact pss_cons (ps_set (i := 2) sc_Asking_come.nd rfl (Or.inl rfl) (an_fld T.c_Asking p_Asking_house (pv 0)))
      (pss_cons (ps_if (pt_cmp (an_din hu (pv 1) (an_fld T.c_Hall p_Hall_welled (pv 2)))) (pss_one (ps_ret (an_dget hu (an_fld T.c_Hall p_Hall_welled (pv 2)) (pv 1)))) pss_nil)
      (pss_cons (ps_if (pt_cmp (an_dnin hu (pv 1) (an_fld T.c_Hall p_Hall_made (pv 2)))) (pss_one (ps_ret pe_int)) pss_nil)
  pss_never))
abbrev s_Hall_ask : Stmt := inClass (top 28) 4
theorem sc_Hall_ask : FnScope n_Hall_ask ["self", "name"] (defScope s_Hall_ask) := ⟨rfl, rfl, rfl, by decide +kernel, rfl, by decide +kernel, by decide +kernel⟩
theorem ok_Hall_ask {P : Program} {w : World} {K : PySem.W.Frag} {mg : Str → Option Value} {base : Heap} (T : Tx K mg) (F_need_name : Ok P w K mg base 2 (ga K "need_name") ["name"] sp_need_name) (F_Asking___init__ : Ok P w K mg base 1 (ma K (ga K "Asking") "__init__") ["self", "house"] (sp_Asking_init K)) (F_Asking_come : Ok P w K mg base 1 (ma K (ga K "Asking") "come") ["self", "name"] (sp_come K)) : Ok P w K mg base 3 (ma K (ga K "Hall") "ask") ["self", "name"] (sp_ask K) := by
  refine ok0 T.d_Hall_ask sc_Hall_ask (fun _ _ _ _ _ _ us hl => match us, hl with | [_, _], _ => rfl) (fun vs H Q E h => ln_Hall_ask h) (fun cdv A outer s H vs Q E hr h => ⟨t_Hall_ask K (fun _ _ _ _ => False), ?_, pure_Hall_ask h⟩)
  have hu := hu_of hr
  have tk := L2.takes0 (X := (cxOf (L2.CX P w) P w K mg base n_Hall_ask "Hall.ask" (defScope s_Hall_ask) (ma K (ga K "Hall") "ask") cdv A outer s H E).nox)
  exact pss_cons (ps_expr (an_call F_need_name (hr.mono (by decide)) tk T.g_need_name (pa_cons (pv 1) pa_nil)))
      (pss_one (ps_ret (an_meth T.c_Asking T.m_Asking_come F_Asking_come (hr.mono (by decide)) (an_make T.mk_Asking F_Asking___init__ (hr.mono (by decide)) T.g_Asking (pa_cons (pv 0) pa_nil)) (pa_cons (pv 1) pa_nil) (ht := mcall_of (by rfl) fun _ => mcall_line (by rfl) (by rfl)))))
abbrev s_Hall_wells : Stmt := inClass (top 28) 10
theorem sc_Hall_wells : FnScope n_Hall_wells ["self"] (defScope s_Hall_wells) := ⟨rfl, rfl, rfl, by decide +kernel, rfl, by decide +kernel, by decide +kernel⟩
theorem ok_Hall_wells {P : Program} {w : World} {K : PySem.W.Frag} {mg : Str → Option Value} {base : Heap} (T : Tx K mg) : Ok P w K mg base 1 (ma K (ga K "Hall") "wells") ["self"] (sp_wells K) := by
  refine ok0 T.d_Hall_wells sc_Hall_wells (fun _ _ _ _ _ _ us hl => match us, hl with | [_], _ => rfl) (fun vs H Q E h => ln_Hall_wells h) (fun cdv A outer s H vs Q E hr h => ⟨t_Hall_wells K (fun _ _ _ _ => False), ?_, pure_Hall_wells h⟩)
  have hu := hu_of hr
  have tk := L2.takes0 (X := (cxOf (L2.CX P w) P w K mg base n_Hall_wells "Hall.wells" (defScope s_Hall_wells) (ma K (ga K "Hall") "wells") cdv A outer s H E).nox)
  exact pss_cons (ps_set (i := 1) sc_Hall_wells.nd rfl (Or.inl rfl) pe_dnewK)
      (pss_cons (ps_for PassesOwn.never rfl (pi_list (pe_callB cr_sortedS (by rfl) T.f_sorted (by decide +kernel) (pa_cons (pe_callTy (call_list_dK rfl) (by rfl) T.f_list (by decide +kernel) (pa_cons (an_fld T.c_Hall p_Hall_welled (pv 0)) pa_nil)) pa_nil))) (pg_name (i := 2) sc_Hall_wells.nd rfl (Or.inl rfl)) (pss_one (an_dput hu (pv 1) (pv 2) (an_dget hu (an_fld T.c_Hall p_Hall_welled (pv 0)) (pv 2)))))
      (pss_one (ps_ret (pv 1))))
abbrev s_Hall_works : Stmt := inClass (top 28) 11
theorem sc_Hall_works : FnScope n_Hall_works ["self"] (defScope s_Hall_works) := ⟨rfl, rfl, rfl, by decide +kernel, rfl, by decide +kernel, by decide +kernel⟩
theorem ok_Hall_works {P : Program} {w : World} {K : PySem.W.Frag} {mg : Str → Option Value} {base : Heap} (T : Tx K mg) : Ok P w K mg base 1 (ma K (ga K "Hall") "works") ["self"] (sp_works K) := by
  refine ok0 T.d_Hall_works sc_Hall_works (fun _ _ _ _ _ _ us hl => match us, hl with | [_], _ => rfl) (fun vs H Q E h => ln_Hall_works h) (fun cdv A outer s H vs Q E hr h => ⟨t_Hall_works K (fun _ _ _ _ => False), ?_, pure_Hall_works h⟩)
  have hu := hu_of hr
  have tk := L2.takes0 (X := (cxOf (L2.CX P w) P w K mg base n_Hall_works "Hall.works" (defScope s_Hall_works) (ma K (ga K "Hall") "works") cdv A outer s H E).nox)
  exact pss_cons (ps_set (i := 1) sc_Hall_works.nd rfl (Or.inl rfl) pe_dnewK)
      (pss_cons (ps_for PassesOwn.never rfl (pi_list (pe_callB cr_sortedS (by rfl) T.f_sorted (by decide +kernel) (pa_cons (pe_callTy (call_list_dK rfl) (by rfl) T.f_list (by decide +kernel) (pa_cons (an_fld T.c_Hall p_Hall_made (pv 0)) pa_nil)) pa_nil))) (pg_name (i := 2) sc_Hall_works.nd rfl (Or.inl rfl)) pss_never)
      (pss_one (ps_ret (pv 1))))
abbrev s_Hall_runs : Stmt := inClass (top 28) 5
theorem sc_Hall_runs : FnScope n_Hall_runs ["self"] (defScope s_Hall_runs) := ⟨rfl, rfl, rfl, by decide +kernel, rfl, by decide +kernel, by decide +kernel⟩
theorem ok_Hall_runs {P : Program} {w : World} {K : PySem.W.Frag} {mg : Str → Option Value} {base : Heap} (T : Tx K mg) : Ok P w K mg base 1 (ma K (ga K "Hall") "runs") ["self"] (sp_runs K) := by
  refine ok0 T.d_Hall_runs sc_Hall_runs (fun _ _ _ _ _ _ us hl => match us, hl with | [_], _ => rfl) (fun vs H Q E h => ln_Hall_runs h) (fun cdv A outer s H vs Q E hr h => ⟨t_Hall_runs K (fun _ _ _ _ => False), ?_, pure_Hall_runs h⟩)
  have hu := hu_of hr
  have tk := L2.takes0 (X := (cxOf (L2.CX P w) P w K mg base n_Hall_runs "Hall.runs" (defScope s_Hall_runs) (ma K (ga K "Hall") "runs") cdv A outer s H E).nox)
  exact pss_cons (ps_setLc (i := 1) (own := [("name", 2), ("reads", 3), ("answer", 4)]) (tt := tYes) rfl sc_Hall_runs.nd rfl rfl (sw_true rfl rfl rfl (by decide +kernel)) (pi_list (an_fld T.c_Hall p_Hall_taken (pv 0))) (blkOk_by (own := [("name", 2), ("reads", 3), ("answer", 4)]) (N := n_Hall_runs) (sc := defScope s_Hall_runs) (by decide +kernel)) (fun _ _ _ _ _ => pg_nev) (fun _ _ _ _ _ => pts_nil) (fun _ _ _ _ _ => pe_nev))
      (pss_cons (an_sfld T.c_Hall p_Hall_taken (pv 0) (pe_lst pa_nil))
      (pss_one (ps_ret (pv 1))))
abbrev s_Hall_rings : Stmt := inClass (top 28) 7
theorem sc_Hall_rings : FnScope n_Hall_rings ["self"] (defScope s_Hall_rings) := ⟨rfl, rfl, rfl, by decide +kernel, rfl, by decide +kernel, by decide +kernel⟩
theorem ok_Hall_rings {P : Program} {w : World} {K : PySem.W.Frag} {mg : Str → Option Value} {base : Heap} (T : Tx K mg) : Ok P w K mg base 1 (ma K (ga K "Hall") "rings") ["self"] (sp_rings K) := by
  refine ok0 T.d_Hall_rings sc_Hall_rings (fun _ _ _ _ _ _ us hl => match us, hl with | [_], _ => rfl) (fun vs H Q E h => ln_Hall_rings h) (fun cdv A outer s H vs Q E hr h => ⟨t_Hall_rings K (fun _ _ _ _ => False), ?_, pure_Hall_rings h⟩)
  have hu := hu_of hr
  have tk := L2.takes0 (X := (cxOf (L2.CX P w) P w K mg base n_Hall_rings "Hall.rings" (defScope s_Hall_rings) (ma K (ga K "Hall") "rings") cdv A outer s H E).nox)
  exact pss_cons (ps_set (i := 1) sc_Hall_rings.nd rfl (Or.inr rfl) pe_dnewK)
      (pss_cons (ps_lock (ps_for PassesOwn.never rfl (pi_keys (an_fld T.c_Hall p_Hall_kept (pv 0))) (pg_name (i := 2) sc_Hall_rings.nd rfl (Or.inl rfl)) pss_never))
      (pss_one (ps_ret (pe_callB cr_sortedS (by rfl) T.f_sorted (by decide +kernel) (pa_cons (pe_lock (pe_lc (own := [("number", 4)]) (tt := tYes) rfl sc_Hall_rings.nd (pi_keys (pv 1)) (blkOk_by (own := [("number", 4)]) (N := n_Hall_rings) (sc := defScope s_Hall_rings) (by decide +kernel)) (fun _ _ _ _ _ => pg_nev) (fun _ _ _ _ _ => pts_nil) (fun _ _ _ _ _ => pe_nev))) pa_nil)))))
abbrev s__law_cell_at : Stmt := top 30
theorem sc__law_cell_at : FnScope n__law_cell_at ["_law_script", "_law_k"] (defScope s__law_cell_at) := ⟨rfl, rfl, rfl, by decide +kernel, rfl, by decide +kernel, by decide +kernel⟩
theorem ok__law_cell_at {P : Program} {w : World} {K : PySem.W.Frag} {mg : Str → Option Value} {base : Heap} (T : Tx K mg) : Ok P w K mg base 1 (ga K "_law_cell_at") ["_law_script", "_law_k"] (sp_cell_at K) := by
  refine ok0 T.d__law_cell_at sc__law_cell_at (fun _ _ _ _ _ _ us hl => match us, hl with | [_, _], _ => rfl) (fun vs H Q E h => ln__law_cell_at h) (fun cdv A outer s H vs Q E hr h => ⟨t__law_cell_at K (fun _ _ _ _ => False), ?_, pure__law_cell_at h⟩)
  have hu := hu_of hr
  have tk := L2.takes0 (X := (cxOf (L2.CX P w) P w K mg base n__law_cell_at "_law_cell_at" (defScope s__law_cell_at) (ga K "_law_cell_at") cdv A outer s H E).nox)
  exact pss_cons (ps_if (pt_cmpR op_lt (pv 1) (pe_callB call_lenL (by rfl) T.f_len (by decide +kernel) (pa_cons (pv 0) pa_nil)) (nomark _)) (pss_one (ps_ret (pe_ix ix_list (pv 0) (pv 1) (fun _ _ => rfl)))) pss_nil)
      (pss_one (ps_ret pe_int))
abbrev s__law_names : Stmt := top 31
theorem sc__law_names : FnScope n__law_names ["_law_cell", "_law_many"] (defScope s__law_names) := ⟨rfl, rfl, rfl, by decide +kernel, rfl, by decide +kernel, by decide +kernel⟩
theorem ok__law_names {P : Program} {w : World} {K : PySem.W.Frag} {mg : Str → Option Value} {base : Heap} (T : Tx K mg) : Ok P w K mg base 1 (ga K "_law_names") ["_law_cell", "_law_many"] sp__law_names := by
  refine ok0 T.d__law_names sc__law_names (fun _ _ _ _ _ _ us hl => match us, hl with | [_, _], _ => rfl) (fun vs H Q E h => ln__law_names h) (fun cdv A outer s H vs Q E hr h => ⟨t__law_names K (fun _ _ _ _ => False), ?_, pure__law_names h⟩)
  have hu := hu_of hr
  have tk := L2.takes0 (X := (cxOf (L2.CX P w) P w K mg base n__law_names "_law_names" (defScope s__law_names) (ga K "_law_names") cdv A outer s H E).nox)
  exact pss_cons (ps_set (i := 2) sc__law_names.nd rfl (Or.inl rfl) pe_str)
      (pss_cons (ps_set (i := 3) sc__law_names.nd rfl (Or.inl rfl) (pe_op op_add pe_int (pe_op op_mod (pv 0) pe_int)))
      (pss_cons (ps_set (i := 4) sc__law_names.nd rfl (Or.inl rfl) (pe_op op_mod (pe_op op_fdivW (pv 0) pe_int) (pv 3)))
      (pss_cons (ps_set (i := 5) sc__law_names.nd rfl (Or.inl rfl) (pe_lst pa_nil))
      (pss_cons (ps_for PassesOwn.never rfl (pi_range1 (by rfl) T.f_range (pa_cons (pv 1) pa_nil)) (pg_name (i := 6) sc__law_names.nd rfl (Or.inl rfl)) (pss_cons (ps_set (i := 7) sc__law_names.nd rfl (Or.inl rfl) pe_str)
      (pss_cons (ps_for PassesOwn.never rfl (pi_range1 (by rfl) T.f_range (pa_cons (pv 3) pa_nil)) (pg_name (i := 8) sc__law_names.nd rfl (Or.inl rfl)) (pss_cons (ps_set (i := 9) sc__law_names.nd rfl (Or.inl rfl) (pe_op op_add (pe_op op_mod (pe_op op_fdivW (pv 0) pe_int) pe_int) (pe_op op_mulX pe_int (pv 8))))
      (pss_cons (ps_if (pt_cmpR op_eq (pv 8) (pv 4) (nomark _)) (pss_one (ps_set (i := 9) sc__law_names.nd rfl (Or.inl rfl) (pe_op op_add (pv 9) (pv 6)))) pss_nil)
      (pss_one (ps_set (i := 7) sc__law_names.nd rfl (Or.inl rfl) (pe_op op_addS (pv 7) (pe_ix ix_str (pv 2) (pe_op op_mod (pv 9) pe_int) (fun _ _ => rfl))))))))
      (pss_one (ps_expr (pe_bm PySem.F.plainAttrs_list PySem.F.slot_list_append PySem.F.type_list_append mt_append (pv 5) (pa_cons (pv 7) pa_nil)))))))
      (pss_one (ps_ret (pv 5)))))))
abbrev s__law_whole : Stmt := top 32
theorem sc__law_whole : FnScope n__law_whole ["_law_found"] (defScope s__law_whole) := ⟨rfl, rfl, rfl, by decide +kernel, rfl, by decide +kernel, by decide +kernel⟩
theorem ok__law_whole {P : Program} {w : World} {K : PySem.W.Frag} {mg : Str → Option Value} {base : Heap} (T : Tx K mg) : Ok P w K mg base 1 (ga K "_law_whole") ["_law_found"] sp__law_whole := by
  refine ok0 T.d__law_whole sc__law_whole (fun _ _ _ _ _ _ us hl => match us, hl with | [_], _ => rfl) (fun vs H Q E h => ln__law_whole h) (fun cdv A outer s H vs Q E hr h => ⟨t__law_whole K (fun _ _ _ _ => False), ?_, pure__law_whole h⟩)
  have hu := hu_of hr
  have tk := L2.takes0 (X := (cxOf (L2.CX P w) P w K mg base n__law_whole "_law_whole" (defScope s__law_whole) (ga K "_law_whole") cdv A outer s H E).nox)
  exact pss_one (ps_ret (pe_and (pe_callB call_isi (by rfl) T.f_isinstance (by decide +kernel) (pa_cons (pv 0) (pa_cons (pe_bltn (by rfl) T.f_int (by decide +kernel) rfl) pa_nil))) (pe_one (pe_not (pe_callB call_isi (by rfl) T.f_isinstance (by decide +kernel) (pa_cons (pv 0) (pa_cons (pe_bltn (by rfl) T.f_bool (by decide +kernel) rfl) pa_nil)))))))
abbrev s__law_sorted : Stmt := top 33
theorem sc__law_sorted : FnScope n__law_sorted ["_law_wells"] (defScope s__law_sorted) := ⟨rfl, rfl, rfl, by decide +kernel, rfl, by decide +kernel, by decide +kernel⟩
theorem ok__law_sorted {P : Program} {w : World} {K : PySem.W.Frag} {mg : Str → Option Value} {base : Heap} (T : Tx K mg) : Ok P w K mg base 1 (ga K "_law_sorted") ["_law_wells"] (sp__law_sorted K) := by
  refine ok0 T.d__law_sorted sc__law_sorted (fun _ _ _ _ _ _ us hl => match us, hl with | [_], _ => rfl) (fun vs H Q E h => ln__law_sorted h) (fun cdv A outer s H vs Q E hr h => ⟨t__law_sorted K (fun _ _ _ _ => False), ?_, pure__law_sorted h⟩)
  have hu := hu_of hr
  have tk := L2.takes0 (X := (cxOf (L2.CX P w) P w K mg base n__law_sorted "_law_sorted" (defScope s__law_sorted) (ga K "_law_sorted") cdv A outer s H E).nox)
  exact pss_one (ps_ret (pe_lc (own := [("_law_name", 1)]) (tt := tYes) rfl sc__law_sorted.nd (pi_list (pe_callB cr_sortedS (by rfl) T.f_sorted (by decide +kernel) (pa_cons (pe_callTy (call_list_dK rfl) (by rfl) T.f_list (by decide +kernel) (pa_cons (pv 0) pa_nil)) pa_nil))) (blkOk_by (own := [("_law_name", 1)]) (N := n__law_sorted) (sc := defScope s__law_sorted) (by decide +kernel)) (fun _ _ _ _ _ => (pg_name (i := 1) sc__law_sorted.nd rfl (Or.inl rfl))) (fun _ _ _ _ _ => pts_nil) (fun _ _ _ _ _ => (pe_tup (pa_cons (pv 1) (pa_cons (an_dget hu (pv 0) (pv 1)) pa_nil))))))
abbrev s_law : Stmt := top 34
theorem sc_law : FnScope n_law ["_law_script"] (defScope s_law) := ⟨rfl, rfl, rfl, by decide +kernel, rfl, by decide +kernel, by decide +kernel⟩
theorem ok_law {P : Program} {w : World} {K : PySem.W.Frag} {mg : Str → Option Value} {base : Heap} (T : Tx K mg) (F__law_cell_at : Ok P w K mg base 1 (ga K "_law_cell_at") ["_law_script", "_law_k"] (sp_cell_at K)) (F__law_names : Ok P w K mg base 1 (ga K "_law_names") ["_law_cell", "_law_many"] sp__law_names) (F_Hall___init__ : Ok P w K mg base 1 (ma K (ga K "Hall") "__init__") ["self"] (sp_Hall_init K)) (F_Hall_put : Ok P w K mg base 3 (ma K (ga K "Hall") "put") ["self", "name", "number"] (sp_put K)) (F_Hall_ask : Ok P w K mg base 3 (ma K (ga K "Hall") "ask") ["self", "name"] (sp_ask K)) (F__law_whole : Ok P w K mg base 1 (ga K "_law_whole") ["_law_found"] sp__law_whole) (F_Hall_wells : Ok P w K mg base 1 (ma K (ga K "Hall") "wells") ["self"] (sp_wells K)) (F__law_sorted : Ok P w K mg base 1 (ga K "_law_sorted") ["_law_wells"] (sp__law_sorted K)) (F_Hall_runs : Ok P w K mg base 1 (ma K (ga K "Hall") "runs") ["self"] (sp_runs K)) (F_Hall_works : Ok P w K mg base 1 (ma K (ga K "Hall") "works") ["self"] (sp_works K)) (F_Hall_rings : Ok P w K mg base 1 (ma K (ga K "Hall") "rings") ["self"] (sp_rings K)) : Ok P w K mg base 5 (ga K "law") ["_law_script"] (sp_law K) := by
  refine ok0 T.d_law sc_law (fun _ _ _ _ _ _ us hl => match us, hl with | [_], _ => rfl) (fun vs H Q E h => ln_law h) (fun cdv A outer s H vs Q E hr h => ⟨t_law K (fun _ _ _ _ => False), ?_, pure_law h⟩)
  have hu := hu_of hr
  have tk := L2.takes0 (X := (cxOf (L2.CX P w) P w K mg base n_law "law" (defScope s_law) (ga K "law") cdv A outer s H E).nox)
  exact pss_cons (ps_set (i := 1) sc_law.nd rfl (Or.inl rfl) (an_call F__law_names (hr.mono (by decide)) tk T.g__law_names (pa_cons (an_call F__law_cell_at (hr.mono (by decide)) tk T.g__law_cell_at (pa_cons (pv 0) (pa_cons pe_int pa_nil))) (pa_cons (pe_op op_add pe_int (pe_op op_mod (an_call F__law_cell_at (hr.mono (by decide)) tk T.g__law_cell_at (pa_cons (pv 0) (pa_cons pe_int pa_nil))) pe_int)) pa_nil))))
      (pss_cons (ps_set (i := 2) sc_law.nd rfl (Or.inl rfl) (pe_lst (pa_cons (an_make0 T.mk_Hall F_Hall___init__ (hr.mono (by decide)) T.g_Hall) (pa_cons (an_make0 T.mk_Hall F_Hall___init__ (hr.mono (by decide)) T.g_Hall) pa_nil))))
      (pss_cons (ps_set (i := 3) sc_law.nd rfl (Or.inl rfl) (pe_lst (pa_cons pe_dnewK (pa_cons pe_dnewK pa_nil))))
      (pss_cons (ps_set (i := 4) sc_law.nd rfl (Or.inl rfl) pe_int)
      (pss_cons (ps_for PassesOwn.never rfl (pi_list (pe_slice sl_list (pv 0) (po_some pe_int) po_none)) (pg_name (i := 5) sc_law.nd rfl (Or.inl rfl)) (pss_cons (ps_set (i := 4) sc_law.nd rfl (Or.inl rfl) (pe_op op_sub pe_int (pv 4)))
      (pss_cons (ps_set (i := 6) sc_law.nd rfl (Or.inl rfl) (pe_ix ix_list (pv 1) (pe_op op_mod (pv 5) (pe_callB call_lenL (by rfl) T.f_len (by decide +kernel) (pa_cons (pv 1) pa_nil))) (fun _ _ => rfl)))
      (pss_cons (ps_if (pt_cmpR op_eq (pe_op op_mod (pe_op op_fdivW (pv 5) pe_int) pe_int) pe_int (nomark _)) (pss_cons (ps_if (pt_cmpR op_notN1 (an_meth T.c_Hall T.m_Hall_put F_Hall_put (hr.mono (by decide)) (pe_ix ix_list (pv 2) (pv 4) (fun _ _ => rfl)) (pa_cons (pv 6) (pa_cons (pe_op op_mod (pe_op op_fdivW (pv 5) pe_int) pe_int) pa_nil))) pe_non (nomark _)) (pss_one (ps_ret pe_bl)) pss_nil)
      (pss_one (an_dput hu (pe_ix ix_list (pv 3) (pv 4) (fun _ _ => rfl)) (pv 6) (pe_op op_mod (pe_op op_fdivW (pv 5) pe_int) pe_int)))) pss_nil)
      (pss_cons (ps_set (i := 7) sc_law.nd rfl (Or.inr rfl) (an_meth T.c_Hall T.m_Hall_ask F_Hall_ask (hr.mono (by decide)) (pe_ix ix_list (pv 2) (pv 4) (fun _ _ => rfl)) (pa_cons (pv 6) pa_nil)))
      (pss_one (ps_if (PW.pt (pw_or (pt_not (pt_val (an_call F__law_whole (hr.mono (by decide)) tk T.g__law_whole (pa_cons (pv 7) pa_nil)))) (pw_or1 (pt_cmpR op_ne (pv 7) (an_dget2 hu (pe_ix ix_list (pv 3) (pv 4) (fun _ _ => rfl)) (pv 6) pe_int) (nomark _))))) (pss_one (ps_ret pe_bl)) pss_nil)))))))
      (pss_cons (ps_for PassesOwn.never rfl (pi_range1 (by rfl) T.f_range (pa_cons pe_int pa_nil)) (pg_name (i := 8) sc_law.nd rfl (Or.inl rfl)) (pss_cons (ps_set (i := 7) sc_law.nd rfl (Or.inr rfl) (an_meth0 T.c_Hall T.m_Hall_wells F_Hall_wells (hr.mono (by decide)) (pe_ix ix_list (pv 2) (pv 8) (fun _ _ => rfl))))
      (pss_cons (ps_if (PW.pt (pw_or (pt_not (pt_val (pe_callB call_isi (by rfl) T.f_isinstance (by decide +kernel) (pa_cons (pv 7) (pa_cons (pe_bltn (by rfl) T.f_dict (by decide +kernel) rfl) pa_nil))))) (pw_or1 (pt_cmpR (op_neY hr.units) (pe_lock (pe_lc (own := [("_law_name", 6)]) (tt := tYes) rfl sc_law.nd (pi_keys (pv 7)) (blkOk_by (own := [("_law_name", 6)]) (N := n_law) (sc := defScope s_law) (by decide +kernel)) (fun _ _ _ _ _ => (pg_name (i := 6) sc_law.nd rfl (Or.inl rfl))) (fun _ _ _ _ _ => pts_nil) (fun _ _ _ _ _ => (pe_tup (pa_cons (pv 6) (pa_cons (an_dget hu (pv 7) (pv 6)) pa_nil)))))) (an_call F__law_sorted (hr.mono (by decide)) tk T.g__law_sorted (pa_cons (pe_ix ix_list (pv 3) (pv 8) (fun _ _ => rfl)) pa_nil)) (nomark _))))) (pss_one (ps_ret pe_bl)) pss_nil)
      (pss_one (ps_if (PW.pt (pw_or (pt_cmpR (op_neY hr.units) (an_meth0 T.c_Hall T.m_Hall_runs F_Hall_runs (hr.mono (by decide)) (pe_ix ix_list (pv 2) (pv 8) (fun _ _ => rfl))) (pe_lst pa_nil) (nomark _)) (pw_or (pt_cmpR (op_neDL hr.units) (an_meth0 T.c_Hall T.m_Hall_works F_Hall_works (hr.mono (by decide)) (pe_ix ix_list (pv 2) (pv 8) (fun _ _ => rfl))) pe_dnewK (nomark _)) (pw_or1 (pt_cmpR (op_neY hr.units) (an_meth0 T.c_Hall T.m_Hall_rings F_Hall_rings (hr.mono (by decide)) (pe_ix ix_list (pv 2) (pv 8) (fun _ _ => rfl))) (pe_lst pa_nil) (nomark _)))))) (pss_one (ps_ret pe_bl)) pss_nil)))))
      (pss_one (ps_ret pe_bl)))))))

def fn : List He.DefD := [⟨("law", none), "law", "law", defArgs (top 34), defBody (top 34), defScope (top 34), [], []⟩, ⟨("is_name", none), "is_name", "is_name", defArgs (top 12), defBody (top 12), defScope (top 12), [], []⟩, ⟨("need_name", none), "need_name", "need_name", defArgs (top 27), defBody (top 27), defScope (top 27), [], []⟩, ⟨("Hall", some "__init__"), "__init__", "Hall.__init__", defArgs (inClass (top 28) 0), defBody (inClass (top 28) 0), defScope (inClass (top 28) 0), [], []⟩, ⟨("Hall", some "need_room"), "need_room", "Hall.need_room", defArgs (inClass (top 28) 1), defBody (inClass (top 28) 1), defScope (inClass (top 28) 1), [], []⟩, ⟨("Hall", some "put"), "put", "Hall.put", defArgs (inClass (top 28) 2), defBody (inClass (top 28) 2), defScope (inClass (top 28) 2), [], []⟩, ⟨("Asking", some "__init__"), "__init__", "Asking.__init__", defArgs (inClass (top 18) 0), defBody (inClass (top 18) 0), defScope (inClass (top 18) 0), [], []⟩, ⟨("Asking", some "come"), "come", "Asking.come", defArgs (inClass (top 18) 1), defBody (inClass (top 18) 1), defScope (inClass (top 18) 1), [], []⟩, ⟨("Hall", some "ask"), "ask", "Hall.ask", defArgs (inClass (top 28) 4), defBody (inClass (top 28) 4), defScope (inClass (top 28) 4), [], []⟩, ⟨("Hall", some "wells"), "wells", "Hall.wells", defArgs (inClass (top 28) 10), defBody (inClass (top 28) 10), defScope (inClass (top 28) 10), [], []⟩, ⟨("Hall", some "works"), "works", "Hall.works", defArgs (inClass (top 28) 11), defBody (inClass (top 28) 11), defScope (inClass (top 28) 11), [], []⟩, ⟨("Hall", some "runs"), "runs", "Hall.runs", defArgs (inClass (top 28) 5), defBody (inClass (top 28) 5), defScope (inClass (top 28) 5), [], []⟩, ⟨("Hall", some "rings"), "rings", "Hall.rings", defArgs (inClass (top 28) 7), defBody (inClass (top 28) 7), defScope (inClass (top 28) 7), [], []⟩, ⟨("_law_cell_at", none), "_law_cell_at", "_law_cell_at", defArgs (top 30), defBody (top 30), defScope (top 30), [], []⟩, ⟨("_law_names", none), "_law_names", "_law_names", defArgs (top 31), defBody (top 31), defScope (top 31), [], []⟩, ⟨("_law_whole", none), "_law_whole", "_law_whole", defArgs (top 32), defBody (top 32), defScope (top 32), [], []⟩, ⟨("_law_sorted", none), "_law_sorted", "_law_sorted", defArgs (top 33), defBody (top 33), defScope (top 33), [], []⟩]
def fa : List He.Fa := [.glo "law", .free "len", .int "LONGEST" 6, .str "LETTERS" "abcdefghijklmnopqrstuvwxyz", .glo "is_name", .noat "Hall" "number", .noat "Hall" "points", .noat "Hall" "taken", .noat "Hall" "sure", .noat "Hall" "kept", .noat "Hall" "made", .noat "Hall" "welled", .cls "Hall", .int "MOST_NAMES" 10, .glo "need_name", .int "MOST" 30, .meth "Hall" "need_room", .noat "Asking" "looked", .noat "Asking" "heard", .noat "Asking" "standing", .noat "Asking" "lowest", .noat "Asking" "place", .noat "Asking" "under", .noat "Asking" "house", .cls "Asking", .meth "Asking" "come", .mkr "Asking", .glo "Asking", .free "sorted", .free "list", .free "range", .free "isinstance", .free "int", .free "bool", .glo "_law_names", .glo "_law_cell_at", .mkr "Hall", .glo "Hall", .meth "Hall" "put", .meth "Hall" "ask", .glo "_law_whole", .meth "Hall" "wells", .free "dict", .glo "_law_sorted", .meth "Hall" "runs", .meth "Hall" "works", .meth "Hall" "rings"]
abbrev rowO : PySem.W.OpenRow := PySem.W.OpenLaw.row PySem.Challenge.rw_anewhall_k10_wells_and_noughts
abbrev hk : PySem.W.Hook := He.hookD 5 fa fn
def obT (s : PySem.W.SharedT) : He.AlD := He.obsDG 5 fa fn (HandSHeadRun.getT s)
theorem obT_eq (s : PySem.W.SharedT) : obT s = hk.obs s.abs := He.obsDG_eq (HandSHeadRun.getT_eq s)
theorem head_run (w : World) : HandSHeadRun.RunEq rowO (PySem.W.view rowO.prog [34]) hk obT 4000 ["_wall", "Knot", "Kept", "leans_of", "is_ring", "is_whole", "let_go", "MOST", "LETTERS", "LONGEST", "is_name", "answer_of", "led_to", "knots_of", "Asking", "HallError", "NoName", "NoNumber", "Full", "NoPoint", "MOST_NAMES", "need_name", "Hall", "_law_cell_at", "_law_names", "_law_whole", "_law_sorted"] w := by
  intro os
  kernel_rfl
theorem tx {K : PySem.W.Frag} {h : Heap} {mg : Str → Option Value} (X : K.In h) (G : h.Ns mainGlobals mg) (c : He.SaysD fa fn K) : Tx K mg where
  d_law := c.def_ 0 (d := He.DefD.mk ("law", none) "law" "law" (defArgs (top 34)) (defBody (top 34)) (defScope (top 34)) [] []) rfl
  g_law := He.glo_ok X G (c.fact 0 (f := .glo "law") rfl)
  d_is_name := c.def_ 1 (d := He.DefD.mk ("is_name", none) "is_name" "is_name" (defArgs (top 12)) (defBody (top 12)) (defScope (top 12)) [] []) rfl
  f_len := He.free_ok X G (c.fact 1 (f := .free "len") rfl)
  k_LONGEST := He.int_ok X G (c.fact 2 (f := .int "LONGEST" 6) rfl)
  k_LETTERS := He.str_ok X G (c.fact 3 (f := .str "LETTERS" "abcdefghijklmnopqrstuvwxyz") rfl)
  d_need_name := c.def_ 2 (d := He.DefD.mk ("need_name", none) "need_name" "need_name" (defArgs (top 27)) (defBody (top 27)) (defScope (top 27)) [] []) rfl
  g_is_name := He.glo_ok X G (c.fact 4 (f := .glo "is_name") rfl)
  d_Hall___init__ := c.def_ 3 (d := He.DefD.mk ("Hall", some "__init__") "__init__" "Hall.__init__" (defArgs (inClass (top 28) 0)) (defBody (inClass (top 28) 0)) (defScope (inClass (top 28) 0)) [] []) rfl
  c_Hall := ⟨He.cls_ok (c.fact 12 (f := .cls "Hall") rfl), noats_cons (He.noat_ok (c.fact 11 (f := .noat "Hall" "welled") rfl)) (noats_cons (He.noat_ok (c.fact 10 (f := .noat "Hall" "made") rfl)) (noats_cons (He.noat_ok (c.fact 9 (f := .noat "Hall" "kept") rfl)) (noats_cons (He.noat_ok (c.fact 8 (f := .noat "Hall" "sure") rfl)) (noats_cons (He.noat_ok (c.fact 7 (f := .noat "Hall" "taken") rfl)) (noats_cons (He.noat_ok (c.fact 6 (f := .noat "Hall" "points") rfl)) (noats_cons (He.noat_ok (c.fact 5 (f := .noat "Hall" "number") rfl)) (noats_nil)))))))⟩
  d_Hall_need_room := c.def_ 4 (d := He.DefD.mk ("Hall", some "need_room") "need_room" "Hall.need_room" (defArgs (inClass (top 28) 1)) (defBody (inClass (top 28) 1)) (defScope (inClass (top 28) 1)) [] []) rfl
  k_MOST_NAMES := He.int_ok X G (c.fact 13 (f := .int "MOST_NAMES" 10) rfl)
  d_Hall_put := c.def_ 5 (d := He.DefD.mk ("Hall", some "put") "put" "Hall.put" (defArgs (inClass (top 28) 2)) (defBody (inClass (top 28) 2)) (defScope (inClass (top 28) 2)) [] []) rfl
  g_need_name := He.glo_ok X G (c.fact 14 (f := .glo "need_name") rfl)
  k_MOST := He.int_ok X G (c.fact 15 (f := .int "MOST" 30) rfl)
  m_Hall_need_room := He.meth_ok (c.fact 16 (f := .meth "Hall" "need_room") rfl)
  d_Asking___init__ := c.def_ 6 (d := He.DefD.mk ("Asking", some "__init__") "__init__" "Asking.__init__" (defArgs (inClass (top 18) 0)) (defBody (inClass (top 18) 0)) (defScope (inClass (top 18) 0)) [] []) rfl
  c_Asking := ⟨He.cls_ok (c.fact 24 (f := .cls "Asking") rfl), noats_cons (He.noat_ok (c.fact 23 (f := .noat "Asking" "house") rfl)) (noats_cons (He.noat_ok (c.fact 22 (f := .noat "Asking" "under") rfl)) (noats_cons (He.noat_ok (c.fact 21 (f := .noat "Asking" "place") rfl)) (noats_cons (He.noat_ok (c.fact 20 (f := .noat "Asking" "lowest") rfl)) (noats_cons (He.noat_ok (c.fact 19 (f := .noat "Asking" "standing") rfl)) (noats_cons (He.noat_ok (c.fact 18 (f := .noat "Asking" "heard") rfl)) (noats_cons (He.noat_ok (c.fact 17 (f := .noat "Asking" "looked") rfl)) (noats_nil)))))))⟩
  d_Asking_come := c.def_ 7 (d := He.DefD.mk ("Asking", some "come") "come" "Asking.come" (defArgs (inClass (top 18) 1)) (defBody (inClass (top 18) 1)) (defScope (inClass (top 18) 1)) [] []) rfl
  d_Hall_ask := c.def_ 8 (d := He.DefD.mk ("Hall", some "ask") "ask" "Hall.ask" (defArgs (inClass (top 28) 4)) (defBody (inClass (top 28) 4)) (defScope (inClass (top 28) 4)) [] []) rfl
  m_Asking_come := He.meth_ok (c.fact 25 (f := .meth "Asking" "come") rfl)
  mk_Asking := He.mkr_ok (c.fact 26 (f := .mkr "Asking") rfl)
  g_Asking := He.glo_ok X G (c.fact 27 (f := .glo "Asking") rfl)
  d_Hall_wells := c.def_ 9 (d := He.DefD.mk ("Hall", some "wells") "wells" "Hall.wells" (defArgs (inClass (top 28) 10)) (defBody (inClass (top 28) 10)) (defScope (inClass (top 28) 10)) [] []) rfl
  f_sorted := He.free_ok X G (c.fact 28 (f := .free "sorted") rfl)
  f_list := He.free_ok X G (c.fact 29 (f := .free "list") rfl)
  d_Hall_works := c.def_ 10 (d := He.DefD.mk ("Hall", some "works") "works" "Hall.works" (defArgs (inClass (top 28) 11)) (defBody (inClass (top 28) 11)) (defScope (inClass (top 28) 11)) [] []) rfl
  d_Hall_runs := c.def_ 11 (d := He.DefD.mk ("Hall", some "runs") "runs" "Hall.runs" (defArgs (inClass (top 28) 5)) (defBody (inClass (top 28) 5)) (defScope (inClass (top 28) 5)) [] []) rfl
  d_Hall_rings := c.def_ 12 (d := He.DefD.mk ("Hall", some "rings") "rings" "Hall.rings" (defArgs (inClass (top 28) 7)) (defBody (inClass (top 28) 7)) (defScope (inClass (top 28) 7)) [] []) rfl
  d__law_cell_at := c.def_ 13 (d := He.DefD.mk ("_law_cell_at", none) "_law_cell_at" "_law_cell_at" (defArgs (top 30)) (defBody (top 30)) (defScope (top 30)) [] []) rfl
  d__law_names := c.def_ 14 (d := He.DefD.mk ("_law_names", none) "_law_names" "_law_names" (defArgs (top 31)) (defBody (top 31)) (defScope (top 31)) [] []) rfl
  f_range := He.free_ok X G (c.fact 30 (f := .free "range") rfl)
  d__law_whole := c.def_ 15 (d := He.DefD.mk ("_law_whole", none) "_law_whole" "_law_whole" (defArgs (top 32)) (defBody (top 32)) (defScope (top 32)) [] []) rfl
  f_isinstance := He.free_ok X G (c.fact 31 (f := .free "isinstance") rfl)
  f_int := He.free_ok X G (c.fact 32 (f := .free "int") rfl)
  f_bool := He.free_ok X G (c.fact 33 (f := .free "bool") rfl)
  d__law_sorted := c.def_ 16 (d := He.DefD.mk ("_law_sorted", none) "_law_sorted" "_law_sorted" (defArgs (top 33)) (defBody (top 33)) (defScope (top 33)) [] []) rfl
  g__law_names := He.glo_ok X G (c.fact 34 (f := .glo "_law_names") rfl)
  g__law_cell_at := He.glo_ok X G (c.fact 35 (f := .glo "_law_cell_at") rfl)
  mk_Hall := He.mkr_ok (c.fact 36 (f := .mkr "Hall") rfl)
  g_Hall := He.glo_ok X G (c.fact 37 (f := .glo "Hall") rfl)
  m_Hall_put := He.meth_ok (c.fact 38 (f := .meth "Hall" "put") rfl)
  m_Hall_ask := He.meth_ok (c.fact 39 (f := .meth "Hall" "ask") rfl)
  g__law_whole := He.glo_ok X G (c.fact 40 (f := .glo "_law_whole") rfl)
  m_Hall_wells := He.meth_ok (c.fact 41 (f := .meth "Hall" "wells") rfl)
  f_dict := He.free_ok X G (c.fact 42 (f := .free "dict") rfl)
  g__law_sorted := He.glo_ok X G (c.fact 43 (f := .glo "_law_sorted") rfl)
  m_Hall_runs := He.meth_ok (c.fact 44 (f := .meth "Hall" "runs") rfl)
  m_Hall_works := He.meth_ok (c.fact 45 (f := .meth "Hall" "works") rfl)
  m_Hall_rings := He.meth_ok (c.fact 46 (f := .meth "Hall" "rings") rfl)
theorem law_ok {P : Program} {w : World} {K : PySem.W.Frag} {mg : Str → Option Value} {base : Heap} (T : Tx K mg) : Ok P w K mg base 5 (ga K "law") ["_law_script"] (sp_law K) := by
  have F_is_name : Ok P w K mg base 1 (ga K "is_name") ["word"] sp_is_name := ok_is_name T
  have F_need_name : Ok P w K mg base 2 (ga K "need_name") ["name"] sp_need_name := ok_need_name T F_is_name
  have F_Hall___init__ : Ok P w K mg base 1 (ma K (ga K "Hall") "__init__") ["self"] (sp_Hall_init K) := ok_Hall___init__ T
  have F_Hall_need_room : Ok P w K mg base 1 (ma K (ga K "Hall") "need_room") ["self", "name"] (sp_need_room K) := ok_Hall_need_room T
  have F_Hall_put : Ok P w K mg base 3 (ma K (ga K "Hall") "put") ["self", "name", "number"] (sp_put K) := ok_Hall_put T F_need_name F_Hall_need_room
  have F_Asking___init__ : Ok P w K mg base 1 (ma K (ga K "Asking") "__init__") ["self", "house"] (sp_Asking_init K) := ok_Asking___init__ T
  have F_Asking_come : Ok P w K mg base 1 (ma K (ga K "Asking") "come") ["self", "name"] (sp_come K) := ok_Asking_come T
  have F_Hall_ask : Ok P w K mg base 3 (ma K (ga K "Hall") "ask") ["self", "name"] (sp_ask K) := ok_Hall_ask T F_need_name F_Asking___init__ F_Asking_come
  have F_Hall_wells : Ok P w K mg base 1 (ma K (ga K "Hall") "wells") ["self"] (sp_wells K) := ok_Hall_wells T
  have F_Hall_works : Ok P w K mg base 1 (ma K (ga K "Hall") "works") ["self"] (sp_works K) := ok_Hall_works T
  have F_Hall_runs : Ok P w K mg base 1 (ma K (ga K "Hall") "runs") ["self"] (sp_runs K) := ok_Hall_runs T
  have F_Hall_rings : Ok P w K mg base 1 (ma K (ga K "Hall") "rings") ["self"] (sp_rings K) := ok_Hall_rings T
  have F__law_cell_at : Ok P w K mg base 1 (ga K "_law_cell_at") ["_law_script", "_law_k"] (sp_cell_at K) := ok__law_cell_at T
  have F__law_names : Ok P w K mg base 1 (ga K "_law_names") ["_law_cell", "_law_many"] sp__law_names := ok__law_names T
  have F__law_whole : Ok P w K mg base 1 (ga K "_law_whole") ["_law_found"] sp__law_whole := ok__law_whole T
  have F__law_sorted : Ok P w K mg base 1 (ga K "_law_sorted") ["_law_wells"] (sp__law_sorted K) := ok__law_sorted T
  have F_law : Ok P w K mg base 5 (ga K "law") ["_law_script"] (sp_law K) := ok_law T F__law_cell_at F__law_names F_Hall___init__ F_Hall_put F_Hall_ask F__law_whole F_Hall_wells F__law_sorted F_Hall_runs F_Hall_works F_Hall_rings
  exact F_law
theorem law_at {P : Program} {w : World} {K : PySem.W.Frag} {mg : Str → Option Value} (T : Tx K mg) : ∃ fd : FuncData, (∀ base : Heap, FnOk P w K mg base (L2.CX P w) 5 (ga K "law") fd ["_law_script"] (sp_law K)) ∧ ∀ (s : Shared) (u : Value), BindsTo s fd ⟨[u], []⟩ [("_law_script", u)] :=
  ok_law_at T.d_law (fun _ _ _ _ _ _ us hl => match us, hl with | [_], _ => rfl) rfl fun base => law_ok T
end L2.An
open PySem PySem.W PySem.Calls PyProof.Rows
theorem PySem.Challenge.cw_anewhall_k10_wells_and_noughts_holds : PySem.Challenge.rw_anewhall_k10_wells_and_noughts.Holds := by
  w_on; o_law
  refine HandSHeadRun.head_any (r := OpenLaw.row PySem.Challenge.rw_anewhall_k10_wells_and_noughts) (q := view (OpenLaw.row PySem.Challenge.rw_anewhall_k10_wells_and_noughts).prog [34]) (H := L2.An.hk) (ob := L2.An.obT) (M := 4000) (loose := ["_wall", "Knot", "Kept", "leans_of", "is_ring", "is_whole", "let_go", "MOST", "LETTERS", "LONGEST", "is_name", "answer_of", "led_to", "knots_of", "Asking", "HallError", "NoName", "NoNumber", "Full", "NoPoint", "MOST_NAMES", "need_name", "Hall", "_law_cell_at", "_law_names", "_law_whole", "_law_sorted"]) (d := HandSHeadRun.topDef (OpenLaw.row PySem.Challenge.rw_anewhall_k10_wells_and_noughts).prog 34) (kwd := []) L2.An.obT_eq
    (by kernel_rfl) (fun s => by kernel_rfl) L2.An.head_run (by kernel_rfl) (by kernel_rfl) (by kernel_rfl) (by rfl) (by first | assumption | decide +kernel) (by decide +kernel) ⟨rfl, rfl, rfl, rfl, rfl, by decide +kernel⟩ ?hw ?hc
  case hw => w_witness2
  case hc =>
    refine LamX.walk_ofTsE (l := PySem.Challenge.rw_anewhall_k10_wells_and_noughts) (n := 63) (k := 5) (x := "_law_script") (CX := fun w => L2.CX (PySem.Challenge.rw_anewhall_k10_wells_and_noughts).prog w) rfl (by decide) (by kernel_rfl) ⟨rfl, by decide, by decide⟩ ?F (fun w H s e s' z => L2.An.cx_never z)
    intro w mg fa h Y G hmg0
    obtain ⟨K, KX, c⟩ := Y
    have hmg : mg ("law" : PySem.Str) = some (.ref fa) := by
      have e : (HandSHeadRun.topDef (OpenLaw.row PySem.Challenge.rw_anewhall_k10_wells_and_noughts).prog 34).name = ("law" : PySem.Str) := by kernel_rfl
      rw [← e]
      exact hmg0
    have T := L2.An.tx KX G c
    have e := hmg.symm.trans T.g_law
    cases e
    obtain ⟨fd, hF, hb⟩ := L2.An.law_at (P := (PySem.Challenge.rw_anewhall_k10_wells_and_noughts).prog) (w := w) T
    refine ⟨K, KX, fd, [], L2.An.sp_law K, ?_, ?_, ?_, hb, fun H a ns hl _ _ hS => L2.An.sp_law_of hS hl, fun base _ _ _ => hF base⟩ <;> exact fun _ h => nomatch h
